import PyProof.Rows.All
import Wide.All
import OpenK.AllK
import Wide.FinOn
import HandS.ForMost
import HandS.More
import HandS.IsInst
import HandS.Deep
import HandS.WideBits
import HandS.Wide
import HandS.Exc
import HandS.ExcField
import HandS.ExcIs
import HandS.ExcInit
import HandS.ExcSuper
import HandS.ExcValue
import KE.DataEq
import KE.DataFind
import PyProof.ReprRoads
import HandS.Zip
import HandS.Style
import HandS.Defaults
import HandS.Ends
import HandS.EndBits
import HandS.HeadEnd
import HandS.HeadHook3
import HandS.HeadHook4
import PySem.Challenge.RW_netsproved_k02_whole_formulas_judged
import HandS.Head2
set_option Elab.async false
set_option linter.all false
set_option maxRecDepth 100000
set_option maxHeartbeats 1000000
/-! # Values, the state, how they lie in the abstract heap -/
namespace NV
open PySem PySem.Spec PyProof.Rows L2

/-- a value, as plain data (tuples and settled lists by content; ref: a shared list that may change) -/
inductive W where
  | non | bl (b : Bool) | int (i : Int) | str (s : Str) | tup (l : List W) | lst (l : List W) | dct (ks vs : List W)
  | flst (l : List W) | fn (n : Nat) | ref (n : Nat) | exc (c : Nat) (w : W)
  deriving Inhabited

/-- where a program point stands: what is settled, where the shared lists lie -/
structure Wd where
  F : Addr → Prop
  mu : List Addr

/-- the constants of a law -/
structure Cn where
  K : PySem.W.Frag
  fa : List Addr
  xa : List Addr

def KT (K : PySem.W.Frag) (a : Addr) (vs : List V) : Prop := SqT K (fun _ => none) a vs
theorem KT.sq {K : PySem.W.Frag} {a : Addr} {vs : List V} (h : KT K a vs) (H : Hp) : SqT K H a vs := by
  rcases h with h | h
  · rcases h with h | ⟨o, h⟩ <;> cases h
  · exact .inr h
def KL (K : PySem.W.Frag) (a : Addr) (vs : List V) : Prop := SqL K (fun _ => none) a vs
theorem KL.sq {K : PySem.W.Frag} {a : Addr} {vs : List V} (h : KL K a vs) (H : Hp) : SqL K H a vs := by
  rcases h with h | h
  · rcases h with h | ⟨o, h⟩ <;> cases h
  · exact .inr h

mutual
def Rep (c : Cn) (d : Wd) (H : Hp) : W → V → Prop
  | .non, v => v = .non
  | .bl b, v => v = .bl b
  | .int i, v => v = .int i
  | .str s, v => v = .str s
  | .tup ws, v => ∃ a vs, v = .ref a ∧ ((d.F a ∧ H a = some (.tup vs)) ∨ KT c.K a vs) ∧ RepL c d H ws vs
  | .lst ws, v => ∃ a vs, v = .ref a ∧ d.F a ∧ H a = some (.lst vs) ∧ RepL c d H ws vs
  | .dct ks vs, v => ∃ a kvs, v = .ref a ∧ d.F a ∧ H a = some (.dK kvs) ∧ RepL c d H ks (kvs.map fun p => kV p.1) ∧ RepL c d H vs (kvs.map (·.2))
  | .flst ws, v => ∃ a vs, v = .ref a ∧ ((d.F a ∧ ∃ o, H a = some (.frz o (.lst vs))) ∨ KL c.K a vs) ∧ RepL c d H ws vs
  | .fn n, v => ∃ a, c.fa[n]? = some a ∧ v = .ref a
  | .ref n, v => ∃ a, d.mu[n]? = some a ∧ v = .ref a
  | .exc _ _, _ => False
def RepL (c : Cn) (d : Wd) (H : Hp) : List W → List V → Prop
  | [], vs => vs = []
  | w :: ws, vs => ∃ x r, vs = x :: r ∧ Rep c d H w x ∧ RepL c d H ws r
end

/-- what was settled stands as it stood -/
structure Le (d : Wd) (H : Hp) (d' : Wd) (H' : Hp) : Prop where
  f : ∀ a, d.F a → d'.F a ∧ H' a = H a
  mu : d.mu <+: d'.mu
theorem Le.refl {d : Wd} {H : Hp} : Le d H d H := ⟨fun _ h => ⟨h, rfl⟩, List.prefix_refl _⟩
theorem Le.trans {d d1 d2 : Wd} {H H1 H2 : Hp} (a : Le d H d1 H1) (b : Le d1 H1 d2 H2) : Le d H d2 H2 :=
  ⟨fun x h => ⟨(b.f x (a.f x h).1).1, (b.f x (a.f x h).1).2.trans (a.f x h).2⟩, a.mu.trans b.mu⟩
theorem Le.get {d d' : Wd} {H H' : Hp} (l : Le d H d' H') {n : Nat} {a : Addr} (h : d.mu[n]? = some a) : d'.mu[n]? = some a := by
  obtain ⟨t, e⟩ := l.mu
  rw [← e, List.getElem?_append_left (List.getElem?_eq_some_iff.mp h).1]
  exact h
section
variable {c : Cn} {d d' : Wd} {H H' : Hp}
mutual
theorem Rep.mono (l : Le d H d' H') : ∀ {w : W} {v : V}, Rep c d H w v → Rep c d' H' w v
  | .non, _, h => by simpa only [Rep] using h
  | .bl _, _, h => by simpa only [Rep] using h
  | .int _, _, h => by simpa only [Rep] using h
  | .str _, _, h => by simpa only [Rep] using h
  | .fn _, _, h => by simpa only [Rep] using h
  | .exc _ _, _, h => by simp only [Rep] at h
  | .ref _, _, h => by
    simp only [Rep] at h ⊢
    obtain ⟨a, h1, h2⟩ := h
    exact ⟨a, l.get h1, h2⟩
  | .tup ws, _, h => by
    simp only [Rep] at h ⊢
    obtain ⟨a, vs, e, h1, h2⟩ := h
    refine ⟨a, vs, e, ?_, RepL.mono l h2⟩
    rcases h1 with ⟨f, h1⟩ | h1
    · exact .inl ⟨(l.f a f).1, (l.f a f).2.trans h1⟩
    · exact .inr h1
  | .lst ws, _, h => by
    simp only [Rep] at h ⊢
    obtain ⟨a, vs, e, f, h1, h2⟩ := h
    exact ⟨a, vs, e, (l.f a f).1, (l.f a f).2.trans h1, RepL.mono l h2⟩
  | .dct ks ws, _, h => by
    simp only [Rep] at h ⊢
    obtain ⟨a, kvs, e, f, h1, h2, h3⟩ := h
    exact ⟨a, kvs, e, (l.f a f).1, (l.f a f).2.trans h1, RepL.mono l h2, RepL.mono l h3⟩
  | .flst ws, _, h => by
    simp only [Rep] at h ⊢
    obtain ⟨a, vs, e, h1, h2⟩ := h
    refine ⟨a, vs, e, ?_, RepL.mono l h2⟩
    rcases h1 with ⟨f, o, h1⟩ | h1
    · exact .inl ⟨(l.f a f).1, o, (l.f a f).2.trans h1⟩
    · exact .inr h1
theorem RepL.mono (l : Le d H d' H') : ∀ {ws : List W} {vs : List V}, RepL c d H ws vs → RepL c d' H' ws vs
  | [], _, h => by simpa only [RepL] using h
  | w :: ws, _, h => by
    simp only [RepL] at h ⊢
    obtain ⟨x, r, e, h1, h2⟩ := h
    exact ⟨x, r, e, Rep.mono l h1, RepL.mono l h2⟩
end
theorem RepL.length : ∀ {ws : List W} {vs : List V}, RepL c d H ws vs → vs.length = ws.length
  | [], _, h => by simp only [RepL] at h; rw [h]; rfl
  | w :: ws, _, h => by
    simp only [RepL] at h
    obtain ⟨x, r, e, _, h2⟩ := h
    rw [e, List.length_cons, List.length_cons, RepL.length h2]
theorem RepL.nil : RepL c d H [] [] := by simp only [RepL]
theorem RepL.cons {w : W} {x : V} {ws : List W} {r : List V} (h1 : Rep c d H w x) (h2 : RepL c d H ws r) : RepL c d H (w :: ws) (x :: r) := by
  simp only [RepL]
  exact ⟨x, r, rfl, h1, h2⟩
theorem RepL.uncons {w : W} {ws : List W} {vs : List V} (h : RepL c d H (w :: ws) vs) : ∃ x r, vs = x :: r ∧ Rep c d H w x ∧ RepL c d H ws r := by
  simpa only [RepL] using h
theorem RepL.unnil {vs : List V} (h : RepL c d H [] vs) : vs = [] := by simpa only [RepL] using h
theorem RepL.append : ∀ {ws : List W} {vs : List V} {ws' : List W} {vs' : List V}, RepL c d H ws vs → RepL c d H ws' vs' → RepL c d H (ws ++ ws') (vs ++ vs')
  | [], _, _, _, h, h' => by rw [h.unnil]; exact h'
  | _ :: _, _, _, _, h, h' => by
    obtain ⟨x, r, rfl, h1, h2⟩ := h.uncons
    exact .cons h1 (RepL.append h2 h')
theorem RepL.get : ∀ {ws : List W} {vs : List V} {i : Nat} {w : W}, RepL c d H ws vs → ws[i]? = some w → ∃ v, vs[i]? = some v ∧ Rep c d H w v
  | [], _, _, _, _, e => by simp at e
  | w :: ws, _, 0, _, h, e => by
    obtain ⟨x, r, rfl, h1, _⟩ := h.uncons
    simp at e; subst e
    exact ⟨x, rfl, h1⟩
  | w :: ws, _, i + 1, _, h, e => by
    obtain ⟨x, r, rfl, _, h2⟩ := h.uncons
    obtain ⟨v, a, b⟩ := RepL.get (i := i) h2 (by simpa using e)
    exact ⟨v, by simpa using a, b⟩
theorem RepL.set : ∀ {ws : List W} {vs : List V} (i : Nat) {w : W} {v : V}, RepL c d H ws vs → Rep c d H w v → RepL c d H (ws.set i w) (vs.set i v)
  | [], _, _, _, _, h, _ => by rw [h.unnil]; exact .nil
  | _ :: _, _, 0, _, _, h, r => by
    obtain ⟨x, t, rfl, _, h2⟩ := h.uncons
    exact .cons r h2
  | _ :: _, _, i + 1, _, _, h, r => by
    obtain ⟨x, t, rfl, h1, h2⟩ := h.uncons
    exact .cons h1 (RepL.set i h2 r)
theorem RepL.take : ∀ {ws : List W} {vs : List V} (n : Nat), RepL c d H ws vs → RepL c d H (ws.take n) (vs.take n)
  | _, _, 0, _ => .nil
  | [], _, _ + 1, h => by rw [h.unnil]; exact .nil
  | _ :: _, _, n + 1, h => by
    obtain ⟨x, t, rfl, h1, h2⟩ := h.uncons
    exact .cons h1 (RepL.take n h2)
theorem RepL.drop : ∀ {ws : List W} {vs : List V} (n : Nat), RepL c d H ws vs → RepL c d H (ws.drop n) (vs.drop n)
  | _, _, 0, h => h
  | [], _, _ + 1, h => by rw [h.unnil]; exact .nil
  | _ :: _, _, n + 1, h => by
    obtain ⟨x, t, rfl, _, h2⟩ := h.uncons
    exact RepL.drop n h2
end

/-! ### deep data -/
mutual
def W.toD : W → Option PyData
  | .non => some .none
  | .bl b => some (.bool b)
  | .int i => some (.int i)
  | .str s => some (.str s)
  | .tup ws => (W.toDs ws).map .tuple
  | .lst ws => (W.toDs ws).map .list
  | .flst ws => (W.toDs ws).map .list
  | _ => none
def W.toDs : List W → Option (List PyData)
  | [] => some []
  | w :: ws => match W.toD w, W.toDs ws with
    | some x, some xs => some (x :: xs)
    | _, _ => none
end
section
variable {c : Cn} {d d' : Wd} {H H' : Hp}
mutual
theorem Rep.dp : ∀ {w : W} {v : V} {x : PyData}, Rep c d H w v → w.toD = some x → Dp c.K H v x
  | .non, _, _, h, e => by simp only [Rep] at h; simp only [W.toD] at e; cases e; subst h; exact .non
  | .bl b, _, _, h, e => by simp only [Rep] at h; simp only [W.toD] at e; cases e; subst h; exact .bl b
  | .int i, _, _, h, e => by simp only [Rep] at h; simp only [W.toD] at e; cases e; subst h; exact .int i
  | .str i, _, _, h, e => by simp only [Rep] at h; simp only [W.toD] at e; cases e; subst h; exact .str i
  | .tup ws, _, _, h, e => by
    simp only [Rep] at h; simp only [W.toD] at e
    obtain ⟨a, vs, rfl, h1, h2⟩ := h
    cases q : W.toDs ws with
    | none => rw [q] at e; cases e
    | some ds =>
      rw [q] at e; cases e
      refine .tup (xs := vs) ?_ (RepL.dp h2 q)
      rcases h1 with ⟨_, h1⟩ | h1
      · exact .of h1
      · exact h1.sq H
  | .lst ws, _, _, h, e => by
    simp only [Rep] at h; simp only [W.toD] at e
    obtain ⟨a, vs, rfl, _, h1, h2⟩ := h
    cases q : W.toDs ws with
    | none => rw [q] at e; cases e
    | some ds =>
      rw [q] at e; cases e
      exact .lst (xs := vs) (.of h1) (RepL.dp h2 q)
  | .flst ws, _, _, h, e => by
    simp only [Rep] at h; simp only [W.toD] at e
    obtain ⟨a, vs, rfl, h1, h2⟩ := h
    cases q : W.toDs ws with
    | none => rw [q] at e; cases e
    | some ds =>
      rw [q] at e; cases e
      refine .lst (xs := vs) ?_ (RepL.dp h2 q)
      rcases h1 with ⟨_, o, h1⟩ | h1
      · exact .inl (.inr ⟨o, h1⟩)
      · exact h1.sq H
  | .dct _ _, _, _, _, e => by simp only [W.toD] at e; cases e
  | .fn _, _, _, _, e => by simp only [W.toD] at e; cases e
  | .ref _, _, _, _, e => by simp only [W.toD] at e; cases e
  | .exc _ _, _, _, _, e => by simp only [W.toD] at e; cases e
theorem RepL.dp : ∀ {ws : List W} {vs : List V} {xs : List PyData}, RepL c d H ws vs → W.toDs ws = some xs → DpAll c.K H vs xs
  | [], _, _, h, e => by rw [h.unnil]; simp only [W.toDs] at e; cases e; exact .nil
  | w :: ws, _, _, h, e => by
    obtain ⟨x, r, rfl, h1, h2⟩ := h.uncons
    simp only [W.toDs] at e
    cases q : W.toD w with
    | none => rw [q] at e; cases e
    | some y =>
      cases q2 : W.toDs ws with
      | none => rw [q, q2] at e; cases e
      | some ys =>
        rw [q, q2] at e; cases e
        exact .cons (Rep.dp h1 q) (RepL.dp h2 q2)
end
end
end NV
set_option Elab.async false
set_option linter.all false
set_option maxRecDepth 100000
set_option maxHeartbeats 1000000
/-! # The little language and its evaluator -/
namespace NV
open PySem PySem.Spec PyProof.Rows L2

/-- own: a list of the frame itself; true: it came from the caller and stays in its slot -/
inductive SV where
  | val (w : W) | own (l : Bool × List W)
  deriving Inhabited
abbrev Env := List (Option SV)
abbrev Sto := List (List W)
inductive RV where
  | val (w : W) | fresh (l : List W)
  deriving Inhabited
/-- an argument's value: settled, or a slot's list that is looked at when it is used -/
inductive AV where
  | val (w : W) | pk (i : Nat)
  deriving Inhabited
inductive Out (α : Type) where
  | ok (a : α) (ρ : Env) (S : Sto)
  | exn (k : Nat) (w : W) (ρ : Env) (S : Sto)
  | stuck
def Out.bind {α β : Type} (o : Out α) (f : α → Env → Sto → Out β) : Out β := match o with
  | .ok a ρ S => f a ρ S
  | .exn k w ρ S => .exn k w ρ S
  | .stuck => .stuck
@[simp] theorem Out.bind_ok {α β : Type} (a : α) (ρ : Env) (S : Sto) (f : α → Env → Sto → Out β) : (Out.ok a ρ S).bind f = f a ρ S := rfl
@[simp] theorem Out.bind_exn {α β : Type} (k : Nat) (w : W) (ρ : Env) (S : Sto) (f : α → Env → Sto → Out β) : (Out.exn k w ρ S : Out α).bind f = .exn k w ρ S := rfl
@[simp] theorem Out.bind_stuck {α β : Type} (f : α → Env → Sto → Out β) : (Out.stuck : Out α).bind f = .stuck := rfl
/-- a value settled -/
def RV.frz : RV → W
  | .val w => w
  | .fresh l => .lst l
@[simp] theorem RV.frz_val (w : W) : (RV.val w).frz = w := rfl
@[simp] theorem RV.frz_fresh (l : List W) : (RV.fresh l).frz = .lst l := rfl

/-- built-in functions and types, called; methods that change nothing -/
inductive Bi where
  | len | max2 | min2 | sum | repr | int | list | tuple | dict
  deriving DecidableEq
inductive Me where
  | bitLength | join | count | index | get
  deriving DecidableEq
inductive P where
  | bin (o : Operator) | cmp (o : CmpOp) | ix
  deriving DecidableEq
inductive Ty where
  | str | int | bool | list | tuple | dict
  deriving DecidableEq
inductive Mu where
  | append | extend | pop | popAt
  deriving DecidableEq

/-- expressions -/
inductive M where
  | nil | cons (a b : M)
  | cst (w : W)
  | nm (i : Nat) | pk (i : Nat) | mv (i : Nat)
  | gf (f : Nat) | gc (x : Str) (w : W)
  | gd (x : Str) (ks vs : List W) (a : M)
  | tup (as : M) | lst (as : M)
  | op2 (p : P) (a b : M)
  | neg (a : M)
  | sl (a lo hi : M)
  | bi (b : Bi) (as : M)
  | me (m : Me) (o as : M)
  | isi (a : M) (ts : List Ty)
  | and (a b : M) | or (a b : M) | not (a : M) | ite (t a b : M)
  | chain (o1 o2 : CmpOp) (a b c : M)
  | call (f : Nat) (as : M)
  | callk (f : Nat) (perm : List Nat) (as ks : M)
  | mut (m : Mu) (i : Nat) (as : M)
  | hmut (m : Mu) (o as : M)
  | heap (a : M)
  | lc (own : List Nat) (src tgt cond elt : M)
  | lc2 (own : List Nat) (src tgt cond src2 tgt2 cond2 elt : M)
  | edict | seq (a : M) | rng (as : M) | enum (as : M) | zip (as : M)
  | tnm (i : Nat) | ttup (ts : M)
  deriving Inhabited

/-! ### primitives -/
def szOk (n : Nat) : Bool := decide (n ≤ sizeLine)
def pBin : Operator → W → W → Option RV
  | .Add, .int i, .int j => some (.val (.int (i + j)))
  | .Add, .str a, .str b => if szOk (a.length + b.length) then some (.val (.str (a ++ b))) else none
  | .Add, .lst a, .lst b => if szOk (a.length + b.length) then some (.fresh (a ++ b)) else none
  | .Add, .tup a, .tup b => if !a.isEmpty && szOk (a.length + b.length) then some (.val (.tup (a ++ b))) else none
  | .Sub, .int i, .int j => some (.val (.int (i - j)))
  | .Mult, .int i, .int j => if decide (i.natAbs.log2 + j.natAbs.log2 < 1000000) then some (.val (.int (i * j))) else none
  | .Mult, .lst a, .int k => if decide (-(2 ^ 63) ≤ k) && decide (k < 2 ^ 63) && szOk (a.length * k.toNat) then some (.fresh (List.replicate k.toNat a).flatten) else none
  | .FloorDiv, .int i, .int j => if decide (0 < j) && decide (j.natAbs.log2 < 9000) then some (.val (.int (i / j))) else none
  | .Mod, .int i, .int j => if decide (0 < j) then some (.val (.int (i % j))) else none
  | .Pow, .int i, .int j => if decide (0 ≤ j) && decide ((Builtin.Int.intBits i : Int) * j ≤ 2 ^ 27) then some (.val (.int (i ^ j.toNat))) else none
  | _, _, _ => none
def dOk (x : PyData) : Bool := decide (x.depth ≤ 64)
def wEq (a b : W) : Option Bool := match a.toD, b.toD with
  | some x, some y => if dOk x || dOk y then some (PyData.eqv x y) else none
  | _, _ => none
def wInL (l : List W) (x : W) : Option Bool := match W.toDs l, x.toD with
  | some xs, some d => if dOk d then some (xs.any fun y => PyData.eqv y d) else none
  | _, _ => none
def wIn (x y : W) : Option Bool := match y with
  | .str z => match x with
    | .str s => match s.cps.toList with
      | [c] => some (decide (c ∈ z.cps.toList))
      | _ => none
    | _ => none
  | .lst l => wInL l x
  | .flst l => wInL l x
  | .tup l => wInL l x
  | _ => none
def W.isNon : W → Bool
  | .non => true
  | _ => false
/-- is it this truth value -/
def W.isBl (b : Bool) : W → Bool
  | .bl a => a == b
  | _ => false
def pCmp : CmpOp → W → W → Option Bool
  | .Eq, a, b => wEq a b
  | .NotEq, a, b => (wEq a b).map (!·)
  | .Lt, .int i, .int j => some (decide (i < j))
  | .LtE, .int i, .int j => some (decide (i ≤ j))
  | .Gt, .int i, .int j => some (decide (j < i))
  | .GtE, .int i, .int j => some (decide (j ≤ i))
  | .Is, a, .non => some a.isNon
  | .IsNot, a, .non => some (!a.isNon)
  | .Is, a, .bl b => some (a.isBl b)
  | .In, a, b => wIn a b
  | .NotIn, a, b => (wIn a b).map (!·)
  | _, _, _ => none
def dctFind : List W → List W → Str → Option W
  | .str k :: ks, w :: vs, z => if k = z then some w else dctFind ks vs z
  | .int _ :: ks, _ :: vs, z => dctFind ks vs z
  | _, _, _ => none
def pIx : W → W → Option W
  | .lst l, .int i => atI l i
  | .flst l, .int i => atI l i
  | .tup l, .int i => atI l i
  | .str z, .int i => if szOk z.length then (atI z.cps.toList i).map fun c => .str ⟨#[c]⟩ else none
  | .dct ks vs, .str z => dctFind ks vs z
  | _, _ => none
def pOp2 : P → W → W → Option RV
  | .bin o, a, b => pBin o a b
  | .cmp o, a, b => (pCmp o a b).map fun b => .val (.bl b)
  | .ix, a, b => (pIx a b).map .val
/-- the items of l[lo:hi] -/
def cutW (l : List W) (lo hi : Option Int) : List W := (l.drop (HT.sIx l.length 0 lo)).take (HT.sIx l.length l.length hi - HT.sIx l.length 0 lo)
def pSl : W → Option Int → Option Int → Option RV
  | .lst l, lo, hi => some (.fresh (cutW l lo hi))
  | .flst l, lo, hi => some (.fresh (cutW l lo hi))
  | .str z, lo, hi => if szOk z.length then some (.val (.str (L2.cutS z lo hi))) else none
  | .tup l, lo, hi => if decide (HT.sIx l.length 0 lo = 0) && decide (HT.sIx l.length l.length hi = l.length) then none else some (.val (.tup (cutW l lo hi)))
  | _, _, _ => none
def wInts : List W → Option (List Int)
  | [] => some []
  | .int i :: r => (wInts r).map (i :: ·)
  | _ :: _ => none
def wStrs : List W → Option (List Str)
  | [] => some []
  | .str i :: r => (wStrs r).map (i :: ·)
  | _ :: _ => none
/-- a list of pairs, unlike texts ahead, as a dict -/
def dctOf : List W → Option (List Str × List W)
  | [] => some ([], [])
  | .tup [.str k, v] :: r => match dctOf r with
    | some (ks, vs) => if k ∈ ks then none else some (k :: ks, v :: vs)
    | none => none
  | _ => none
def reprW (a : W) : Option Str := match a.toD with
  | some x => if dOk x && (x.showable && szOk x.shown.length) then some x.shown else none
  | none => none
def pBi : Bi → List W → Option RV
  | .len, [.lst l] => some (.val (.int l.length))
  | .len, [.flst l] => some (.val (.int l.length))
  | .len, [.tup l] => some (.val (.int l.length))
  | .len, [.str z] => if szOk z.length then some (.val (.int z.length)) else none
  | .max2, [.int i, .int j] => some (.val (.int (if j > i then j else i)))
  | .min2, [.int i, .int j] => some (.val (.int (if j < i then j else i)))
  | .sum, [.lst l] => (wInts l).map fun ns => .val (.int ns.sum)
  | .sum, [.flst l] => (wInts l).map fun ns => .val (.int ns.sum)
  | .repr, [.dct [] []] => some (.val (.str "{}"))
  | .repr, [a] => (reprW a).map fun z => .val (.str z)
  | .int, [.int i] => some (.val (.int i))
  | .int, [.bl b] => some (.val (.int (if b then 1 else 0)))
  | .list, [.lst l] => some (.fresh l)
  | .list, [.flst l] => some (.fresh l)
  | .list, [.tup l] => some (.fresh l)
  | .tuple, [.lst l] => some (.val (.tup l))
  | .tuple, [.flst l] => some (.val (.tup l))
  | .tuple, [.tup l] => some (.val (.tup l))
  | .dict, [.lst l] => (dctOf l).map fun p => .val (.dct (p.1.map .str) p.2)
  | _, _ => none
def pMe : Me → W → List W → Option RV
  | .bitLength, .int i, [] => some (.val (.int (Builtin.Int.intBits i)))
  | .join, .str a, [.lst l] => (wStrs l).bind fun ys => if decide ((ys.map (·.length)).sum + ys.length * a.length ≤ 16777216) then some (.val (.str (Txt.join a ys))) else none
  | .count, .lst l, [y] => match W.toDs l, y.toD with
    | some xs, some d => if dOk d then some (.val (.int ((xs.countP fun z => PyData.eqv z d : Nat) : Int))) else none
    | _, _ => none
  | _, _, _ => none
def tyMe : Me → W → Bool
  | .bitLength, .int _ => true
  | .join, .str _ => true
  | .count, .lst _ => true
  | .index, .lst _ => true
  | .get, .dct _ _ => true
  | _, _ => false
def tyOk (m : Me) : Option W → Bool
  | some u => tyMe m u
  | none => false
def isTy : Ty → W → Bool
  | .str, .str _ => true
  | .int, .int _ | .int, .bl _ => true
  | .bool, .bl _ => true
  | .list, .lst _ | .list, .flst _ => true
  | .tuple, .tup _ => true
  | .dict, .dct _ _ => true
  | _, _ => false
def isiW : W → List Ty → Option Bool
  | .fn _, _ | .ref _, _ | .exc _ _, _ => none
  | w, ts => some (ts.any fun t => isTy t w)

/-! ### the environment -/
def sget (ρ : Env) (i : Nat) : Option SV := (ρ[i]?).join
/-- read: a list that was the slot's own is settled -/
def rdEnv (ρ : Env) (i : Nat) : Option (W × Env) := match sget ρ i with
  | some (.val w) => some (w, ρ)
  | some (.own l) => if l.1 then none else some (.lst l.2, ρ.set i (some (.val (.lst l.2))))
  | none => none
def pkEnv (ρ : Env) (i : Nat) : Option W := match sget ρ i with
  | some (.val w) => some w
  | some (.own l) => some (.lst l.2)
  | none => none
/-- a shared list looked at -/
def res (S : Sto) : W → W
  | .ref n => match S[n]? with
    | some l => .lst l
    | none => .ref n
  | w => w
def AV.get (ρ : Env) (S : Sto) : AV → Option W
  | .val w => some (res S w)
  | .pk i => (pkEnv ρ i).map (res S)
def avs (ρ : Env) (S : Sto) : List AV → Option (List W)
  | [] => some []
  | a :: r => match a.get ρ S, avs ρ S r with
    | some w, some ws => some (w :: ws)
    | _, _ => none
/-- arguments that are all settled -/
def vals : List AV → Option (List W)
  | [] => some []
  | .val w :: r => (vals r).map (w :: ·)
  | .pk _ :: _ => none
def wipeE (ρ : Env) : List Nat → Env
  | [] => ρ
  | i :: r => (wipeE ρ r).set i none
/-- behind a comprehension: its own names as they were, if they were settled -/
def backE (ρ ρ' : Env) : List Nat → Env
  | [] => ρ'
  | i :: r => (backE ρ ρ' r).set i (match sget ρ i with
    | some (.val w) => some (.val w)
    | _ => none)

/-! ### targets -/
/-- a slot that may be given another value -/
def freeS (ρ : Env) (i : Nat) : Bool := decide (i < ρ.length) && match sget ρ i with
  | some (.own l) => !l.1
  | _ => true
def putT (ρ : Env) (i : Nat) (s : SV) : Option Env := if freeS ρ i then some (ρ.set i (some s)) else none
def asgT : M → W → Env → Option Env
  | .tnm i, w, ρ => putT ρ i (.val w)
  | .ttup ts, w, ρ => match w with
    | .tup l => asgTs ts l ρ
    | _ => none
  | _, _, _ => none
where asgTs : M → List W → Env → Option Env
  | .nil, [], ρ => some ρ
  | .cons t ts, w :: l, ρ => match asgT t w ρ with
    | some ρ1 => asgTs ts l ρ1
    | none => none
  | _, _, _ => none

/-! ### loops over items -/
def lcLoop (tgt : W → Env → Option Env) (f : Env → Sto → Out (Option W)) (own : List Nat) : List W → List W → Env → Sto → Out (List W)
  | [], acc, ρ, S => .ok acc ρ S
  | w :: r, acc, ρ, S => match tgt w ρ with
    | none => .stuck
    | some ρ1 => match f ρ1 S with
      | .ok (some x) ρ2 S2 => if acc.length < sizeLine then lcLoop tgt f own r (acc ++ [x]) (wipeE ρ2 own) S2 else .stuck
      | .ok none ρ2 S2 => lcLoop tgt f own r acc (wipeE ρ2 own) S2
      | _ => .stuck

/-- a list's own method: what it hands back, the list behind it -/
def muE (m : Mu) (xs : List W) (ρ : Env) (S : Sto) (l : List AV) : Option (W × List W) := match m, l with
  | .append, [.val w] => if xs.length < sizeLine then some (.non, xs ++ [w]) else none
  | .extend, [x] => match x.get ρ S with
    | some (.lst ys) => if xs.length + ys.length ≤ sizeLine then some (.non, xs ++ ys) else none
    | _ => none
  | .pop, [] => match xs[xs.length - 1]? with
    | some y => some (y, xs.dropLast)
    | none => none
  | .popAt, [.val (.int k)] => if decide (-(2 ^ 63) ≤ k) && decide (k < 2 ^ 63) then match seqIndex? k xs.length with
      | some j => match xs[j]? with
        | some y => some (y, xs.eraseIdx j)
        | none => none
      | none => none
    else none
  | _, _ => none

/-! ### the evaluator -/
abbrev CallF := Nat → List SV → Sto → Out RV

/-- the caller's list, for the callee -/
def pinS : SV → SV
  | .val w => .val w
  | .own l => .own (true, l.2)
/-- arguments of a call of one's own def: a slot's own list goes by itself (pk), all else by value -/
def argSV (ρ : Env) : List AV → Option (List SV)
  | [] => some []
  | .val w :: r => (argSV ρ r).map (.val w :: ·)
  | .pk i :: r => match sget ρ i, argSV ρ r with
    | some s, some t => some (pinS s :: t)
    | _, _ => none
/-- the slots behind the call: a slot's own list is what the callee left of it -/
def backA (ρ : Env) : List AV → List (Option SV) → Option Env
  | [], _ => some ρ
  | .val _ :: r, _ :: t => backA ρ r t
  | .pk i :: r, s :: t => match sget ρ i with
    | some (.own l) => match s with
      | some (.own l') => backA (ρ.set i (some (.own (l.1, l'.2)))) r t
      | _ => none
    | _ => backA ρ r t
  | _, [] => none
def pks : List AV → List Nat
  | [] => []
  | .val _ :: r => pks r
  | .pk i :: r => i :: pks r

def rngL : List W → Option (List W)
  | [.int n] => if decide (-(2 ^ 62) ≤ n) && decide (n < 2 ^ 62) then some ((List.range n.toNat).map fun (i : Nat) => .int i) else none
  | [.int m, .int n] => if (decide (-(2 ^ 62) ≤ m) && decide (m < 2 ^ 62)) && (decide (-(2 ^ 62) ≤ n) && decide (n < 2 ^ 62)) then some ((List.range (n - m).toNat).map fun (i : Nat) => .int (m + i)) else none
  | [.int m, .int n, .int c] => if (decide (c ≠ 0) && decide (c.natAbs < 1073741824)) && (Builtin.Range.small m n c && decide (0 ≤ Builtin.Range.rangeSize m n c)) then some ((List.range (Builtin.Range.rangeSize m n c).toNat).map fun (i : Nat) => .int (m + i * c)) else none
  | _ => none
def enumL : Nat → List W → List W
  | _, [] => []
  | n, w :: r => .tup [.int n, w] :: enumL (n + 1) r
def zipL : List W → List W → List W
  | a :: r, b :: t => .tup [a, b] :: zipL r t
  | _, _ => []
def zipW : W → W → Option (List W)
  | .lst a, .lst b => some (zipL a b)
  | .tup a, .tup b => some (zipL a b)
  | _, _ => none
def doCall (cf : CallF) (f : Nat) (l : List AV) (ρ : Env) (S : Sto) : Out RV := match argSV ρ l with
  | some args => if (pks l).Nodup then
      match cf f args S with
      | .ok r ρ' S' => match backA ρ l ρ' with
        | some ρ2 => .ok r ρ2 S'
        | none => .stuck
      | .exn k w ρ' S' => match backA ρ l ρ' with
        | some ρ2 => .exn k w ρ2 S'
        | none => .stuck
      | .stuck => .stuck
    else .stuck
  | none => .stuck
/-- which of the written values each parameter gets -/
def pickL {α : Type} (l : List α) : List Nat → Option (List α)
  | [] => some []
  | i :: r => match l[i]?, pickL l r with
    | some x, some t => some (x :: t)
    | _, _ => none

def argV (g : Env → Sto → Out RV) : M → Env → Sto → Out AV
  | .pk i, ρ, S => match sget ρ i with
    | some _ => .ok (.pk i) ρ S
    | none => .stuck
  | _, ρ, S => (g ρ S).bind fun r ρ S => .ok (.val r.frz) ρ S
def optO (g : Env → Sto → Out RV) : M → Env → Sto → Out (Option Int)
  | .nil, ρ, S => .ok none ρ S
  | _, ρ, S => (g ρ S).bind fun r ρ S => match r with
    | .val (.int i) => .ok (some i) ρ S
    | _ => .stuck
mutual
def evE (cf : CallF) : M → Env → Sto → Out RV
  | .cst w, ρ, S => .ok (.val w) ρ S
  | .gf f, ρ, S => .ok (.val (.fn f)) ρ S
  | .gc _ w, ρ, S => .ok (.val w) ρ S
  | .nm i, ρ, S => match rdEnv ρ i with
    | some (w, ρ') => .ok (.val w) ρ' S
    | none => .stuck
  | .mv i, ρ, S => match sget ρ i with
    | some (.val w) => .ok (.val w) ρ S
    | some (.own l) => if l.1 then .stuck else .ok (.fresh l.2) (ρ.set i none) S
    | none => .stuck
  | .gd _ ks vs a, ρ, S => (evE cf a ρ S).bind fun r ρ S => match pIx (.dct ks vs) r.frz with
    | some w => .ok (.val w) ρ S
    | none => .stuck
  | .tup as, ρ, S => (evA cf as ρ S).bind fun l ρ S => match vals l with
    | some ws => if szOk ws.length then .ok (.val (.tup ws)) ρ S else .stuck
    | none => .stuck
  | .lst as, ρ, S => (evA cf as ρ S).bind fun l ρ S => match vals l with
    | some ws => if szOk ws.length then .ok (.fresh ws) ρ S else .stuck
    | none => .stuck
  | .op2 p a b, ρ, S => (argV (evE cf a) a ρ S).bind fun x ρ S => (argV (evE cf b) b ρ S).bind fun y ρ S => match x.get ρ S, y.get ρ S with
    | some u, some v => match pOp2 p u v with
      | some r => .ok r ρ S
      | none => .stuck
    | _, _ => .stuck
  | .neg a, ρ, S => (evE cf a ρ S).bind fun x ρ S => match x.frz with
    | .int i => .ok (.val (.int (-i))) ρ S
    | _ => .stuck
  | .sl a lo hi, ρ, S => (argV (evE cf a) a ρ S).bind fun x ρ S => (optO (evE cf lo) lo ρ S).bind fun l ρ S => (optO (evE cf hi) hi ρ S).bind fun h ρ S => match x.get ρ S with
    | some u => match pSl u l h with
      | some r => .ok r ρ S
      | none => .stuck
    | none => .stuck
  | .bi b as, ρ, S => (evA cf as ρ S).bind fun l ρ S => match avs ρ S l with
    | some ws => match pBi b ws with
      | some r => .ok r ρ S
      | none => .stuck
    | none => .stuck
  | .me m o as, ρ, S => (argV (evE cf o) o ρ S).bind fun x ρ S => if tyOk m (x.get ρ S) then (evA cf as ρ S).bind fun l ρ S => match x.get ρ S, avs ρ S l with
    | some u, some ws => match pMe m u ws with
      | some r => .ok r ρ S
      | none => .stuck
    | _, _ => .stuck
    else .stuck
  | .isi a ts, ρ, S => (argV (evE cf a) a ρ S).bind fun x ρ S => match x.get ρ S with
    | some u => match isiW u ts with
      | some b => .ok (.val (.bl b)) ρ S
      | none => .stuck
    | none => .stuck
  | .and a b, ρ, S => (evE cf a ρ S).bind fun x ρ S => match x with
    | .val (.bl true) => evE cf b ρ S
    | .val (.bl false) => .ok (.val (.bl false)) ρ S
    | _ => .stuck
  | .or a b, ρ, S => (evE cf a ρ S).bind fun x ρ S => match x with
    | .val (.bl false) => evE cf b ρ S
    | .val (.bl true) => .ok (.val (.bl true)) ρ S
    | _ => .stuck
  | .not a, ρ, S => (evE cf a ρ S).bind fun x ρ S => match x with
    | .val (.bl b) => .ok (.val (.bl (!b))) ρ S
    | _ => .stuck
  | .ite t a b, ρ, S => (evE cf t ρ S).bind fun x ρ S => match x with
    | .val (.bl true) => evE cf a ρ S
    | .val (.bl false) => evE cf b ρ S
    | _ => .stuck
  | .chain o1 o2 a b c, ρ, S => (evE cf a ρ S).bind fun x ρ S => (evE cf b ρ S).bind fun y ρ S => match pCmp o1 x.frz y.frz with
    | some true => (evE cf c ρ S).bind fun z ρ S => match pCmp o2 y.frz z.frz with
      | some r => .ok (.val (.bl r)) ρ S
      | none => .stuck
    | some false => .ok (.val (.bl false)) ρ S
    | none => .stuck
  | .call f as, ρ, S => (evA cf as ρ S).bind fun l ρ S => doCall cf f l ρ S
  | .callk f perm as ks, ρ, S => (evA cf as ρ S).bind fun l1 ρ S => (evA cf ks ρ S).bind fun l2 ρ S => match pickL (l1 ++ l2) perm with
    | some l => doCall cf f l ρ S
    | none => .stuck
  | .mut m i as, ρ, S => match sget ρ i with
    | some (.own _) => (evA cf as ρ S).bind fun l ρ S => match sget ρ i with
      | some (.own xs) => match muE m xs.2 ρ S l with
        | some (w, ys) => .ok (.val w) (ρ.set i (some (.own (xs.1, ys)))) S
        | none => .stuck
      | _ => .stuck
    | _ => .stuck
  | .hmut m o as, ρ, S => (argV (evE cf o) o ρ S).bind fun x ρ S => match x with
    | .val (.ref n) => match S[n]? with
      | some _ => (evA cf as ρ S).bind fun l ρ S => match S[n]? with
        | some xs => match muE m xs ρ S l with
          | some (w, ys) => .ok (.val w) ρ (S.set n ys)
          | none => .stuck
        | none => .stuck
      | none => .stuck
    | _ => .stuck
  | .heap a, ρ, S => (evE cf a ρ S).bind fun r ρ S => match r with
    | .fresh l => .ok (.val (.ref S.length)) ρ (S ++ [l])
    | _ => .stuck
  | .edict, ρ, S => .ok (.val (.dct [] [])) ρ S
  | .lc own src tgt cond elt, ρ, S => (evI cf src ρ S).bind fun ws ρ S => if own.all (freeS ρ) then
      match lcLoop (asgT tgt) (fun ρ S => (evE cf cond ρ S).bind fun x ρ S => match x with
          | .val (.bl true) => (evE cf elt ρ S).bind fun y ρ S => .ok (some y.frz) ρ S
          | .val (.bl false) => .ok none ρ S
          | _ => .stuck) own ws [] (wipeE ρ own) S with
      | .ok l ρ' S' => .ok (.fresh l) (backE ρ ρ' own) S'
      | _ => .stuck
    else .stuck
  | _, _, _ => .stuck
def evA (cf : CallF) : M → Env → Sto → Out (List AV)
  | .nil, ρ, S => .ok [] ρ S
  | .cons a b, ρ, S => (argV (evE cf a) a ρ S).bind fun x ρ S => (evA cf b ρ S).bind fun r ρ S => .ok (x :: r) ρ S
  | _, _, _ => .stuck
/-- what a loop walks -/
def evI (cf : CallF) : M → Env → Sto → Out (List W)
  | .seq a, ρ, S => (evE cf a ρ S).bind fun r ρ S => match r.frz with
    | .lst l | .flst l | .tup l => .ok l ρ S
    | .str z => .ok (z.cps.toList.map fun c => .str ⟨#[c]⟩) ρ S
    | _ => .stuck
  | .rng as, ρ, S => (evA cf as ρ S).bind fun l ρ S => match vals l with
    | some ws => match rngL ws with
      | some r => .ok r ρ S
      | none => .stuck
    | none => .stuck
  | .enum as, ρ, S => (evA cf as ρ S).bind fun l ρ S => match vals l with
    | some [.lst l] | some [.flst l] => .ok (enumL 0 l) ρ S
    | _ => .stuck
  | .zip as, ρ, S => (evA cf as ρ S).bind fun l ρ S => match vals l with
    | some [a, b] => match zipW a b with
      | some r => .ok r ρ S
      | none => .stuck
    | _ => .stuck
  | _, _, _ => .stuck
end
/-- an argument: a slot is only looked at -/
def evV (cf : CallF) (m : M) : Env → Sto → Out AV := argV (evE cf m) m
/-- a slice's part -/
def evO (cf : CallF) (m : M) : Env → Sto → Out (Option Int) := optO (evE cf m) m
end NV
set_option Elab.async false
set_option linter.all false
set_option maxRecDepth 100000
set_option maxHeartbeats 1000000
namespace NV
open PySem PySem.Spec PyProof.Rows L2
theorem loopP {ε : Type} {ps : List Str} {f : (Str × Value) → List (Str × Value) × ε → Sem (ForInStep (List (Str × Value) × ε))} (hf : ∀ p s e, p.1 ∈ ps → s.lookup p.1 = none → f p (s, e) = pure (.yield (s ++ [(p.1, p.2)], e))) :
    ∀ (kw : List (Str × Value)) (s : List (Str × Value)) (e : ε), (∀ p ∈ kw, p.1 ∈ ps) → (kw.Pairwise fun p q => p.1 ≠ q.1) → (∀ p ∈ kw, s.lookup p.1 = none) → forIn kw (s, e) f = (pure (s ++ kw, e) : Sem _)
  | [], s, e, _, _, _ => by rw [List.forIn_nil, List.append_nil]
  | p :: r, s, e, h1, h2, h3 => by
    rw [List.forIn_cons, hf p s e (h1 _ (List.mem_cons_self ..)) (h3 _ (List.mem_cons_self ..)), pure_bind]
    show forIn r (s ++ [(p.1, p.2)], e) f = _
    rw [loopP hf r _ e (fun q hq => h1 q (List.mem_cons_of_mem _ hq)) (List.pairwise_cons.mp h2).2 (fun q hq => ?_), List.append_assoc]; · rfl
    rw [List.lookup_append, h3 q (List.mem_cons_of_mem _ hq), Option.none_or, List.lookup_cons]
    have : (q.1 == p.1) = false := by rw [beq_eq_false_iff_ne]; exact fun z => (List.pairwise_cons.mp h2).1 q hq z.symm
    rw [this]; rfl
theorem bind_plain {fd : FuncData} {ps : List Str} {us : List Value} {kw : List (Str × Value)} (h1 : fd.params.posonlyargs = []) (h2 : fd.params.args.map (·.arg) = ps) (h3 : fd.params.kwonlyargs = []) (h4 : fd.params.vararg = none) (h5 : fd.params.kwarg = none) (h6 : fd.defaults = .none)
    (hl : us.length ≤ ps.length) (hk : ∀ p ∈ kw, p.1 ∈ ps) (hn : kw.Pairwise fun p q => p.1 ≠ q.1) (hu : ∀ p ∈ kw, (ps.zip us).lookup p.1 = none) (ha : ∀ n ∈ ps, ((ps.zip us ++ kw).lookup n).isSome) :
    bindArgs fd ⟨us, kw⟩ = pure (ps.filterMap fun n => ((ps.zip us ++ kw).lookup n).map (n, ·)) := by
  unfold bindArgs
  simp only [h1, h2, h3, h4, h5, h6, List.map_nil, List.nil_append, List.append_nil]
  rw [loopP (ps := ps) (fun p s e hp hs => by
    have : ps.contains p.1 = true := by simpa using hp
    simp only [this, hs, Bool.true_or, if_true, Option.isSome_none, Bool.false_eq_true, if_false]) kw (ps.zip us) _ hk hn hu]
  rw [pure_bind]
  have e1 : seqItems? Value.none = (pure none : Sem (Option (Array Value))) := rfl
  rw [e1, pure_bind]
  have e2 : decide (us.length > ps.length) = false := by rw [decide_eq_false_iff_not]; omega
  have e3 : List.filter (fun n => (List.lookup n (ps.zip us ++ kw)).isNone) ps = [] := by
    rw [List.filter_eq_nil_iff]
    intro n hn
    have := ha n hn
    cases q : List.lookup n (ps.zip us ++ kw) with
    | none => rw [q] at this; cases this
    | some v => simp
  simp only [Option.getD_none, e2, Bool.false_and, Bool.false_eq_true, if_false, List.drop_nil, List.length_nil, Nat.sub_zero, List.take_length, e3, List.isEmpty_nil, Bool.not_true, List.drop_length, List.zip_nil_left, List.forIn_nil, pure_bind]
/-- names in the order in which values are written, the places by parameter -/
theorem lookup_zip : ∀ {ns : List Str} {vs : List Value} {i : Nat} {n : Str} {v : Value}, ns.Nodup → ns[i]? = some n → vs[i]? = some v → (ns.zip vs).lookup n = some v
  | a :: ns, b :: vs, 0, n, v, _, h1, h2 => by cases h1; cases h2; simp [List.zip_cons_cons, List.lookup_cons]
  | a :: ns, b :: vs, i + 1, n, v, hd, h1, h2 => by
    rw [List.zip_cons_cons, List.lookup_cons]
    have h1' : ns[i]? = some n := by simpa using h1
    have h2' : vs[i]? = some v := by simpa using h2
    have hm := List.mem_of_getElem? h1'
    have : (n == a) = false := by rw [beq_eq_false_iff_ne]; rintro rfl; exact (List.nodup_cons.mp hd).1 hm
    rw [this]
    exact lookup_zip (List.nodup_cons.mp hd).2 h1' h2'
theorem lookup_zip_none : ∀ {ns : List Str} {vs : List Value} {n : Str}, n ∉ ns → (ns.zip vs).lookup n = none
  | [], _, n, _ => rfl
  | a :: ns, [], n, _ => rfl
  | a :: ns, b :: vs, n, h => by
    rw [List.zip_cons_cons, List.lookup_cons]
    have : (n == a) = false := by rw [beq_eq_false_iff_ne]; rintro rfl; exact h (List.mem_cons_self ..)
    rw [this]
    exact lookup_zip_none fun z => h (List.mem_cons_of_mem _ z)
theorem filterMap_pick {ns : List Str} {vs : List Value} (hd : ns.Nodup) : ∀ {ps : List Str} {perm : List Nat} {us : List Value}, pickL ns perm = some ps → pickL vs perm = some us → ps.filterMap (fun n => ((ns.zip vs).lookup n).map (n, ·)) = ps.zip us ∧ ∀ n ∈ ps, ((ns.zip vs).lookup n).isSome
  | ps, [], us, h1, h2 => by cases h1; cases h2; exact ⟨rfl, fun n h => by cases h⟩
  | ps, i :: r, us, h1, h2 => by
    simp only [pickL] at h1 h2
    split at h1
    · rename_i x t q1 q2
      cases h1
      split at h2
      · rename_i y u q3 q4
        cases h2
        obtain ⟨k1, k2⟩ := filterMap_pick hd q2 q4
        have q := lookup_zip hd q1 q3
        refine ⟨by rw [List.filterMap_cons, q, k1]; rfl, fun n hn => ?_⟩
        rcases List.mem_cons.mp hn with z | z
        · rw [z, q]; rfl
        · exact k2 n z
      · cases h2
    · cases h1
theorem zip_takeL : ∀ {ns : List Str} {vs : List Value}, (ns.take vs.length).zip vs = ns.zip vs
  | [], _ => by simp
  | _ :: _, [] => rfl
  | a :: ns, b :: vs => by
    show ((a :: ns.take vs.length).zip (b :: vs)) = _
    rw [List.zip_cons_cons, List.zip_cons_cons, zip_takeL]
structure Plain (ps : List Str) (p : Arguments) : Prop where
  po : p.posonlyargs = []
  ar : p.args.map (·.arg) = ps
  ko : p.kwonlyargs = []
  va : p.vararg = none
  kw : p.kwarg = none
/-- us: by place, then by keyword -/
theorem bind_kw {fd : FuncData} {ps ks : List Str} {us ws vals : List Value} {perm : List Nat} (P : Plain ps fd.params) (h6 : fd.defaults = .none) (hw : ws.length = ks.length) (hp : us.length ≤ ps.length) (hn : (ps.take us.length ++ ks).Nodup) (hm : ∀ x ∈ ks, x ∈ ps)
    (h1 : pickL (ps.take us.length ++ ks) perm = some ps) (h2 : pickL (us ++ ws) perm = some vals) : bindArgs fd ⟨us, ks.zip ws⟩ = pure (ps.zip vals) := by
  have e : ps.zip us ++ ks.zip ws = (ps.take us.length ++ ks).zip (us ++ ws) := by
    rw [List.zip_append (by rw [List.length_take]; omega)]
    rw [zip_takeL]
  obtain ⟨k1, k2⟩ := filterMap_pick hn h1 h2
  rw [bind_plain P.po P.ar P.ko P.va P.kw h6 hp (fun p h => hm _ (List.of_mem_zip h).1) ?_ ?_ (by rw [e]; exact k2), e, k1]
  · have hk : ks.Nodup := (List.nodup_append.mp hn).2.1
    have : (ks.zip ws).map (·.1) = ks := List.map_fst_zip (by omega)
    rw [← this] at hk
    exact List.pairwise_map.mp hk
  · intro p h
    rw [← zip_takeL]
    refine lookup_zip_none fun z => ?_
    exact (List.nodup_append.mp hn).2.2 _ z _ (List.of_mem_zip h).1 rfl
end NV
set_option Elab.async false
set_option linter.all false
set_option maxRecDepth 100000
set_option maxHeartbeats 1000000
/-! # The state of the little language in the abstract heap -/
namespace NV
open PySem PySem.Spec PyProof.Rows L2

/-- a point that is looked back to: what was settled, the heap; B: lists that may be written; P: slots that hold lists of the caller -/
structure Ent where
  d : Wd
  H : Hp
  B : Addr → Prop
  P : List (Nat × Addr)

def ownAt (ρ : Env) (σ : L2.St) (i : Nat) (a : Addr) : Prop := (∃ l, ρ[i]? = some (some (.own l))) ∧ σ[i]? = some (some (.ref a))
def owns (ρ : Env) (σ : L2.St) (a : Addr) : Prop := ∃ i, ownAt ρ σ i a

/-- a list's content, as it stands now -/
def CRep (c : Cn) (d : Wd) (H : Hp) (w : W) (v : V) : Prop := match w with
  | .lst l => ∃ a vs, v = .ref a ∧ H a = some (.lst vs) ∧ RepL c d H l vs
  | w => Rep c d H w v
def SvR (c : Cn) (d : Wd) (H : Hp) : SV → V → Prop
  | .val w, v => Rep c d H w v
  | .own l, v => ∃ a vs, v = .ref a ∧ H a = some (.lst vs) ∧ RepL c d H l.2 vs ∧ ¬ d.F a ∧ a ∉ d.mu

structure Sim (c : Cn) (e : Ent) (d : Wd) (ρ : Env) (S : Sto) (σ : L2.St) (H : Hp) : Prop where
  le0 : Le e.d e.H d H
  dom : ∀ a, d.F a → H a ≠ none
  fr : ∀ a o, e.H a = some o → ¬ e.B a → a ∉ e.d.mu → H a = some o
  new : ∀ a, d.F a → e.d.F a ∨ e.H a = none ∨ e.B a
  mun : ∀ a, a ∈ d.mu → a ∈ e.d.mu ∨ e.H a = none
  dm : ∀ a, e.H a ≠ none → H a ≠ none
  mlen : d.mu.length = S.length
  nodup : d.mu.Nodup
  cell : ∀ (l : Nat) (ws : List W), S[l]? = some ws → ∃ a vs, d.mu[l]? = some a ∧ H a = some (.lst vs) ∧ RepL c d H ws vs ∧ ¬ d.F a
  len : ρ.length = σ.length
  slot : ∀ (i : Nat) (s : SV), ρ[i]? = some (some s) → ∃ v, σ[i]? = some (some v) ∧ SvR c d H s v
  own : ∀ (i : Nat) (a : Addr), ownAt ρ σ i a → e.B a ∨ e.H a = none
  inj : ∀ (i j : Nat) (a : Addr), ownAt ρ σ i a → ownAt ρ σ j a → i = j
  par : ∀ p ∈ e.P, σ[p.1]? = some (some (.ref p.2)) ∧ ∃ l : List W, ρ[p.1]? = some (some (.own (true, l)))

/-- looked at from here -/
def rb (e : Ent) (d : Wd) (H : Hp) (ρ : Env) (σ : L2.St) : Ent := ⟨d, H, owns ρ σ, e.P⟩

section
variable {c : Cn} {e : Ent} {d d' : Wd} {ρ ρ' : Env} {S S' : Sto} {σ σ' : L2.St} {H H' : Hp}

theorem Sim.ownH (s : Sim c e d ρ S σ H) {i : Nat} {a : Addr} (h : ownAt ρ σ i a) : ∃ l vs, ρ[i]? = some (some (.own l)) ∧ H a = some (.lst vs) ∧ RepL c d H l.2 vs ∧ ¬ d.F a ∧ a ∉ d.mu := by
  obtain ⟨⟨l, h1⟩, h2⟩ := h
  obtain ⟨v, q, r⟩ := s.slot i _ h1
  rw [h2] at q; cases q
  obtain ⟨b, vs, eb, r1, r2, r3, r4⟩ := r
  cases eb
  exact ⟨l, vs, h1, r1, r2, r3, r4⟩
theorem Sim.ownsH (s : Sim c e d ρ S σ H) {a : Addr} (h : owns ρ σ a) : H a ≠ none ∧ ¬ d.F a ∧ a ∉ d.mu := by
  obtain ⟨i, h⟩ := h
  obtain ⟨l, vs, _, h2, _, h3, h4⟩ := s.ownH h
  exact ⟨by rw [h2]; simp, h3, h4⟩
theorem Sim.muH (s : Sim c e d ρ S σ H) {a : Addr} (h : a ∈ d.mu) : H a ≠ none ∧ ¬ d.F a := by
  obtain ⟨l, hl, ha⟩ := List.getElem_of_mem h
  have hl' : l < S.length := by rw [← s.mlen]; exact hl
  obtain ⟨b, vs, h1, h2, _, h4⟩ := s.cell l S[l] (List.getElem?_eq_getElem hl')
  rw [List.getElem?_eq_getElem hl, ha] at h1; cases h1
  exact ⟨by rw [h2]; simp, h4⟩
theorem Sim.mono0 (s : Sim c e d ρ S σ H) (t : Sim c (NV.rb e d H ρ σ) d' ρ' S' σ' H') : Le d H d' H' := t.le0
theorem Sim.rb (s : Sim c e d ρ S σ H) : Sim c (NV.rb e d H ρ σ) d ρ S σ H where
  le0 := .refl
  dom := s.dom
  fr := fun _ _ h _ _ => h
  new := fun _ h => .inl h
  mun := fun _ h => .inl h
  dm := fun _ h => h
  mlen := s.mlen
  nodup := s.nodup
  cell := s.cell
  len := s.len
  slot := s.slot
  own := fun i a h => .inl ⟨i, h⟩
  inj := s.inj
  par := s.par
theorem Sim.gone (s : Sim c e d ρ S σ H) {a : Addr} (h : H a = none) : e.H a = none := by
  cases q : e.H a with
  | none => rfl
  | some o => exact absurd h (s.dm a (by rw [q]; simp))
theorem Sim.comp (s : Sim c e d ρ S σ H) (t : Sim c (NV.rb e d H ρ σ) d' ρ' S' σ' H') : Sim c e d' ρ' S' σ' H' where
  le0 := s.le0.trans t.le0
  dom := t.dom
  fr := fun a o h hb hm => by
    have h1 := s.fr a o h hb hm
    refine t.fr a o h1 (fun hw => ?_) (fun hm' => ?_)
    · obtain ⟨i, hi⟩ := hw
      rcases s.own i a hi with z | z
      · exact hb z
      · rw [z] at h; cases h
    · rcases s.mun a hm' with z | z
      · exact hm z
      · rw [z] at h; cases h
  new := fun a h => by
    rcases t.new a h with z | z | z
    · exact s.new a z
    · exact .inr (.inl (s.gone z))
    · obtain ⟨i, hi⟩ := z
      rcases s.own i a hi with z | z
      · exact .inr (.inr z)
      · exact .inr (.inl z)
  mun := fun a h => by
    rcases t.mun a h with z | z
    · exact s.mun a z
    · exact .inr (s.gone z)
  dm := fun a h => t.dm a (s.dm a h)
  mlen := t.mlen
  nodup := t.nodup
  cell := t.cell
  len := t.len
  slot := t.slot
  own := fun i a h => by
    rcases t.own i a h with z | z
    · obtain ⟨j, hj⟩ := z
      exact s.own j a hj
    · exact .inr (s.gone z)
  inj := t.inj
  par := t.par

/-- an expression's value -/
def RvR (c : Cn) (e : Ent) (d : Wd) (ρ : Env) (σ : L2.St) (H : Hp) : RV → V → Prop
  | .val w, v => Rep c d H w v
  | .fresh l, v => ∃ a vs, v = .ref a ∧ H a = some (.lst vs) ∧ RepL c d H l vs ∧ ¬ d.F a ∧ a ∉ d.mu ∧ e.H a = none ∧ ¬ owns ρ σ a
def AvR (c : Cn) (d : Wd) (σ : L2.St) (H : Hp) : AV → V → Prop
  | .val w, v => Rep c d H w v
  | .pk i, v => σ[i]? = some (some v)
def AvsR (c : Cn) (d : Wd) (σ : L2.St) (H : Hp) : List AV → List V → Prop
  | [], vs => vs = []
  | x :: r, vs => ∃ v t, vs = v :: t ∧ AvR c d σ H x v ∧ AvsR c d σ H r t
theorem AvR.mono (l : Le d H d' H') : ∀ {x : AV} {v : V}, AvR c d σ H x v → AvR c d' σ H' x v
  | .val _, _, h => Rep.mono l h
  | .pk _, _, h => h
theorem AvsR.mono (l : Le d H d' H') : ∀ {xs : List AV} {vs : List V}, AvsR c d σ H xs vs → AvsR c d' σ H' xs vs
  | [], _, h => h
  | _ :: _, _, ⟨v, t, e, h1, h2⟩ => ⟨v, t, e, h1.mono l, AvsR.mono l h2⟩
/-- a fresh value stays what it is while something else is reckoned -/
theorem RvR.keep (s : Sim c e d ρ S σ H) (t : Sim c (NV.rb e d H ρ σ) d' ρ' S' σ' H') {r : RV} {v : V} (h : RvR c e d ρ σ H r v) : RvR c e d' ρ' σ' H' r v := by
  cases r with
  | val w => exact Rep.mono t.le0 h
  | fresh l =>
    obtain ⟨a, vs, ev, h1, h2, h3, h4, h5, h6⟩ := h
    have hm : H a ≠ none := by rw [h1]; simp
    refine ⟨a, vs, ev, t.fr a _ h1 h6 h4, RepL.mono t.le0 h2, fun z => ?_, fun z => ?_, h5, fun z => ?_⟩
    · rcases t.new a z with q | q | q
      · exact h3 q
      · exact hm q
      · exact h6 q
    · rcases t.mun a z with q | q
      · exact h4 q
      · exact hm q
    · obtain ⟨i, hi⟩ := z
      rcases t.own i a hi with q | q
      · exact h6 q
      · exact hm q
/-- more is settled -/
def Wd.more (d : Wd) (N : Addr → Prop) : Wd := ⟨fun a => d.F a ∨ N a, d.mu⟩
theorem Le.more {N : Addr → Prop} : Le d H (d.more N) H := ⟨fun _ h => ⟨.inl h, rfl⟩, List.prefix_refl _⟩
theorem SvR.mono (l : Le d H d' H') (hm : d'.mu = d.mu) : ∀ {s : SV} {v : V}, SvR c d H s v → (∀ a vs, v = .ref a → H a = some (.lst vs) → ¬ d.F a → H' a = some (.lst vs) ∧ ¬ d'.F a) → SvR c d' H' s v
  | .val _, _, h, _ => Rep.mono l h
  | .own _, _, ⟨a, vs, e, h1, h2, h3, h4⟩, k => ⟨a, vs, e, (k a vs e h1 h3).1, RepL.mono l h2, (k a vs e h1 h3).2, by rw [hm]; exact h4⟩
/-- more is settled (N), the environment told otherwise: no further own lists -/
theorem Sim.ren (s : Sim c e d ρ S σ H) {N : Addr → Prop} (h1 : ∀ a, N a → H a ≠ none) (h2 : ∀ a, N a → e.H a = none ∨ e.B a) (h3 : ∀ a, N a → ¬ owns ρ' σ a) (h4 : ∀ a, N a → a ∉ d.mu)
    (hl : ρ'.length = ρ.length) (ho : ∀ j a, ownAt ρ' σ j a → ownAt ρ σ j a)
    (hs : ∀ (j : Nat) (s' : SV), ρ'[j]? = some (some s') → ρ[j]? = some (some s') ∨ ∃ v, σ[j]? = some (some v) ∧ SvR c (d.more N) H s' v)
    (hp : ∀ p ∈ e.P, ∃ l : List W, ρ'[p.1]? = some (some (.own (true, l)))) : Sim c e (d.more N) ρ' S σ H where
  le0 := s.le0.trans .more
  dom := fun a h => Or.elim h (s.dom a) (h1 a)
  fr := s.fr
  new := fun a h => Or.elim h (s.new a) fun z => .inr (h2 a z)
  mun := s.mun
  dm := s.dm
  mlen := s.mlen
  nodup := s.nodup
  cell := fun l ws q => by
    obtain ⟨a, vs, q1, q2, q3, q4⟩ := s.cell l ws q
    exact ⟨a, vs, q1, q2, RepL.mono .more q3, fun z => Or.elim z q4 fun z => h4 a z (List.mem_of_getElem? q1)⟩
  len := hl.trans s.len
  slot := fun i sv q => by
    rcases hs i sv q with q' | h
    · obtain ⟨v, q1, q2⟩ := s.slot i sv q'
      refine ⟨v, q1, ?_⟩
      cases sv with
      | val w => exact Rep.mono .more q2
      | own l =>
        obtain ⟨a, vs, e1, r1, r2, r3, r4⟩ := q2
        exact ⟨a, vs, e1, r1, RepL.mono .more r2, fun z => Or.elim z r3 fun z => h3 a z ⟨i, ⟨l, q⟩, by rw [q1, e1]⟩, r4⟩
    · exact h
  own := fun i a h => s.own i a (ho i a h)
  inj := fun i j a h h' => s.inj i j a (ho i a h) (ho j a h')
  par := fun p hp' => ⟨(s.par p hp').1, hp p hp'⟩
theorem Sim.settle (s : Sim c e d ρ S σ H) {N : Addr → Prop} (h1 : ∀ a, N a → H a ≠ none) (h2 : ∀ a, N a → e.H a = none ∨ e.B a) (h3 : ∀ a, N a → ¬ owns ρ σ a) (h4 : ∀ a, N a → a ∉ d.mu) : Sim c e (d.more N) ρ S σ H :=
  s.ren h1 h2 h3 h4 rfl (fun _ _ h => h) (fun _ _ h => .inl h) fun p hp => (s.par p hp).2
/-- L3 -/
theorem Sim.frz (s : Sim c e d ρ S σ H) {r : RV} {v : V} (h : RvR c e d ρ σ H r v) : ∃ d', Sim c e d' ρ S σ H ∧ Le d H d' H ∧ Rep c d' H r.frz v := by
  cases r with
  | val w => exact ⟨d, s, .refl, h⟩
  | fresh l =>
    obtain ⟨a, vs, ev, h1, h2, h3, h4, h5, h6⟩ := h
    refine ⟨d.more (· = a), s.settle (fun b z => by subst z; rw [h1]; simp) (fun b z => by subst z; exact .inl h5) (fun b z => by subst z; exact h6) (fun b z => by subst z; exact h4), .more, ?_⟩
    simp only [RV.frz, Rep]
    exact ⟨a, vs, ev, .inr rfl, h1, RepL.mono .more h2⟩

/-! ### a heap that has grown -/
structure Grow (d : Wd) (H : Hp) (N : Addr → Prop) (H' : Hp) : Prop where
  same : Same H H'
  new : ∀ a, N a → H a = none ∧ H' a ≠ none
theorem Grow.le (g : Grow d H N H') (hd : ∀ a, d.F a → H a ≠ none) : Le d H (d.more N) H' where
  f := fun a h => ⟨.inl h, by
    cases q : H a with
    | none => exact absurd q (hd a h)
    | some o => exact g.same a o q⟩
  mu := List.prefix_refl _
theorem Sim.grow (s : Sim c e d ρ S σ H) {N : Addr → Prop} (g : Grow d H N H') : Sim c e (d.more N) ρ S σ H' where
  le0 := s.le0.trans (g.le s.dom)
  dom := fun a h => Or.elim h (fun z => by
    cases q : H a with
    | none => exact absurd q (s.dom a z)
    | some o => rw [g.same a o q]; simp) fun z => (g.new a z).2
  fr := fun a o h hb hm => g.same a o (s.fr a o h hb hm)
  new := fun a h => Or.elim h (s.new a) fun z => .inr (.inl (s.gone (g.new a z).1))
  mun := s.mun
  dm := fun a h => by
    have := s.dm a h
    cases q : H a with
    | none => exact absurd q this
    | some o => rw [g.same a o q]; simp
  mlen := s.mlen
  nodup := s.nodup
  cell := fun l ws q => by
    obtain ⟨a, vs, q1, q2, q3, q4⟩ := s.cell l ws q
    exact ⟨a, vs, q1, g.same a _ q2, RepL.mono (g.le s.dom) q3, fun z => Or.elim z q4 fun z => by rw [(g.new a z).1] at q2; cases q2⟩
  len := s.len
  slot := fun i sv q => by
    obtain ⟨v, q1, q2⟩ := s.slot i sv q
    refine ⟨v, q1, ?_⟩
    cases sv with
    | val w => exact Rep.mono (g.le s.dom) q2
    | own l =>
      obtain ⟨a, vs, e1, r1, r2, r3, r4⟩ := q2
      exact ⟨a, vs, e1, g.same a _ r1, RepL.mono (g.le s.dom) r2, fun z => Or.elim z r3 (fun z => by rw [(g.new a z).1] at r1; cases r1), r4⟩
  own := s.own
  inj := s.inj
  par := s.par
/-- what a primitive leaves -/
def PrimPost (c : Cn) (d : Wd) (H : Hp) (r : RV) (v : V) (H' : Hp) : Prop := ∃ N, Grow d H N H' ∧ match r with
  | .val w => Rep c (d.more N) H' w v
  | .fresh l => ∃ a vs, v = .ref a ∧ H' a = some (.lst vs) ∧ H a = none ∧ ¬ N a ∧ RepL c (d.more N) H' l vs
/-- L6 -/
theorem Sim.prim (s : Sim c e d ρ S σ H) {r : RV} {v : V} (h : PrimPost c d H r v H') : ∃ d', Sim c e d' ρ S σ H' ∧ RvR c e d' ρ σ H' r v := by
  obtain ⟨N, g, h⟩ := h
  refine ⟨d.more N, s.grow g, ?_⟩
  cases r with
  | val w => exact h
  | fresh l =>
    obtain ⟨a, vs, e1, h1, h2, h3, h4⟩ := h
    exact ⟨a, vs, e1, h1, h4, fun z => Or.elim z (fun z => s.dom a z h2) h3, fun z => (s.muH z).1 h2, s.gone h2, fun z => (s.ownsH z).1 h2⟩
theorem PrimPost.same {w : W} {v : V} (h : Rep c d H w v) : PrimPost c d H (.val w) v H := ⟨fun _ => False, ⟨fun _ _ h => h, fun _ z => False.elim z⟩, Rep.mono .more h⟩
theorem Grow.one {p : Addr} {o : HO} (hp : H p = none) : Grow d H (· = p) (upd H p o) := ⟨fun a u q => by rw [upd_ne (ne_of_none q hp)]; exact q, fun a z => by subst z; exact ⟨hp, by rw [upd_same]; simp⟩⟩
theorem Grow.none {p : Addr} {o : HO} (hp : H p = none) : Grow d H (fun _ => False) (upd H p o) := ⟨fun a u q => by rw [upd_ne (ne_of_none q hp)]; exact q, fun a z => False.elim z⟩
theorem PrimPost.freshL {l : List W} {vs : List V} {p : Addr} (hd : ∀ a, d.F a → H a ≠ none) (hp : H p = none) (h : RepL c d H l vs) : PrimPost c d H (.fresh l) (.ref p) (upd H p (.lst vs)) :=
  ⟨fun _ => False, .none hp, p, vs, rfl, upd_same, hp, id, RepL.mono ((Grow.none hp).le hd) h⟩
theorem PrimPost.newT {l : List W} {vs : List V} {p : Addr} (hd : ∀ a, d.F a → H a ≠ none) (hp : H p = none) (h : RepL c d H l vs) : PrimPost c d H (.val (.tup l)) (.ref p) (upd H p (.tup vs)) :=
  ⟨(· = p), .one hp, by
    simp only [Rep]
    exact ⟨p, vs, rfl, .inl ⟨.inr rfl, upd_same⟩, RepL.mono ((Grow.one hp).le hd) h⟩⟩

/-! ### slots -/
theorem sget_iff {ρ : Env} {i : Nat} {s : SV} : sget ρ i = some s ↔ ρ[i]? = some (some s) := by
  unfold sget
  cases q : ρ[i]? with
  | none => simp
  | some o => cases o <;> simp
theorem CRep.of {w : W} {v : V} (h : Rep c d H w v) : CRep c d H w v := by
  cases w with
  | lst l =>
    simp only [Rep] at h
    obtain ⟨a, vs, e, _, h1, h2⟩ := h
    exact ⟨a, vs, e, h1, h2⟩
  | _ => exact h
theorem Sim.pk (s : Sim c e d ρ S σ H) {i : Nat} {v : V} {w : W} (hv : σ[i]? = some (some v)) (h : pkEnv ρ i = some w) : CRep c d H w v := by
  unfold pkEnv at h
  split at h
  · rename_i w' q
    cases h
    obtain ⟨v', q1, q2⟩ := s.slot i _ (sget_iff.mp q)
    rw [hv] at q1; cases q1
    exact .of q2
  · rename_i l q
    cases h
    obtain ⟨v', q1, q2⟩ := s.slot i _ (sget_iff.mp q)
    rw [hv] at q1; cases q1
    obtain ⟨a, vs, e1, r1, r2, _⟩ := q2
    exact ⟨a, vs, e1, r1, r2⟩
  · cases h
theorem Sim.res (s : Sim c e d ρ S σ H) {v : V} {w : W} (h : CRep c d H w v) : CRep c d H (NV.res S w) v := by
  unfold NV.res
  split
  · rename_i n
    split
    · rename_i l q
      have h : ∃ a, d.mu[n]? = some a ∧ v = .ref a := by
        have h : Rep c d H (.ref n) v := h
        simp only [Rep] at h
        first | exact h | (obtain ⟨a, h1, h2⟩ := h; exact ⟨a, h2, h1⟩)
      obtain ⟨a, h1, h2⟩ := h
      obtain ⟨b, vs, q1, q2, q3, _⟩ := s.cell n l q
      rw [h1] at q1; cases q1
      exact ⟨a, vs, h2, q2, q3⟩
    · exact h
  · exact h
theorem Sim.av (s : Sim c e d ρ S σ H) {x : AV} {v : V} {w : W} (hx : AvR c d σ H x v) (h : x.get ρ S = some w) : CRep c d H w v := by
  cases x with
  | val w' => cases h; exact s.res (.of hx)
  | pk i =>
    simp only [AV.get] at h
    cases q : pkEnv ρ i with
    | none => rw [q] at h; cases h
    | some w' => rw [q] at h; cases h; exact s.res (s.pk hx q)
/-- contents of several -/
def CRepL (c : Cn) (d : Wd) (H : Hp) : List W → List V → Prop
  | [], vs => vs = []
  | w :: ws, vs => ∃ v t, vs = v :: t ∧ CRep c d H w v ∧ CRepL c d H ws t
theorem Sim.avs (s : Sim c e d ρ S σ H) : ∀ {xs : List AV} {vs : List V} {ws : List W}, AvsR c d σ H xs vs → NV.avs ρ S xs = some ws → CRepL c d H ws vs
  | [], _, _, h, q => by cases q; exact h
  | x :: r, _, _, ⟨v, t, e1, h1, h2⟩, q => by
    simp only [NV.avs] at q
    split at q
    · rename_i w ws q1 q2
      cases q
      exact ⟨v, t, e1, s.av h1 q1, Sim.avs s h2 q2⟩
    · cases q
/-- L7: a slot read, its list settled -/
theorem Sim.rd (s : Sim c e d ρ S σ H) {i : Nat} {w : W} (h : rdEnv ρ i = some (w, ρ')) : ∃ v d', σ[i]? = some (some v) ∧ Sim c e d' ρ' S σ H ∧ Rep c d' H w v := by
  unfold rdEnv at h
  split at h
  · rename_i w' q
    cases h
    obtain ⟨v, q1, q2⟩ := s.slot i _ (sget_iff.mp q)
    exact ⟨v, d, q1, s, q2⟩
  · rename_i l q
    split at h; · cases h
    rename_i hl
    cases h
    have q := sget_iff.mp q
    obtain ⟨v, q1, a, vs, e1, r1, r2, r3, r4⟩ := s.slot i _ q
    have ho : ownAt ρ σ i a := ⟨⟨l, q⟩, by rw [q1, e1]⟩
    have hi : i < ρ.length := (List.getElem?_eq_some_iff.mp q).1
    have back : ∀ j b, ownAt (ρ.set i (some (.val (.lst l.2)))) σ j b → j ≠ i ∧ ownAt ρ σ j b := fun j b ⟨⟨k, z⟩, z2⟩ => by
      by_cases hj : j = i
      · subst hj; rw [List.getElem?_set_self hi] at z; cases z
      · rw [List.getElem?_set_ne (Ne.symm hj)] at z; exact ⟨hj, ⟨k, z⟩, z2⟩
    have notown : ¬ owns (ρ.set i (some (.val (.lst l.2)))) σ a := fun ⟨j, hj⟩ => by
      obtain ⟨n, hj'⟩ := back j a hj
      exact n (s.inj j i a hj' ho)
    refine ⟨v, d.more (· = a), q1, s.ren (fun b z => by subst z; rw [r1]; simp) (fun b z => by subst z; exact (s.own i _ ho).symm) (fun b z => by subst z; exact notown) (fun b z => by subst z; exact r4) (List.length_set ..)
      (fun j b h => (back j b h).2) (fun j s' z => ?_) (fun p hp => ?_), ?_⟩
    · by_cases hj : j = i
      · subst hj
        rw [List.getElem?_set_self hi] at z
        cases z
        refine .inr ⟨v, q1, ?_⟩
        show Rep c (d.more (· = a)) H (.lst l.2) v
        simp only [Rep]
        exact ⟨a, vs, e1, .inr rfl, r1, RepL.mono .more r2⟩
      · rw [List.getElem?_set_ne (Ne.symm hj)] at z; exact .inl z
    · obtain ⟨p1, p2⟩ := s.par p hp
      by_cases hj : p.1 = i
      · obtain ⟨l', p2⟩ := p2
        rw [hj, q] at p2
        cases p2
        exact absurd rfl hl
      · rw [List.getElem?_set_ne (Ne.symm hj)]
        exact p2
    · simp only [Rep]
      exact ⟨a, vs, e1, .inr rfl, r1, RepL.mono .more r2⟩
  · cases h
end
end NV
set_option Elab.async false
set_option linter.all false
set_option maxRecDepth 100000
set_option maxHeartbeats 1000000
/-! # The primitives keep what they say -/
namespace NV
open PySem PySem.Spec PyProof.Rows L2
def rNo : R2 := fun _ _ _ _ => False
theorem OpR.no {X : Cx} {f : Value → Value → Sem Value} : OpR X f rNo := fun _ _ _ _ _ _ _ _ _ _ _ _ h => h.elim

def rB (K : PySem.W.Frag) : Operator → R2
  | .Add => fun x y H Q => rI0 (fun i j => .int (i + j)) x y H Q ∨ (∃ i j, x = .str i ∧ y = .str j ∧ i.length + j.length ≤ sizeLine ∧ Q (.str (i ++ j)) H) ∨ rCat x y H Q ∨ rCatT K x y H Q
  | .Sub => rI0 fun i j => .int (i - j)
  | .Mult => fun x y H Q => rI CMulW (fun i j => .int (i * j)) x y H Q ∨ rRep x y H Q
  | .FloorDiv => rI CDivW fun i j => .int (i / j)
  | .Mod => rI (fun _ j => 0 < j) fun i j => .int (i % j)
  | .Pow => rI (fun i j => 0 ≤ j ∧ (Builtin.Int.intBits i : Int) * j ≤ 2 ^ 27) fun i j => .int (i ^ j.toNat)
  | _ => rNo
section
variable {X : Cx}
theorem op_powW : OpR X (binaryOp .Pow) (rI (fun i j => 0 ≤ j ∧ (Builtin.Int.intBits i : Int) * j ≤ 2 ^ 27) fun i j => .int (i ^ j.toNat)) := opI fun _ _ _ _ _ _ _ hc q => pow_int hc.1 hc.2 q
theorem opr_bin (o : Operator) : OpR X (binaryOp o) (rB X.K o) := by
  cases o with
  | Add => exact op_add.or (op_add_str.or (op_cat.or op_catT))
  | Sub => exact op_sub
  | Mult => exact op_mulW.or op_rep
  | FloorDiv => exact op_fdivW
  | Mod => exact op_mod
  | Pow => exact op_powW
  | _ => exact OpR.no
end
section
variable {c : Cn} {d : Wd} {H : Hp}
theorem CRep.int {i : Int} {x : V} (h : CRep c d H (.int i) x) : x = .int i := by simpa only [CRep, Rep] using h
theorem CRep.bl {i : Bool} {x : V} (h : CRep c d H (.bl i) x) : x = .bl i := by simpa only [CRep, Rep] using h
theorem CRep.str {i : Str} {x : V} (h : CRep c d H (.str i) x) : x = .str i := by simpa only [CRep, Rep] using h
theorem CRep.non {x : V} (h : CRep c d H .non x) : x = .non := by simpa only [CRep, Rep] using h
theorem CRep.lst {l : List W} {x : V} (h : CRep c d H (.lst l) x) : ∃ a vs, x = .ref a ∧ H a = some (.lst vs) ∧ RepL c d H l vs := h
theorem CRep.tup {l : List W} {x : V} (h : CRep c d H (.tup l) x) : ∃ a vs, x = .ref a ∧ SqT c.K H a vs ∧ RepL c d H l vs := by
  simp only [CRep, Rep] at h
  obtain ⟨a, vs, e, h1, h2⟩ := h
  refine ⟨a, vs, e, ?_, h2⟩
  rcases h1 with ⟨_, h1⟩ | h1
  · exact .of h1
  · exact h1.sq H
theorem CRep.flst {l : List W} {x : V} (h : CRep c d H (.flst l) x) : ∃ a vs, x = .ref a ∧ SqL c.K H a vs ∧ RepL c d H l vs := by
  simp only [CRep, Rep] at h
  obtain ⟨a, vs, e, h1, h2⟩ := h
  refine ⟨a, vs, e, ?_, h2⟩
  rcases h1 with ⟨_, o, h1⟩ | h1
  · exact .inl (.inr ⟨o, h1⟩)
  · exact h1.sq H
theorem CRep.dp {w : W} {v : V} {x : PyData} (h : CRep c d H w v) (e : w.toD = some x) : Dp c.K H v x := by
  cases w with
  | lst ws =>
    obtain ⟨a, vs, rfl, h1, h2⟩ := h.lst
    simp only [W.toD] at e
    cases q : W.toDs ws with
    | none => rw [q] at e; cases e
    | some ds =>
      rw [q] at e; cases e
      exact .lst (xs := vs) (.of h1) (RepL.dp h2 q)
  | _ => exact Rep.dp h e
theorem szOk_iff {n : Nat} (h : szOk n = true) : n ≤ sizeLine := of_decide_eq_true h
theorem RepL.int_eq {i : Int} : Rep c d H (.int i) (.int i) := by simp only [Rep]
theorem Rep.intI {i : Int} : Rep c d H (.int i) (.int i) := by simp only [Rep]
theorem Rep.blI {i : Bool} : Rep c d H (.bl i) (.bl i) := by simp only [Rep]
theorem Rep.strI {i : Str} : Rep c d H (.str i) (.str i) := by simp only [Rep]
theorem Rep.nonI : Rep c d H .non .non := by simp only [Rep]
theorem RepL.flat {l : List W} {vs : List V} (h : RepL c d H l vs) : ∀ k : Nat, RepL c d H (List.replicate k l).flatten (List.replicate k vs).flatten
  | 0 => .nil
  | k + 1 => by
    rw [List.replicate_succ, List.flatten_cons, List.replicate_succ, List.flatten_cons]
    exact h.append (RepL.flat h k)
theorem bin_ok {o : Operator} {u w : W} {x y : V} {r : RV} {Q : VK} (hd : ∀ a, d.F a → H a ≠ none) (hx : CRep c d H u x) (hy : CRep c d H w y) (hp : pBin o u w = some r) (h : ∀ v H', PrimPost c d H r v H' → Q v H') :
    rB c.K o x y H Q := by
  unfold pBin at hp
  split at hp
  · cases hp
    exact .inl ⟨_, _, hx.int, hy.int, h _ _ (.same .intI)⟩
  · split at hp
    · rename_i hz
      cases hp
      exact .inr (.inl ⟨_, _, hx.str, hy.str, szOk_iff hz, h _ _ (.same .strI)⟩)
    · cases hp
  · split at hp
    · rename_i hz
      cases hp
      obtain ⟨a, vs, rfl, h1, h2⟩ := hx.lst
      obtain ⟨b, ws, rfl, h3, h4⟩ := hy.lst
      exact .inr (.inr (.inl ⟨a, b, vs, ws, rfl, rfl, h1, h3, by rw [h2.length, h4.length]; exact szOk_iff hz, fun p hp => h _ _ (.freshL hd hp (h2.append h4))⟩))
    · cases hp
  · split at hp
    · rename_i l m hz
      cases hp
      rw [Bool.and_eq_true] at hz
      obtain ⟨a, vs, rfl, h1, h2⟩ := hx.tup
      obtain ⟨b, ws, rfl, h3, h4⟩ := hy.tup
      refine .inr (.inr (.inr ⟨a, b, vs, ws, rfl, rfl, h1, h3, fun z => ?_, by rw [h2.length, h4.length]; exact szOk_iff hz.2, fun z => ?_, fun z p hp => h _ _ (.newT hd hp (h2.append h4))⟩))
      · have := h2.length
        rw [z] at this
        have e : l = [] := List.length_eq_zero_iff.mp this.symm
        rw [e] at hz; simp at hz
      · have := h4.length
        rw [z] at this
        have e : m = [] := List.length_eq_zero_iff.mp this.symm
        rw [e, List.append_nil] at h
        exact h _ _ (.same hx)
    · cases hp
  · cases hp
    exact ⟨_, _, hx.int, hy.int, h _ _ (.same .intI)⟩
  · split at hp
    · rename_i hz
      cases hp
      simp only [decide_eq_true_eq] at hz
      exact .inl ⟨_, _, hx.int, hy.int, hz, h _ _ (.same .intI)⟩
    · cases hp
  · split at hp
    · rename_i hz
      cases hp
      simp only [Bool.and_eq_true, decide_eq_true_eq] at hz
      obtain ⟨a, vs, rfl, h1, h2⟩ := hx.lst
      exact .inr ⟨a, _, vs, rfl, hy.int, h1, hz.1.1, hz.1.2, by rw [h2.length]; exact szOk_iff hz.2, fun p hp => h _ _ (.freshL hd hp (h2.flat _))⟩
    · cases hp
  · split at hp
    · rename_i hz
      cases hp
      simp only [Bool.and_eq_true, decide_eq_true_eq] at hz
      exact ⟨_, _, hx.int, hy.int, hz, h _ _ (.same .intI)⟩
    · cases hp
  · split at hp
    · rename_i hz
      cases hp
      exact ⟨_, _, hx.int, hy.int, of_decide_eq_true hz, h _ _ (.same .intI)⟩
    · cases hp
  · split at hp
    · rename_i hz
      cases hp
      simp only [Bool.and_eq_true, decide_eq_true_eq] at hz
      exact ⟨_, _, hx.int, hy.int, hz, h _ _ (.same .intI)⟩
    · cases hp
  · cases hp
end

/-! ### comparisons -/
def rEqP (K : PySem.W.Frag) (neg : Bool) : R2 := fun x y H Q => ∃ d e, Dp K H x d ∧ Dp K H y e ∧ (dOk d || dOk e) = true ∧ d.plain = true ∧ e.plain = true ∧ Q (.bl (if neg then !PyData.eqv d e else PyData.eqv d e)) H
def rInP (K : PySem.W.Frag) (neg : Bool) : R2 := fun x y H Q => ∃ d ds, Dp K H x d ∧ (Dp K H y (.list ds) ∨ Dp K H y (.tuple ds)) ∧ dOk d = true ∧ d.plain = true ∧ PyData.plainAll ds = true ∧
  Q (.bl (if neg then !ds.any fun z => PyData.eqv z d else ds.any fun z => PyData.eqv z d)) H
mutual
theorem plain_toD : ∀ (w : W) (x : PyData), w.toD = some x → x.plain = true
  | .non, _, e => by simp only [W.toD] at e; cases e; rfl
  | .bl _, _, e => by simp only [W.toD] at e; cases e; rfl
  | .int _, _, e => by simp only [W.toD] at e; cases e; rfl
  | .str _, _, e => by simp only [W.toD] at e; cases e; rfl
  | .tup ws, _, e => by
    simp only [W.toD] at e
    cases q : W.toDs ws with
    | none => rw [q] at e; cases e
    | some ds => rw [q] at e; cases e; simp only [PyData.plain]; exact plain_toDs ws ds q
  | .lst ws, _, e => by
    simp only [W.toD] at e
    cases q : W.toDs ws with
    | none => rw [q] at e; cases e
    | some ds => rw [q] at e; cases e; simp only [PyData.plain]; exact plain_toDs ws ds q
  | .flst ws, _, e => by
    simp only [W.toD] at e
    cases q : W.toDs ws with
    | none => rw [q] at e; cases e
    | some ds => rw [q] at e; cases e; simp only [PyData.plain]; exact plain_toDs ws ds q
  | .dct _ _, _, e => by simp only [W.toD] at e; cases e
  | .fn _, _, e => by simp only [W.toD] at e; cases e
  | .ref _, _, e => by simp only [W.toD] at e; cases e
  | .exc _ _, _, e => by simp only [W.toD] at e; cases e
theorem plain_toDs : ∀ (ws : List W) (xs : List PyData), W.toDs ws = some xs → PyData.plainAll xs = true
  | [], _, e => by simp only [W.toDs] at e; cases e; rfl
  | w :: ws, _, e => by
    simp only [W.toDs] at e
    cases q : W.toD w with
    | none => rw [q] at e; cases e
    | some y =>
      cases q2 : W.toDs ws with
      | none => rw [q, q2] at e; cases e
      | some ys =>
        rw [q, q2] at e; cases e
        simp only [PyData.plainAll, plain_toD w y q, plain_toDs ws ys q2, Bool.and_self]
end
section
variable {X : Cx}
theorem min_ok {d e : PyData} {u : Nat} (h : (dOk d || dOk e) = true) (hu : u + 100 < cLine) : u + min d.depth e.depth < cLine := by
  unfold dOk at h
  simp only [Bool.or_eq_true, decide_eq_true_eq] at h
  omega
theorem op_eqP (hu : X.A.units + 100 < cLine) : OpR X (compareOp .Eq) (rEqP X.K false) := by
  intro pins s σ H x y v u Q I rx ry h
  obtain ⟨d, e, hd, he, hk, pd, pe, q⟩ := h
  obtain ⟨as, r1⟩ := Dp.reads I d x v hd rx
  obtain ⟨bs, r2⟩ := Dp.reads I e y u he ry
  exact SeqAt.eq_plain r1 r2 pd pe (min_ok hk hu) ⟨.bl _, H, I, rfl, q⟩
theorem op_neP (hu : X.A.units + 100 < cLine) : OpR X (compareOp .NotEq) (rEqP X.K true) := by
  intro pins s σ H x y v u Q I rx ry h
  obtain ⟨d, e, hd, he, hk, pd, pe, q⟩ := h
  obtain ⟨as, r1⟩ := Dp.reads I d x v hd rx
  obtain ⟨bs, r2⟩ := Dp.reads I e y u he ry
  exact SeqAt.ne_plain r1 r2 pd pe (min_ok hk hu) ⟨.bl _, H, I, rfl, q⟩
theorem op_inP (hu : X.A.units + 100 < cLine) : OpR X (compareOp .In) (rInP X.K false) := by
  intro pins s σ H x y v u Q I rx ry h
  obtain ⟨d, ds, hd, he, hk, pd, pe, q⟩ := h
  obtain ⟨as, r1⟩ := Dp.reads I d x v hd rx
  have hk' := of_decide_eq_true hk
  rcases he with he | he
  · obtain ⟨bs, r2⟩ := Dp.reads I _ y u he ry
    exact SeqAt.in_list_data r2 r1 pe pd (by omega) ⟨.bl _, H, I, rfl, q⟩
  · obtain ⟨bs, r2⟩ := Dp.reads I _ y u he ry
    exact SeqAt.in_tuple_data r2 r1 pe pd (by omega) ⟨.bl _, H, I, rfl, q⟩
theorem op_ninP (hu : X.A.units + 100 < cLine) : OpR X (compareOp .NotIn) (rInP X.K true) := by
  intro pins s σ H x y v u Q I rx ry h
  obtain ⟨d, ds, hd, he, hk, pd, pe, q⟩ := h
  obtain ⟨as, r1⟩ := Dp.reads I d x v hd rx
  have hk' := of_decide_eq_true hk
  rcases he with he | he
  · obtain ⟨bs, r2⟩ := Dp.reads I _ y u he ry
    exact SeqAt.notIn_list_data r2 r1 pe pd (by omega) ⟨.bl _, H, I, rfl, q⟩
  · obtain ⟨bs, r2⟩ := Dp.reads I _ y u he ry
    exact SeqAt.notIn_tuple_data r2 r1 pe pd (by omega) ⟨.bl _, H, I, rfl, q⟩
theorem op_isB : OpR X (compareOp .Is) (fun x y H Q => ∃ b, y = .bl b ∧ Q (.bl (decide (x = .bl b))) H) := by
  intro pins s σ H x y v u Q I rx ry h
  obtain ⟨b, rfl, q⟩ := h
  cases ry
  cases x with
  | non => cases rx; exact wpAny_pure ⟨.bl false, H, I, rfl, q⟩
  | bl a =>
    cases rx
    refine is_bool ⟨.bl (a == b), H, I, rfl, ?_⟩
    have e : decide (V.bl a = V.bl b) = (a == b) := dec_bl
    rw [← e]; exact q
  | int i => obtain ⟨t, rfl⟩ := rx; exact wpAny_pure ⟨.bl false, H, I, rfl, q⟩
  | str i => obtain ⟨t, rfl⟩ := rx; exact wpAny_pure ⟨.bl false, H, I, rfl, q⟩
  | byt i => obtain ⟨t, rfl⟩ := rx; exact wpAny_pure ⟨.bl false, H, I, rfl, q⟩
  | flt i => obtain ⟨t, rfl⟩ := rx; exact wpAny_pure ⟨.bl false, H, I, rfl, q⟩
  | ref a => cases rx; exact wpAny_pure ⟨.bl false, H, I, rfl, q⟩
  | ty n => cases rx; exact wpAny_pure ⟨.bl false, H, I, rfl, q⟩
end
def rC (K : PySem.W.Frag) : CmpOp → R2
  | .Eq => rEqP K false
  | .NotEq => rEqP K true
  | .Lt => rI0 fun i j => .bl (decide (i < j))
  | .LtE => rI0 fun i j => .bl (decide (i ≤ j))
  | .Gt => rI0 fun i j => .bl (decide (j < i))
  | .GtE => rI0 fun i j => .bl (decide (j ≤ i))
  | .Is => fun x y H Q => (y = .non ∧ Q (.bl (decide (x = .non))) H) ∨ (∃ b, y = .bl b ∧ Q (.bl (decide (x = .bl b))) H)
  | .IsNot => fun x y H Q => y = .non ∧ Q (.bl (!decide (x = .non))) H
  | .In => fun x y H Q => rInP K false x y H Q ∨ ∃ (c : Nat) (z : Str), x = .str ⟨#[c]⟩ ∧ y = .str z ∧ Q (.bl (decide (c ∈ z.cps.toList))) H
  | .NotIn => fun x y H Q => rInP K true x y H Q ∨ ∃ (c : Nat) (z : Str), x = .str ⟨#[c]⟩ ∧ y = .str z ∧ Q (.bl (!decide (c ∈ z.cps.toList))) H
theorem opr_cmp {X : Cx} (hu : X.A.units + 100 < cLine) (o : CmpOp) : OpR X (compareOp o) (rC X.K o) := by
  cases o with
  | Eq => exact op_eqP hu
  | NotEq => exact op_neP hu
  | Lt => exact op_lt
  | LtE => exact op_le
  | Gt => exact op_gt
  | GtE => exact op_ge
  | Is => exact op_isN.or op_isB
  | IsNot => exact op_notN
  | In => exact (op_inP hu).or op_in_sign
  | NotIn => exact (op_ninP hu).or op_notIn_sign
section
variable {c : Cn} {d : Wd} {H : Hp}
theorem isNon_iff {u : W} {x : V} (hx : CRep c d H u x) (hf : ∀ k w, u ≠ .exc k w) : decide (x = .non) = u.isNon := by
  cases u with
  | non => rw [hx.non]; rfl
  | bl b => rw [hx.bl]; rfl
  | int b => rw [hx.int]; rfl
  | str b => rw [hx.str]; rfl
  | tup l => obtain ⟨a, vs, e, _⟩ := hx.tup; rw [e]; rfl
  | lst l => obtain ⟨a, vs, e, _⟩ := hx.lst; rw [e]; rfl
  | flst l => obtain ⟨a, vs, e, _⟩ := hx.flst; rw [e]; rfl
  | dct k l =>
    have h : Rep c d H (.dct k l) x := hx
    simp only [Rep] at h
    obtain ⟨a, _, e, _⟩ := h; rw [e]; rfl
  | fn n =>
    have h : Rep c d H (.fn n) x := hx
    simp only [Rep] at h
    obtain ⟨a, _, e⟩ := h; rw [e]; rfl
  | ref n =>
    have h : Rep c d H (.ref n) x := hx
    simp only [Rep] at h
    obtain ⟨a, _, e⟩ := h; rw [e]; rfl
  | exc k w => exact absurd rfl (hf k w)
theorem isBl_iff {u : W} {x : V} {b : Bool} (hx : CRep c d H u x) : decide (x = .bl b) = u.isBl b := by
  cases u with
  | non => rw [hx.non]; rfl
  | bl a => rw [hx.bl]; exact dec_bl
  | int b => rw [hx.int]; rfl
  | str b => rw [hx.str]; rfl
  | tup l => obtain ⟨a, vs, e, _⟩ := hx.tup; rw [e]; rfl
  | lst l => obtain ⟨a, vs, e, _⟩ := hx.lst; rw [e]; rfl
  | flst l => obtain ⟨a, vs, e, _⟩ := hx.flst; rw [e]; rfl
  | dct k l =>
    have h : Rep c d H (.dct k l) x := hx
    simp only [Rep] at h
    obtain ⟨a, _, e, _⟩ := h; rw [e]; rfl
  | fn n =>
    have h : Rep c d H (.fn n) x := hx
    simp only [Rep] at h
    obtain ⟨a, _, e⟩ := h; rw [e]; rfl
  | ref n =>
    have h : Rep c d H (.ref n) x := hx
    simp only [Rep] at h
    obtain ⟨a, _, e⟩ := h; rw [e]; rfl
  | exc k w =>
    have h : Rep c d H (.exc k w) x := hx
    simp only [Rep] at h
theorem exc_no {k : Nat} {w : W} {x : V} (h : CRep c d H (.exc k w) x) : False := by
  have h : Rep c d H (.exc k w) x := h
  simp only [Rep] at h
theorem eq_ok {u w : W} {x y : V} {r : Bool} {neg : Bool} {Q : VK} (hx : CRep c d H u x) (hy : CRep c d H w y) (hp : wEq u w = some r) (h : Q (.bl (if neg then !r else r)) H) : rEqP c.K neg x y H Q := by
  unfold wEq at hp
  split at hp
  · rename_i a b ha hb
    split at hp
    · rename_i hz
      cases hp
      exact ⟨a, b, hx.dp ha, hy.dp hb, hz, plain_toD _ _ ha, plain_toD _ _ hb, h⟩
    · cases hp
  · cases hp
theorem one_sign {s : Str} {k : Nat} (h : s.cps.toList = [k]) : s = ⟨#[k]⟩ := by
  obtain ⟨⟨l⟩⟩ := s
  have h : l = [k] := h
  rw [h]
theorem inL_ok {l : List W} {u : W} {x y : V} {r : Bool} {neg : Bool} {Q : VK} (hx : CRep c d H u x) (hy : ∀ xs, W.toDs l = some xs → Dp c.K H y (.list xs) ∨ Dp c.K H y (.tuple xs)) (hp : wInL l u = some r) (h : Q (.bl (if neg then !r else r)) H) : rInP c.K neg x y H Q := by
  unfold wInL at hp
  split at hp
  · rename_i a b ha hb
    split at hp
    · rename_i hz
      cases hp
      exact ⟨b, a, hx.dp hb, hy a ha, hz, plain_toD _ _ hb, plain_toDs _ _ ha, h⟩
    · cases hp
  · cases hp
theorem in_ok {u w : W} {x y : V} {r : Bool} {neg : Bool} {Q : VK} (hx : CRep c d H u x) (hy : CRep c d H w y) (hp : wIn u w = some r) (h : Q (.bl (if neg then !r else r)) H) :
    rInP c.K neg x y H Q ∨ ∃ (c : Nat) (z : Str), x = .str ⟨#[c]⟩ ∧ y = .str z ∧ Q (.bl (if neg then !decide (c ∈ z.cps.toList) else decide (c ∈ z.cps.toList))) H := by
  unfold wIn at hp
  split at hp
  · split at hp
    · split at hp
      · rename_i hs
        cases hp
        refine .inr ⟨_, _, ?_, hy.str, h⟩
        rw [hx.str, one_sign hs]
      · cases hp
    · cases hp
  · refine .inl (inL_ok hx (fun xs e => .inl ?_) hp h)
    exact hy.dp (by simp only [W.toD, e]; rfl)
  · refine .inl (inL_ok hx (fun xs e => .inl ?_) hp h)
    exact hy.dp (by simp only [W.toD, e]; rfl)
  · refine .inl (inL_ok hx (fun xs e => .inr ?_) hp h)
    exact hy.dp (by simp only [W.toD, e]; rfl)
  · cases hp
theorem cmp_ok {o : CmpOp} {u w : W} {x y : V} {r : Bool} {Q : VK} (hx : CRep c d H u x) (hy : CRep c d H w y) (hp : pCmp o u w = some r) (h : Q (.bl r) H) : rC c.K o x y H Q := by
  unfold pCmp at hp
  split at hp
  · exact eq_ok (neg := false) hx hy hp h
  · cases q : wEq u w with
    | none => rw [q] at hp; cases hp
    | some b => rw [q] at hp; cases hp; exact eq_ok (neg := true) hx hy q h
  · cases hp; exact ⟨_, _, hx.int, hy.int, h⟩
  · cases hp; exact ⟨_, _, hx.int, hy.int, h⟩
  · cases hp; exact ⟨_, _, hx.int, hy.int, h⟩
  · cases hp; exact ⟨_, _, hx.int, hy.int, h⟩
  · cases hp
    refine .inl ⟨hy.non, ?_⟩
    rw [isNon_iff hx (fun k w e => by subst e; exact exc_no hx)]
    exact h
  · cases hp
    refine ⟨hy.non, ?_⟩
    rw [isNon_iff hx (fun k w e => by subst e; exact exc_no hx)]
    exact h
  · cases hp
    refine .inr ⟨_, hy.bl, ?_⟩
    rw [isBl_iff hx]
    exact h
  · exact in_ok (neg := false) hx hy hp h
  · cases q : wIn u w with
    | none => rw [q] at hp; cases hp
    | some b => rw [q] at hp; cases hp; exact in_ok (neg := true) hx hy q h
  · cases hp
end

/-! ### subscripts, slices -/
theorem atI_rep {c : Cn} {d : Wd} {H : Hp} {l : List W} {vs : List V} {i : Int} {w : W} (h : RepL c d H l vs) (e : atI l i = some w) : ∃ v, atI vs i = some v ∧ Rep c d H w v := by
  unfold atI at e ⊢
  rw [h.length]
  cases q : ixN l.length i with
  | none => rw [q] at e; cases e
  | some j =>
    rw [q] at e
    exact h.get e
def rIxK : R2 := fun x y H Q => ∃ a kvs k v, x = .ref a ∧ H a = some (.dK kvs) ∧ y = kV k ∧ valV kvs k = some v ∧ Q v H
theorem ix_dct {X : Cx} (hu : X.A.units + 100 < cLine) : IxR X rIxK := by
  intro value slice pins s σ H x y v u Q I rx ry h hs
  obtain ⟨a, kvs, k, w, rfl, ha, rfl, hv, q⟩ := h
  cases rx
  have g : DGet H a (kV k) (some w) := .inl ⟨kvs, k, .inl ha, rfl, hv.symm⟩
  have hT := dict_typeIs I g
  unfold subscriptTail
  refine wpAny_bind ?_
  rw [getitemInPython_of_ne hT.not_modules]
  refine wpAny_bind (wpAny_specialOf hT PySem.F.slot_dict_getitem.lookup ?_)
  have fin : wpAny (model X.prog X.w) X.A (subscripted slice false (.ref a) u) (fun r s₃ => wpAny (model X.prog X.w) X.A (letTemporaryGo value (.ref a) r >>= fun _ => pure r) (EP X pins σ Q) X.xe s₃) X.xe s := by
    rw [hs]
    exact wpAny_operating (wpAny_mono (d_getItem (Q := EP X pins σ Q) (by omega) I g ry fun w' s3 I3 rw' => ⟨w, H, I3, rw', q⟩) (fun r s₃ h₃ => wpAny_bind (wpAny_letTemporaryGo (wpAny_pure h₃))) fun _ _ x => x)
  first
    | exact wpAny_pure (wpAny_bind fin)
    | exact wpAny_bind (wpAny_pure (wpAny_bind fin))
    | exact wpAny_bind fin
def rI' (K : PySem.W.Frag) : R2 := fun x y H Q => rIxL K x y H Q ∨ rIxT K x y H Q ∨ rIxS x y H Q ∨ rIxK x y H Q
theorem ixr_all {X : Cx} (hu : X.A.units + 100 < cLine) : IxR X (rI' X.K) := ix_list.or (ix_tup.or (ix_str.or (ix_dct hu)))
section
variable {c : Cn} {d : Wd} {H : Hp}
theorem dctFind_ok : ∀ {kvs : List (Key × V)} {ks vs : List W} {z : Str} {w : W}, RepL c d H ks (kvs.map fun p => kV p.1) → RepL c d H vs (kvs.map (·.2)) → dctFind ks vs z = some w →
    ∃ v, valV kvs (.inr z) = some v ∧ Rep c d H w v
  | [], ks, vs, z, w, h1, h2, e => by
    cases ks with
    | nil => simp [dctFind] at e
    | cons k ks => obtain ⟨x, r, q, _⟩ := h1.uncons; cases q
  | p :: r, ks, vs, z, w, h1, h2, e => by
    cases ks with
    | nil => have := h1.length; simp at this
    | cons k ks =>
      cases vs with
      | nil => have := h2.length; simp at this
      | cons u vs =>
        obtain ⟨x, t, q, a1, a2⟩ := h1.uncons
        obtain ⟨x', t', q', b1, b2⟩ := h2.uncons
        cases q; cases q'
        cases k with
        | str k' =>
          unfold dctFind at e
          have hk : kV p.1 = .str k' := by simpa only [Rep] using a1
          have hp : p.1 = .inr k' := by
            cases hp : p.1 with
            | inl i => rw [hp] at hk; cases hk
            | inr s => rw [hp] at hk; cases hk; rfl
          split at e
          · rename_i ez
            cases e
            exact ⟨p.2, valV_pos (by rw [hp, ez]), b1⟩
          · rename_i ez
            obtain ⟨v, e1, e2⟩ := dctFind_ok a2 b2 e
            exact ⟨v, (valV_neg (by rw [hp]; intro z; exact ez (Sum.inr.inj z))).trans e1, e2⟩
        | int k' =>
          unfold dctFind at e
          have hk : kV p.1 = .int k' := by simpa only [Rep] using a1
          have hp : p.1 = .inl k' := by
            cases hp : p.1 with
            | inl i => rw [hp] at hk; cases hk; rfl
            | inr s => rw [hp] at hk; cases hk
          obtain ⟨v, e1, e2⟩ := dctFind_ok a2 b2 e
          exact ⟨v, (valV_neg (by rw [hp]; intro z; cases z)).trans e1, e2⟩
        | _ => simp [dctFind] at e
theorem ix_ok {u w r : W} {x y : V} {Q : VK} (hx : CRep c d H u x) (hy : CRep c d H w y) (hp : pIx u w = some r) (h : ∀ v, Rep c d H r v → Q v H) : rI' c.K x y H Q := by
  unfold pIx at hp
  split at hp
  · obtain ⟨a, vs, rfl, h1, h2⟩ := hx.lst
    obtain ⟨v, e, q⟩ := atI_rep h2 hp
    exact .inl ⟨a, vs, _, v, rfl, hy.int, .of h1, e, h v q⟩
  · obtain ⟨a, vs, rfl, h1, h2⟩ := hx.flst
    obtain ⟨v, e, q⟩ := atI_rep h2 hp
    exact .inl ⟨a, vs, _, v, rfl, hy.int, h1, e, h v q⟩
  · obtain ⟨a, vs, rfl, h1, h2⟩ := hx.tup
    obtain ⟨v, e, q⟩ := atI_rep h2 hp
    exact .inr (.inl ⟨a, vs, _, v, rfl, hy.int, h1, e, h v q⟩)
  · rename_i z i
    split at hp
    · rename_i hz
      cases q : atI z.cps.toList i with
      | none => rw [q] at hp; cases hp
      | some k =>
        rw [q] at hp; cases hp
        exact .inr (.inr (.inl ⟨z, i, k, hx.str, hy.int, szOk_iff hz, q, h _ .strI⟩))
    · cases hp
  · have h' : Rep c d H (.dct _ _) x := hx
    simp only [Rep] at h'
    obtain ⟨a, kvs, rfl, _, h1, h2, h3⟩ := h'
    obtain ⟨v, e, q⟩ := dctFind_ok h2 h3 hp
    exact .inr (.inr (.inr ⟨a, kvs, .inr _, v, rfl, h1, hy.str, e, h v q⟩))
  · cases hp
theorem RepL.cut {l : List W} {vs : List V} {lo hi : Option Int} (h : RepL c d H l vs) : RepL c d H (cutW l lo hi) (cutV vs lo hi) := by
  unfold cutW cutV
  rw [h.length]
  exact (h.drop _).take _
def rS' (K : PySem.W.Frag) : V → Option Int → Option Int → Hp → VK → Prop := fun x lo hi H Q => (rSlL K x lo hi H Q ∨ rSlT K x lo hi H Q) ∨ rSlS x lo hi H Q
theorem slr_all {X : Cx} : SlR X (rS' X.K) := (sl_list.or sl_tup).or sl_str
theorem sl_ok {u : W} {x : V} {lo hi : Option Int} {r : RV} {Q : VK} (hd : ∀ a, d.F a → H a ≠ none) (hx : CRep c d H u x) (hp : pSl u lo hi = some r) (h : ∀ v H', PrimPost c d H r v H' → Q v H') : rS' c.K x lo hi H Q := by
  unfold pSl at hp
  split at hp
  · cases hp
    obtain ⟨a, vs, rfl, h1, h2⟩ := hx.lst
    exact .inl (.inl ⟨a, vs, rfl, .of h1, fun p hp => h _ _ (.freshL hd hp h2.cut)⟩)
  · cases hp
    obtain ⟨a, vs, rfl, h1, h2⟩ := hx.flst
    exact .inl (.inl ⟨a, vs, rfl, h1, fun p hp => h _ _ (.freshL hd hp h2.cut)⟩)
  · split at hp
    · rename_i hz
      cases hp
      have hx := hx.str
      exact .inr ⟨_, hx, szOk_iff hz, h _ _ (.same (by simp only [Rep]))⟩
    · cases hp
  · split at hp
    · cases hp
    · rename_i hz
      cases hp
      obtain ⟨a, vs, rfl, h1, h2⟩ := hx.tup
      refine .inl (.inr ⟨a, vs, rfl, h1, fun z => hz ?_, fun p hp => h _ _ (.newT hd hp h2.cut)⟩)
      rw [h2.length] at z
      rw [Bool.and_eq_true, decide_eq_true_eq, decide_eq_true_eq]
      exact z
  · cases hp
end
end NV
set_option Elab.async false
set_option linter.all false
set_option maxRecDepth 100000
set_option maxHeartbeats 1000000
/-! # Built-in functions, methods, isinstance -/
namespace NV
open PySem PySem.Spec PyProof.Rows L2
def biV : Bi → Value
  | .len => .builtin "len"
  | .max2 => .builtin "max"
  | .min2 => .builtin "min"
  | .sum => .builtin "sum"
  | .repr => .builtin "repr"
  | .int => .type "int"
  | .list => .type "list"
  | .tuple => .type "tuple"
  | .dict => .type "dict"
def biN : Bi → Str
  | .len => "len"
  | .max2 => "max"
  | .min2 => "min"
  | .sum => "sum"
  | .repr => "repr"
  | .int => "int"
  | .list => "list"
  | .tuple => "tuple"
  | .dict => "dict"
theorem bi_boot (b : Bi) : bootBuiltins (biN b) = some (biV b) := by cases b <;> decide +kernel
abbrev RCl := List V → Hp → VK → Prop
def rRepr (K : PySem.W.Frag) : RCl := fun vs H Q => ∃ v d, vs = [v] ∧ Dp K H v d ∧ d.plain = true ∧ dOk d = true ∧ d.showable = true ∧ d.shown.length ≤ sizeLine ∧ Q (.str d.shown) H
def rDictP (K : PySem.W.Frag) : RCl := fun xs H Q => ∃ (a : Addr) (ps : List Addr) (kvs : List (Key × V)), xs = [.ref a] ∧ SqL K H a (ps.map V.ref) ∧ Paired (fun p kv => SqT K H p [kV kv.1, kv.2]) ps kvs ∧
    ∀ p, H p = none → Q (.ref p) (upd H p (.dK (mergeK [] kvs)))
def rRepr0 : List V → Hp → VK → Prop := fun vs H Q => ∃ a, vs = [.ref a] ∧ H a = some (.dK []) ∧ Q (.str "{}") H
def rBi (K : PySem.W.Frag) : Bi → RCl
  | .len => fun xs H Q => (∃ p ys, xs = [.ref p] ∧ (SqL K H p ys ∨ SqT K H p ys) ∧ Q (.int ys.length) H) ∨ ∃ z, xs = [.str z] ∧ z.length ≤ sizeLine ∧ Q (.int z.length) H
  | .max2 => fun xs H Q => ∃ i j, xs = [.int i, .int j] ∧ Q (.int (if j > i then j else i)) H
  | .min2 => fun xs H Q => ∃ i j, xs = [.int i, .int j] ∧ Q (.int (if j < i then j else i)) H
  | .sum => rSum K
  | .repr => fun vs H Q => rRepr K vs H Q ∨ rRepr0 vs H Q
  | .int => fun xs H Q => (∃ i, xs = [.int i] ∧ Q (.int i) H) ∨ ∃ k, xs = [.bl k] ∧ Q (.int (if k then 1 else 0)) H
  | .list => fun xs H Q => ∃ p ys, xs = [.ref p] ∧ (SqL K H p ys ∨ SqT K H p ys) ∧ ∀ l, H l = none → Q (.ref l) (upd H l (.lst ys))
  | .tuple => fun xs H Q => ∃ p ys, xs = [.ref p] ∧ ((SqL K H p ys ∧ ∀ l, H l = none → Q (.ref l) (upd H l (.tup ys))) ∨ (SqT K H p ys ∧ Q (.ref p) H))
  | .dict => rDictP K
section
variable {X : Cx}
theorem plain_hasDict : ∀ d : PyData, d.plain = true → d.hasDict = false := by
  have key : (∀ d : PyData, d.plain = true → d.hasDict = false) := by
    intro d
    exact PyData.rec (motive_1 := fun d => d.plain = true → d.hasDict = false) (motive_2 := fun l => PyData.plainAll l = true → PyData.hasDictAll l = false) (motive_3 := fun _ => True) (motive_4 := fun _ => True)
      (fun _ => rfl) (fun _ _ => rfl) (fun _ _ => rfl) (fun _ _ => rfl)
      (fun xs ih h => by simp only [PyData.hasDict]; exact ih (by simpa only [PyData.plain] using h))
      (fun xs ih h => by simp only [PyData.hasDict]; exact ih (by simpa only [PyData.plain] using h))
      (fun _ _ h => by simp only [PyData.plain] at h; cases h)
      (fun _ => rfl)
      (fun x xs i1 i2 h => by
        simp only [PyData.plainAll, Bool.and_eq_true] at h
        simp only [PyData.hasDictAll, i1 h.1, i2 h.2, Bool.or_self])
      trivial (fun _ _ _ _ => trivial) (fun _ _ _ _ => trivial) d
  exact key
theorem call_repr (hu : X.A.units + 100 < cLine) (hg : X.A.guards = some []) : CallR X (.builtin "repr") (rRepr X.K) := by
  intro pins s σ H xs us Q I r h
  obtain ⟨v, d, rfl, hd, pl, hk, hs, hz, q⟩ := h
  obtain ⟨u, rfl, ru⟩ := vals1 r
  have hk' : d.depth ≤ 64 := of_decide_eq_true hk
  cases hd with
  | non => cases ru; exact PySem.P.repr_of_none ⟨.str _, H, I.tok _, ⟨_, rfl⟩, q⟩
  | bl b => cases ru; exact PySem.P.repr_of_bool ⟨.str _, H, I.tok _, ⟨_, rfl⟩, by cases b <;> exact q⟩
  | int i =>
    obtain ⟨t, rfl⟩ := ru
    simp only [PyData.showable, decide_eq_true_eq] at hs
    exact PySem.P.repr_of_int hs ⟨.str _, H, I.tok _, ⟨_, rfl⟩, q⟩
  | str x => obtain ⟨t, rfl⟩ := ru; exact PySem.P.repr_of_str ⟨.str _, H, I.tok _, ⟨_, rfl⟩, q⟩ hz
  | lst h1 h2 =>
    obtain rfl : u = Value.ref _ := ru
    obtain ⟨as, rd⟩ := Dp.reads I _ _ _ (.lst h1 h2) rfl
    exact repr_of_reads' rd hs (fun z => by rw [plain_hasDict _ pl] at z; cases z) hg (by omega) (fun _ _ e => e) (fun h' u tk k => ⟨.str _, H, I.kept (t' := tk) k, ⟨u, rfl⟩, q⟩) hz
  | tup h1 h2 =>
    obtain rfl : u = Value.ref _ := ru
    obtain ⟨as, rd⟩ := Dp.reads I _ _ _ (.tup h1 h2) rfl
    exact repr_of_reads' rd hs (fun z => by rw [plain_hasDict _ pl] at z; cases z) hg (by omega) (fun _ _ e => e) (fun h' u tk k => ⟨.str _, H, I.kept (t' := tk) k, ⟨u, rfl⟩, q⟩) hz
theorem call_repr0 (hu : X.A.units + 100 < cLine) (hg : X.A.guards = some []) : CallR X (.builtin "repr") rRepr0 := by
  intro pins s σ H xs us Q I r h
  obtain ⟨a, rfl, ha, q⟩ := h
  obtain ⟨u, rfl, ru⟩ := vals1 r
  obtain rfl : u = Value.ref _ := ru
  obtain ⟨_, hs, vs, hv, o, es, ep, h1, h2, h3, h4⟩ := dk_of I.hok ha
  have hv : vs = [] := by cases hv; rfl
  subst hv
  have he : es.toList = [] := by
    have hp := h4.2.1
    generalize es.toList = l at hp
    cases hp
    rfl
  have rd : Reads s.heap (.ref a) (.dict []) (a :: [] ++ []) := by
    refine .dict h1 h2.1 h3 ?_ ?_
    · rw [he]; exact .nil
    · rw [he]; exact .nil
  refine repr_of_reads' rd rfl (fun _ z => ?_) hg (by have : (PyData.dict []).depth ≤ 2 := by decide
                                                      omega) (fun _ _ e => e) (fun h' u tk k => ⟨.str _, H, I.kept (t' := tk) k, ⟨u, rfl⟩, q⟩) (by decide)
  have z : sysModules = a := by simpa using z
  rw [← z] at hs
  exact absurd hs (by decide)
theorem callr_bi (hc : X.calm = true) (hu : X.A.units + 100 < cLine) (hg : X.A.guards = some []) (b : Bi) : CallR X (biV b) (rBi X.K b) := by
  cases b with
  | len => exact call_len_seq.or call_len_str
  | max2 => exact call_max2 hc
  | min2 => exact call_min2 hc
  | sum => exact cr_sum hc
  | repr => exact (call_repr hu hg).or (call_repr0 hu hg)
  | int => exact call_int1
  | list => exact call_list_of
  | tuple => exact call_tuple_of
  | dict => exact call_dictP hc
end
section
variable {c : Cn} {d : Wd} {H : Hp}
theorem CRepL.one {w : W} {vs : List V} (h : CRepL c d H [w] vs) : ∃ v, vs = [v] ∧ CRep c d H w v := by
  obtain ⟨v, t, rfl, h1, h2⟩ := h
  have h2 : t = [] := h2
  subst h2
  exact ⟨v, rfl, h1⟩
theorem CRepL.two {w u : W} {vs : List V} (h : CRepL c d H [w, u] vs) : ∃ v x, vs = [v, x] ∧ CRep c d H w v ∧ CRep c d H u x := by
  obtain ⟨v, t, rfl, h1, h2⟩ := h
  obtain ⟨x, rfl, h3⟩ := CRepL.one h2
  exact ⟨v, x, rfl, h1, h3⟩
theorem wInts_ok : ∀ {l : List W} {vs : List V} {ns : List Int}, RepL c d H l vs → wInts l = some ns → vs = ns.map V.int
  | [], _, _, h, e => by rw [h.unnil]; simp only [wInts] at e; cases e; rfl
  | .int i :: r, _, _, h, e => by
    obtain ⟨x, t, rfl, h1, h2⟩ := h.uncons
    simp only [wInts] at e
    cases q : wInts r with
    | none => rw [q] at e; cases e
    | some ns =>
      rw [q] at e; cases e
      have h1 : x = .int i := by simpa only [Rep] using h1
      rw [h1, wInts_ok h2 q]
      rfl
  | .non :: _, _, _, _, e => by simp [wInts] at e
  | .bl _ :: _, _, _, _, e => by simp [wInts] at e
  | .str _ :: _, _, _, _, e => by simp [wInts] at e
  | .tup _ :: _, _, _, _, e => by simp [wInts] at e
  | .lst _ :: _, _, _, _, e => by simp [wInts] at e
  | .flst _ :: _, _, _, _, e => by simp [wInts] at e
  | .dct _ _ :: _, _, _, _, e => by simp [wInts] at e
  | .fn _ :: _, _, _, _, e => by simp [wInts] at e
  | .ref _ :: _, _, _, _, e => by simp [wInts] at e
  | .exc _ _ :: _, _, _, _, e => by simp [wInts] at e
theorem wStrs_ok : ∀ {l : List W} {vs : List V} {ns : List Str}, RepL c d H l vs → wStrs l = some ns → vs = ns.map V.str
  | [], _, _, h, e => by rw [h.unnil]; simp only [wStrs] at e; cases e; rfl
  | .str i :: r, _, _, h, e => by
    obtain ⟨x, t, rfl, h1, h2⟩ := h.uncons
    simp only [wStrs] at e
    cases q : wStrs r with
    | none => rw [q] at e; cases e
    | some ns =>
      rw [q] at e; cases e
      have h1 : x = .str i := by simpa only [Rep] using h1
      rw [h1, wStrs_ok h2 q]
      rfl
  | .non :: _, _, _, _, e => by simp [wStrs] at e
  | .bl _ :: _, _, _, _, e => by simp [wStrs] at e
  | .int _ :: _, _, _, _, e => by simp [wStrs] at e
  | .tup _ :: _, _, _, _, e => by simp [wStrs] at e
  | .lst _ :: _, _, _, _, e => by simp [wStrs] at e
  | .flst _ :: _, _, _, _, e => by simp [wStrs] at e
  | .dct _ _ :: _, _, _, _, e => by simp [wStrs] at e
  | .fn _ :: _, _, _, _, e => by simp [wStrs] at e
  | .ref _ :: _, _, _, _, e => by simp [wStrs] at e
  | .exc _ _ :: _, _, _, _, e => by simp [wStrs] at e
theorem putK_new {κ : Type} [DecidableEq κ] {kvs : List (κ × V)} {k : κ} {v : V} (h : k ∉ kvs.map (·.1)) : putK kvs k v = kvs ++ [(k, v)] := by
  unfold putK
  rw [if_neg]
  intro z
  rw [List.any_eq_true] at z
  obtain ⟨p, hp, e⟩ := z
  exact h (List.mem_map.mpr ⟨p, hp, of_decide_eq_true e⟩)
theorem merge_new : ∀ {more kvs : List (Key × V)}, (kvs.map (·.1) ++ more.map (·.1)).Nodup → mergeK kvs more = kvs ++ more
  | [], kvs, _ => by simp [mergeK]
  | p :: r, kvs, h => by
    show mergeK (putK kvs p.1 p.2) r = _
    have hn : p.1 ∉ kvs.map (·.1) := fun z => by
      have := (List.nodup_append.mp h).2.2
      exact this _ z _ (by simp) rfl
    rw [putK_new hn, merge_new]
    · simp
    · simpa using h
theorem dctOf_ok : ∀ {l : List W} {vs : List V} {ks : List Str} {ws : List W}, RepL c d H l vs → dctOf l = some (ks, ws) →
    ks.Nodup ∧ ∃ (ps : List Addr) (kvs : List (Key × V)), vs = ps.map V.ref ∧ Paired (fun p kv => SqT c.K H p [kV kv.1, kv.2]) ps kvs ∧ kvs.map (·.1) = ks.map Sum.inr ∧ RepL c d H ws (kvs.map (·.2))
  | [], _, _, _, h, e => by
    simp only [dctOf] at e; cases e
    exact ⟨.nil, [], [], h.unnil, .nil, rfl, .nil⟩
  | .tup [.str k, v] :: r, _, _, _, h, e => by
    obtain ⟨x, t, rfl, h1, h2⟩ := h.uncons
    simp only [dctOf] at e
    cases q : dctOf r with
    | none => rw [q] at e; cases e
    | some p =>
      obtain ⟨ks, ws⟩ := p
      rw [q] at e
      simp only at e
      split at e
      · cases e
      · rename_i hk
        cases e
        obtain ⟨i0, ps, kvs, rfl, i1, i2, i3⟩ := dctOf_ok h2 q
        obtain ⟨a, us, rfl, s1, s2⟩ := CRep.tup (.of h1)
        obtain ⟨u1, t1, rfl, a1, a2⟩ := s2.uncons
        obtain ⟨u2, t2, rfl, b1, b2⟩ := a2.uncons
        have a1 : u1 = .str k := by simpa only [Rep] using a1
        rw [a1, b2.unnil] at s1
        exact ⟨List.nodup_cons.mpr ⟨hk, i0⟩, a :: ps, (.inr k, u2) :: kvs, rfl, .cons s1 i1, by simp [i2], .cons b1 i3⟩
  | .tup [] :: r, _, _, _, _, e => by simp [dctOf] at e
  | .tup [_] :: r, _, _, _, _, e => by simp [dctOf] at e
  | .tup (.non :: _ :: _) :: r, _, _, _, _, e => by simp [dctOf] at e
  | .tup (.bl _ :: _ :: _) :: r, _, _, _, _, e => by simp [dctOf] at e
  | .tup (.int _ :: _ :: _) :: r, _, _, _, _, e => by simp [dctOf] at e
  | .tup (.tup _ :: _ :: _) :: r, _, _, _, _, e => by simp [dctOf] at e
  | .tup (.lst _ :: _ :: _) :: r, _, _, _, _, e => by simp [dctOf] at e
  | .tup (.flst _ :: _ :: _) :: r, _, _, _, _, e => by simp [dctOf] at e
  | .tup (.dct _ _ :: _ :: _) :: r, _, _, _, _, e => by simp [dctOf] at e
  | .tup (.fn _ :: _ :: _) :: r, _, _, _, _, e => by simp [dctOf] at e
  | .tup (.ref _ :: _ :: _) :: r, _, _, _, _, e => by simp [dctOf] at e
  | .tup (.exc _ _ :: _ :: _) :: r, _, _, _, _, e => by simp [dctOf] at e
  | .tup (.str _ :: _ :: _ :: _) :: r, _, _, _, _, e => by simp [dctOf] at e
  | .non :: _, _, _, _, _, e => by simp [dctOf] at e
  | .bl _ :: _, _, _, _, _, e => by simp [dctOf] at e
  | .int _ :: _, _, _, _, _, e => by simp [dctOf] at e
  | .str _ :: _, _, _, _, _, e => by simp [dctOf] at e
  | .lst _ :: _, _, _, _, _, e => by simp [dctOf] at e
  | .flst _ :: _, _, _, _, _, e => by simp [dctOf] at e
  | .dct _ _ :: _, _, _, _, _, e => by simp [dctOf] at e
  | .fn _ :: _, _, _, _, _, e => by simp [dctOf] at e
  | .ref _ :: _, _, _, _, _, e => by simp [dctOf] at e
  | .exc _ _ :: _, _, _, _, _, e => by simp [dctOf] at e
theorem RepL.strs : ∀ ks : List Str, RepL c d H (ks.map W.str) (ks.map V.str)
  | [] => .nil
  | _ :: r => .cons .strI (RepL.strs r)
theorem nodup_inr {ks : List Str} (h : ks.Nodup) : (ks.map (Sum.inr : Str → Key)).Nodup := by
  rw [List.nodup_iff_pairwise_ne, List.pairwise_map]
  exact h.imp fun h z => h (Sum.inr.inj z)
theorem bi_ok {b : Bi} {ws : List W} {vs : List V} {r : RV} {Q : VK} (hd : ∀ a, d.F a → H a ≠ none) (hx : CRepL c d H ws vs) (hp : pBi b ws = some r) (h : ∀ v H', PrimPost c d H r v H' → Q v H') : rBi c.K b vs H Q := by
  unfold pBi at hp
  split at hp
  · cases hp
    obtain ⟨v, rfl, hv⟩ := hx.one
    obtain ⟨a, us, rfl, h1, h2⟩ := hv.lst
    exact .inl ⟨a, us, rfl, .inl (.of h1), h _ _ (.same (by rw [h2.length]; exact .intI))⟩
  · cases hp
    obtain ⟨v, rfl, hv⟩ := hx.one
    obtain ⟨a, us, rfl, h1, h2⟩ := hv.flst
    exact .inl ⟨a, us, rfl, .inl h1, h _ _ (.same (by rw [h2.length]; exact .intI))⟩
  · cases hp
    obtain ⟨v, rfl, hv⟩ := hx.one
    obtain ⟨a, us, rfl, h1, h2⟩ := hv.tup
    exact .inl ⟨a, us, rfl, .inr h1, h _ _ (.same (by rw [h2.length]; exact .intI))⟩
  · split at hp
    · rename_i hz
      cases hp
      obtain ⟨v, rfl, hv⟩ := hx.one
      exact .inr ⟨_, by rw [hv.str], szOk_iff hz, h _ _ (.same .intI)⟩
    · cases hp
  · cases hp
    obtain ⟨v, u, rfl, h1, h2⟩ := hx.two
    exact ⟨_, _, by rw [h1.int, h2.int], h _ _ (.same .intI)⟩
  · cases hp
    obtain ⟨v, u, rfl, h1, h2⟩ := hx.two
    exact ⟨_, _, by rw [h1.int, h2.int], h _ _ (.same .intI)⟩
  · rename_i l
    cases q : wInts l with
    | none => rw [q] at hp; cases hp
    | some ns =>
      rw [q] at hp; cases hp
      obtain ⟨v, rfl, hv⟩ := hx.one
      obtain ⟨a, us, rfl, h1, h2⟩ := hv.lst
      exact ⟨a, ns, rfl, by rw [← wInts_ok h2 q]; exact .of h1, h _ _ (.same .intI)⟩
  · rename_i l
    cases q : wInts l with
    | none => rw [q] at hp; cases hp
    | some ns =>
      rw [q] at hp; cases hp
      obtain ⟨v, rfl, hv⟩ := hx.one
      obtain ⟨a, us, rfl, h1, h2⟩ := hv.flst
      exact ⟨a, ns, rfl, by rw [← wInts_ok h2 q]; exact h1, h _ _ (.same .intI)⟩
  · cases hp
    obtain ⟨v, rfl, hv⟩ := hx.one
    have hv : Rep c d H (.dct [] []) v := hv
    simp only [Rep] at hv
    obtain ⟨a, kvs, rfl, _, h1, h2, _⟩ := hv
    have : kvs = [] := by
      have h2 : kvs.map (fun p => kV p.1) = [] := h2
      simpa using h2
    subst this
    exact .inr ⟨a, rfl, h1, h _ _ (.same .strI)⟩
  · rename_i a _
    unfold reprW at hp
    split at hp
    · rename_i x hx'
      split at hp
      · rename_i hz
        cases hp
        simp only [Bool.and_eq_true] at hz
        obtain ⟨v, rfl, hv⟩ := hx.one
        exact .inl ⟨v, x, rfl, hv.dp hx', plain_toD _ _ hx', hz.1, hz.2.1, szOk_iff hz.2.2, h _ _ (.same .strI)⟩
      · cases hp
    · cases hp
  · cases hp
    obtain ⟨v, rfl, hv⟩ := hx.one
    exact .inl ⟨_, by rw [hv.int], h _ _ (.same .intI)⟩
  · cases hp
    obtain ⟨v, rfl, hv⟩ := hx.one
    exact .inr ⟨_, by rw [hv.bl], h _ _ (.same .intI)⟩
  · cases hp
    obtain ⟨v, rfl, hv⟩ := hx.one
    obtain ⟨a, us, rfl, h1, h2⟩ := hv.lst
    exact ⟨a, us, rfl, .inl (.of h1), fun p hp => h _ _ (.freshL hd hp h2)⟩
  · cases hp
    obtain ⟨v, rfl, hv⟩ := hx.one
    obtain ⟨a, us, rfl, h1, h2⟩ := hv.flst
    exact ⟨a, us, rfl, .inl h1, fun p hp => h _ _ (.freshL hd hp h2)⟩
  · cases hp
    obtain ⟨v, rfl, hv⟩ := hx.one
    obtain ⟨a, us, rfl, h1, h2⟩ := hv.tup
    exact ⟨a, us, rfl, .inr h1, fun p hp => h _ _ (.freshL hd hp h2)⟩
  · cases hp
    obtain ⟨v, rfl, hv⟩ := hx.one
    obtain ⟨a, us, rfl, h1, h2⟩ := hv.lst
    exact ⟨a, us, rfl, .inl ⟨.of h1, fun p hp => h _ _ (.newT hd hp h2)⟩⟩
  · cases hp
    obtain ⟨v, rfl, hv⟩ := hx.one
    obtain ⟨a, us, rfl, h1, h2⟩ := hv.flst
    exact ⟨a, us, rfl, .inl ⟨h1, fun p hp => h _ _ (.newT hd hp h2)⟩⟩
  · cases hp
    obtain ⟨v, rfl, hv⟩ := hx.one
    obtain ⟨a, us, e, h1, h2⟩ := hv.tup
    exact ⟨a, us, by rw [e], .inr ⟨h1, by rw [← e]; exact h _ _ (.same hv)⟩⟩
  · rename_i l
    cases q : dctOf l with
    | none => rw [q] at hp; cases hp
    | some p =>
      obtain ⟨ks, ws⟩ := p
      rw [q] at hp; cases hp
      obtain ⟨v, rfl, hv⟩ := hx.one
      obtain ⟨a, us, rfl, h1, h2⟩ := hv.lst
      obtain ⟨nd, ps, kvs, rfl, i1, i2, i3⟩ := dctOf_ok h2 q
      refine ⟨a, ps, kvs, rfl, .of h1, i1, fun p hp => h _ _ ⟨(· = p), .one hp, ?_⟩⟩
      have em : mergeK [] kvs = kvs := by
        rw [merge_new]; · rfl
        · rw [i2]; simpa using nodup_inr nd
      rw [em]
      simp only [Rep]
      have g : Le d H (d.more (· = p)) (upd H p (.dK kvs)) := (Grow.one hp).le hd
      refine ⟨p, kvs, rfl, .inr rfl, upd_same, ?_, i3.mono g⟩
      have e : kvs.map (fun p => kV p.1) = ks.map V.str := by
        have := congrArg (List.map kV) i2
        rw [List.map_map, List.map_map] at this
        exact this
      rw [e]
      exact .strs ks
  · cases hp
end
end NV
set_option Elab.async false
set_option linter.all false
set_option maxRecDepth 100000
set_option maxHeartbeats 1000000
/-! # The judgement: an expression of the text does what the little expression says -/
namespace NV
open PySem PySem.Spec PyProof.Rows L2

/-- what stands around an expression: names by slot, scope, functions, free built-in names, constants of the module -/
structure Ck where
  N : List Str
  sc : Scope
  fns : List Str
  free : List Str
  gcs : List (Str × W)
  gds : List (Str × List W × List W)
  pars : List (List Str)
  top : Bool

/-- an exception: its class's number, its value -/
abbrev EX := Nat → W → Wd → L2.St → Hp → Prop
section
variable {α β : Type}
def TPost (c : Cn) (ex : EX) (R : Ent → Wd → Env → L2.St → Hp → α → β → Prop) (e : Ent) (σ : L2.St) (o : Out α) (Q : β → Hp → Prop) : Prop := match o with
  | .ok a ρ' S' => ∀ b d' H', Sim c e d' ρ' S' σ H' → R e d' ρ' σ H' a b → Q b H'
  | .exn k w ρ' S' => ∀ d' H', Sim c e d' ρ' S' σ H' → ex k w d' σ H'
  | .stuck => False
def TP (c : Cn) (ex : EX) (R : Ent → Wd → Env → L2.St → Hp → α → β → Prop) (g : Env → Sto → Out α) : L2.St → Hp → (β → Hp → Prop) → Prop := fun σ H Q =>
  ∃ e d ρ S, Sim c e d ρ S σ H ∧ TPost c ex R e σ (g ρ S) Q
end
section
variable {α α' β β' : Type} {c : Cn} {ex : EX} {R : Ent → Wd → Env → L2.St → Hp → α → β → Prop} {R' : Ent → Wd → Env → L2.St → Hp → α' → β' → Prop} {σ : L2.St} {H : Hp} {e : Ent} {d : Wd} {ρ : Env} {S : Sto}
/-- the first step of two -/
theorem Sim.step (s : Sim c e d ρ S σ H) {o : Out α} {f : α → Env → Sto → Out α'} {Q : β → Hp → Prop} {Q' : β' → Hp → Prop} (h : TPost c ex R' e σ (o.bind f) Q')
    (k : ∀ a ρ1 S1 b d1 H1, Sim c (NV.rb e d H ρ σ) d1 ρ1 S1 σ H1 → R (NV.rb e d H ρ σ) d1 ρ1 σ H1 a b → TPost c ex R' e σ (f a ρ1 S1) Q' → Q b H1) : TPost c ex R (NV.rb e d H ρ σ) σ o Q := by
  cases o with
  | ok a ρ1 S1 => exact fun b d1 H1 s1 r1 => k a ρ1 S1 b d1 H1 s1 r1 h
  | exn n w ρ1 S1 => exact fun d1 H1 s1 => h d1 H1 (s.comp s1)
  | stuck => exact h
theorem Sim.tp (s : Sim c e d ρ S σ H) {g : Env → Sto → Out α} {f : α → Env → Sto → Out α'} {Q : β → Hp → Prop} {Q' : β' → Hp → Prop} (h : TPost c ex R' e σ ((g ρ S).bind f) Q')
    (k : ∀ a ρ1 S1 b d1 H1, Sim c (NV.rb e d H ρ σ) d1 ρ1 S1 σ H1 → R (NV.rb e d H ρ σ) d1 ρ1 σ H1 a b → TPost c ex R' e σ (f a ρ1 S1) Q' → Q b H1) : TP c ex R g σ H Q :=
  ⟨_, d, ρ, S, s.rb, s.step h k⟩
theorem TPost.imp {o : Out α} {Q Q' : β → Hp → Prop} (h : TPost c ex R e σ o Q) (k : ∀ b H, Q b H → Q' b H) : TPost c ex R e σ o Q' := by
  cases o with
  | ok a ρ1 S1 => exact fun b d1 H1 s1 r1 => k b H1 (h b d1 H1 s1 r1)
  | exn n w ρ1 S1 => exact h
  | stuck => exact h
end
/-- an expression's reading; an argument's; a test's -/
abbrev TV (c : Cn) (ex : EX) (g : Env → Sto → Out RV) : TE := TP c ex (RvR c) g
abbrev TAv (c : Cn) (ex : EX) (g : Env → Sto → Out AV) : TE := TP c ex (fun _ d _ σ H x v => AvR c d σ H x v) g
abbrev TAs (c : Cn) (ex : EX) (g : Env → Sto → Out (List AV)) : TA := TP c ex (fun _ d _ σ H x v => AvsR c d σ H x v) g
def tst (g : Env → Sto → Out RV) : Env → Sto → Out Bool := fun ρ S => (g ρ S).bind fun r ρ S => match r with
  | .val (.bl b) => .ok b ρ S
  | _ => .stuck
abbrev TBo (c : Cn) (ex : EX) (g : Env → Sto → Out Bool) : TT := TP c ex (fun _ _ _ _ _ a b => b = a) g

theorem pe_imp {X : Cx} {e : Expr} {t t' : TE} (h : PE X e t) (k : ∀ σ H Q, t' σ H Q → t σ H Q) : PE X e t' := ⟨fun pins s σ H Q I q => h.run pins s σ H Q I (k σ H Q q)⟩
theorem pt_imp {X : Cx} {e : Expr} {t t' : TT} (h : PT X e t) (k : ∀ σ H Q, t' σ H Q → t σ H Q) : PT X e t' := ⟨fun pins s σ H Q I q => h.run pins s σ H Q I (k σ H Q q)⟩
theorem pw_imp {X : Cx} {e : Expr} {t t' : TT} (h : PW X e t) (k : ∀ σ H Q, t' σ H Q → t σ H Q) : PW X e t' := ⟨fun w pins s σ H Q I q => h.run w pins s σ H Q I (k σ H Q q)⟩
theorem pa_imp {X : Cx} {e : List Expr} {t t' : TA} (h : PA X e t) (k : ∀ σ H Q, t' σ H Q → t σ H Q) : PA X e t' := ⟨fun w pins s σ H Q I q => h.run w pins s σ H Q I (k σ H Q q)⟩

/-- a call of one's own def, by values -/
def SpC (c : Cn) (ex : EX) (cf : CallF) (f : Nat) (σ : L2.St) : List V → Hp → VK → Prop := fun vs H Q =>
  ∃ e d args S, e.d = d ∧ e.H = H ∧ Sim c e d (args.map some) S (vs.map some) H ∧ (∀ i a, ownAt (args.map some) (vs.map some) i a → (i, a) ∈ e.P) ∧ (∀ a, e.B a → owns (args.map some) (vs.map some) a) ∧
    match cf f args S with
    | .ok r as S' => ∀ v d' H', Sim c e d' as S' (vs.map some) H' → RvR c e d' as (vs.map some) H' r v → Q v H'
    | .exn k w as S' => ∀ d' H', Sim c e d' as S' (vs.map some) H' → ex k w d' σ H'
    | .stuck => False

/-- what is written at a call binds as these values -/
def BindO (k : Ck) (f : Nat) (us : List Value) (kw : List (Str × Value)) (vals : List Value) : Prop := ∃ ps, k.pars[f]? = some ps ∧ ∀ fd : FuncData, Plain ps fd.params → fd.defaults = .none → bindArgs fd ⟨us, kw⟩ = pure (ps.zip vals)
/-- FnOk, where no guard stands around -/
structure FnG (P : Program) (w : World) (K : PySem.W.Frag) (mg : Str → Option Value) (base : Heap) (CX : CXT) (k : Nat) (f : Addr) (fd : FuncData) (ps : List Str) (sp : Sp) : Prop where
  len : ∀ vs H Q E, sp vs H Q E → vs.length = ps.length
  run : ∀ (A : Around) (outer : List PySem.Env) (s : Shared) (H : Hp) (args : Args) (us : List Value) (vs : List V) (Q : VK) (E : XK), Room k A → A.guards = some [] → Env0 P w K mg base A outer s H → BindsTo s fd args (ps.zip us) → Vals vs us → sp vs H Q E →
    codeAny (model P w) A (.call (.ref f) args) (CR CX outer P w H s Q E) s
/-- an exception's class and dict -/
def xr (c : Cn) (k : Nat) (w : W) (d : Wd) (H : Hp) (cls : Value) (dd : Option Addr) : Prop := ∃ (C D : Addr) (fs : List (Str × V)) (v : V), c.xa[k]? = some C ∧ cls = .ref C ∧ dd = some D ∧ H D = some (.xd fs) ∧ fs.lookup (("value" : Str)) = some v ∧ Rep c d H w v
/-- what a def does, by values -/
def spF (c : Cn) (cf : CallF) (f : Nat) : Sp := fun vs H Q E =>
  ∃ e d args S, e.d = d ∧ e.H = H ∧ Sim c e d (args.map some) S (vs.map some) H ∧ (∀ i a, ownAt (args.map some) (vs.map some) i a → (i, a) ∈ e.P) ∧ (∀ a, e.B a → owns (args.map some) (vs.map some) a) ∧
    match cf f args S with
    | .ok r as S' => ∀ v d' H', Sim c e d' as S' (vs.map some) H' → RvR c e d' as (vs.map some) H' r v → Q v H'
    | .exn k w as S' => ∀ d' H' cls dd, Sim c e d' as S' (vs.map some) H' → xr c k w d' H' cls dd → E cls dd H'
    | .stuck => False
structure CxOk (c : Cn) (k : Ck) (ex : EX) (cf : CallF) (X : Cx) : Prop where
  K : X.K = c.K
  N : X.N = k.N
  nd : X.N.Nodup
  sc : X.env.scope = k.sc
  fnt : k.top = true → ∀ x, X.fn x = true
  calm : X.calm = true
  un : X.A.units + 150 < cLine
  gd : X.A.guards = some []
  fnm : ∀ (f : Nat) (x : Str), k.fns[f]? = some x → ∃ a, c.fa[f]? = some a ∧ X.mg x = some (.ref a) ∧ PySem.W.keepIn X.K (.ref a) = true
  free : ∀ x ∈ k.free, X.mg x = none
  gcs : ∀ p ∈ k.gcs, ∃ u v, X.mg p.1 = some u ∧ RelV v u ∧ ∀ d H, Rep c d H p.2 v
  gds : ∀ p ∈ k.gds, ∃ a, X.mg p.1 = some (.ref a) ∧ ∀ (z : Str) (w : W), dctFind p.2.1 p.2.2 z = some w → ∃ v, KDct X.K X.w a z v ∧ ∀ d H, Rep c d H w v
  tk : ∃ W, Takes X W ∧ ∀ k w d σ H, ex k w d σ H → ∀ cls dd, xr c k w d H cls dd → W cls dd σ H
  fs : ∀ (f : Nat) (a : Addr), c.fa[f]? = some a → ∃ kk fd ps, k.pars[f]? = some ps ∧ Plain ps fd.params ∧ fd.defaults = .none ∧ Room kk X.A ∧ FnG X.prog X.w X.K X.mg X.base (L2.CX X.prog X.w) kk a fd ps (spF c cf f)
theorem CxOk.calls {c : Cn} {k : Ck} {ex : EX} {cf : CallF} {X : Cx} (o : CxOk c k ex cf X) (f : Nat) (a : Addr) (ha : c.fa[f]? = some a) (pins : List (Addr × Obj)) (s : Shared) (σ : L2.St) (H : Hp) (vs : List V) (us : List Value) (kw : List (Str × Value)) (vals : List Value) (Q : VK)
    (I : Inv X pins σ H s) (r : Vals vs vals) (hb : BindO k f us kw vals) (h : SpC c ex cf f σ vs H Q) : wpAny (model X.prog X.w) X.A (call (.ref a) us kw) (EP X pins σ Q) X.xe s := by
  obtain ⟨kk, fd, ps, q1, q2, q3, q4, F⟩ := o.fs f a ha
  obtain ⟨ps', p1, p2⟩ := hb
  rw [q1] at p1; cases p1
  obtain ⟨W, tk, hW⟩ := o.tk
  have h' : spF c cf f vs H Q (fun cls dd H' => W cls dd σ H') := by
    obtain ⟨e, d, args, S, h1, h2, h3, h4, h5, h6⟩ := h
    refine ⟨e, d, args, S, h1, h2, h3, h4, h5, ?_⟩
    split at h6
    · exact h6
    · exact fun d' H' cls dd t x => hW _ _ _ _ _ (h6 d' H' t) cls dd x
    · exact h6
  refine wpAny_call (codeAny_mono (F.run X.A X.stack s H ⟨us, kw⟩ vals vs Q _ q4 o.gd I.env0 (BindsTo.of_eq (p2 fd q2 q3)) r h') fun r s' hq => ?_)
  cases r with
  | error e => exact tk _ _ (XE.of_call I (fun cls d H' h => h) hq)
  | ok fl =>
    cases fl with
    | ret u => exact I.after hq
    | next => exact False.elim hq
    | brk => exact False.elim hq
    | cont => exact False.elim hq
/-- a comprehension's block -/
def Ck.blk (k : Ck) (scope : Scope) : Ck := { k with sc := relS scope k.sc, top := false }
def exF : EX := fun _ _ _ _ _ => False
theorem CxOk.blk {c : Cn} {k : Ck} {ex : EX} {cf : CallF} {X : Cx} (o : CxOk c k ex cf X) (s : Shared) (H : Hp) (scope : Scope) (C : Addr) (cl : List (Str × Addr)) (fp : List Addr) : CxOk c (k.blk scope) exF cf (X.blk s H scope (compEnvC scope cl C X.env) fp) where
  K := o.K
  N := o.N
  nd := o.nd
  sc := by show relS scope X.env.scope = relS scope k.sc; rw [o.sc]
  fnt := fun h => by cases h
  calm := o.calm
  un := o.un
  gd := o.gd
  fnm := o.fnm
  free := o.free
  gcs := o.gcs
  gds := o.gds
  tk := ⟨fun _ _ _ _ => False, fun u s' ⟨_, _, _, _, _, _, _, _, _, _, _, _, _, _, _, _, w⟩ => w.elim, fun _ _ _ _ _ h => h.elim⟩
  fs := o.fs

structure EOk (c : Cn) (ex : EX) (X : Cx) (e : Expr) (g : Env → Sto → Out RV) : Prop where
  pe : PE X e (TV c ex g)
  pt : PT X e (TBo c ex (tst g))
  pw : ∀ op vs pos, e = .BoolOp op vs pos → PW X e (TBo c ex (tst g))
theorem EOk.imp {c : Cn} {ex : EX} {X : Cx} {e : Expr} {g g' : Env → Sto → Out RV} (h : EOk c ex X e g) (hg : ∀ ρ S, g' ρ S = g ρ S) : EOk c ex X e g' := by
  have : g' = g := by funext ρ S; exact hg ρ S
  rw [this]; exact h

section
variable {c : Cn} {k : Ck} {ex : EX} {cf : CallF} {X : Cx}
/-- from a value's reading to a test's -/
theorem tb_of {g : Env → Sto → Out RV} {σ : L2.St} {H : Hp} {Q : Bool → Hp → Prop} (h : TBo c ex (tst g) σ H Q) : TV c ex g σ H (fun x H1 => ∃ b, x = .bl b ∧ Q b H1) := by
  obtain ⟨e, d, ρ, S, s, h⟩ := h
  refine s.tp h fun r ρ1 S1 v d1 H1 s1 r1 h1 => ?_
  split at h1
  · rename_i b
    have r1 : v = .bl b := by simpa only [RvR, Rep] using r1
    exact ⟨b, r1, h1 b d1 H1 (s.comp s1) rfl⟩
  · exact h1.elim
theorem EOk.of_plain {e : Expr} {g : Env → Sto → Out RV} (h : PE X e (TV c ex g)) (he : ∀ whole, isTrue e X.env whole = (do let v ← whole; standAt e.pos; holding [v] (truthy v))) (hb : ∀ op vs pos, e ≠ .BoolOp op vs pos) : EOk c ex X e g :=
  ⟨h, pt_imp (pt_val h he) fun _ _ _ => tb_of, fun op vs pos z => absurd z (hb op vs pos)⟩

/-! ### names, constants -/
theorem ev_cst {w : W} {v : V} {e : Expr} {g : Env → Sto → Out RV} (hg : ∀ ρ S, g ρ S = .ok (.val w) ρ S) (h : PE X e (tC v)) (hr : ∀ d H, Rep c d H w v) : PE X e (TV c ex g) := pe_imp h fun σ H Q ⟨e, d, ρ, S, s, h⟩ => by
  rw [hg] at h
  exact h v d H s (hr d H)
def constEq : Const → W → Bool
  | .none, .non => true
  | .bool a, .bl b => decide (a = b)
  | .int a, .int b => decide (a = b)
  | .str a, .str b => decide (a = b)
  | _, _ => false
theorem ok_cst {w : W} {k : Const} {j : Nat} {pos : Pos} (h : constEq k w = true) : EOk c ex X (.Constant k j pos) (evE cf (.cst w)) := by
  refine .of_plain ?_ (fun _ => rfl) (fun _ _ _ z => by cases z)
  have hg : ∀ ρ S, evE cf (.cst w) ρ S = .ok (.val w) ρ S := fun ρ S => by simp only [evE]
  unfold constEq at h
  split at h
  · exact ev_cst hg (v := .non) pe_non fun _ _ => .nonI
  · have h := of_decide_eq_true h; subst h
    exact ev_cst hg (v := .bl _) pe_bl fun _ _ => .blI
  · have h := of_decide_eq_true h; subst h
    exact ev_cst hg (v := .int _) pe_int fun _ _ => .intI
  · have h := of_decide_eq_true h; subst h
    exact ev_cst hg (v := .str _) pe_str fun _ _ => .strI
  · cases h
def visB (k : Ck) (i : Nat) (x : Str) : Bool := decide (k.N[i]? = some x) && ((match k.sc.names.lookup x with
  | some .local => true
  | some .cell => true
  | some .free => true
  | _ => false) && (!(x == ("__debug__" : Str)) && !(x == ("__classdict__" : Str))))
theorem vis_pe (o : CxOk c k ex cf X) {i : Nat} {x : Str} {pos : Pos} (h : visB k i x = true) : PE X (.Name x pos) (tVar i) := by
  unfold visB at h
  simp only [Bool.and_eq_true, Bool.not_eq_true'] at h
  refine pe_var (by rw [o.N]; exact of_decide_eq_true h.1) ?_ h.2.2.1 h.2.2.2
  have h2 := h.2.1
  unfold Vis
  rw [o.sc]
  split at h2
  · rename_i q; exact .inl q
  · rename_i q; exact .inr (.inl q)
  · rename_i q; exact .inr (.inr q)
  · cases h2
theorem isTrue_name {x : Str} {pos : Pos} : ∀ whole, isTrue (.Name x pos) X.env whole = (do let v ← whole; standAt (Expr.Name x pos).pos; holding [v] (truthy v)) := fun _ => rfl
theorem ok_nm (o : CxOk c k ex cf X) {i : Nat} {x : Str} {pos : Pos} (h : visB k i x = true) : EOk c ex X (.Name x pos) (evE cf (.nm i)) := by
  refine .of_plain (pe_imp (vis_pe o h) fun σ H Q ⟨e, d, ρ, S, s, h⟩ => ?_) isTrue_name (fun _ _ _ z => by cases z)
  simp only [evE] at h
  split at h
  · rename_i w ρ' q
    obtain ⟨v, d', hv, s', r⟩ := s.rd q
    exact ⟨v, hv, h v d' H s' r⟩
  · exact h.elim
def glB (k : Ck) (x : Str) : Bool := decide (k.sc.names.lookup x = some .globalImplicit) && !(x == ("__debug__" : Str))
theorem gl_of (o : CxOk c k ex cf X) {x : Str} (h : glB k x = true) : Gl X x ∧ (x == ("__debug__" : Str)) = false := by
  unfold glB at h
  simp only [Bool.and_eq_true, Bool.not_eq_true'] at h
  exact ⟨by show X.env.scope.names.lookup x = _; rw [o.sc]; exact of_decide_eq_true h.1, h.2⟩
theorem ok_gf (o : CxOk c k ex cf X) {f : Nat} {x : Str} {pos : Pos} (h : (glB k x && decide (k.fns[f]? = some x)) = true) : EOk c ex X (.Name x pos) (evE cf (.gf f)) := by
  rw [Bool.and_eq_true] at h
  obtain ⟨h1, h2⟩ := gl_of o h.1
  obtain ⟨a, h3, h4, _⟩ := o.fnm f x (of_decide_eq_true h.2)
  refine .of_plain (ev_cst (w := .fn f) (g := evE cf (.gf f)) (fun ρ S => by simp only [evE]) (v := .ref a) (pe_glob h1 h4 rfl h2) fun d H => ?_) isTrue_name (fun _ _ _ z => by cases z)
  simp only [Rep]
  exact ⟨a, h3, rfl⟩
theorem gc_pe (o : CxOk c k ex cf X) {w : W} {x : Str} {pos : Pos} (h : glB k x = true) (hm : (x, w) ∈ k.gcs) : EOk c ex X (.Name x pos) (evE cf (.gc x w)) := by
  obtain ⟨h1, h2⟩ := gl_of o h
  obtain ⟨u, v, h3, h4, h5⟩ := o.gcs _ hm
  exact .of_plain (ev_cst (w := w) (g := evE cf (.gc x w)) (fun ρ S => by simp only [evE]) (pe_glob h1 h3 h4 h2) h5) isTrue_name (fun _ _ _ z => by cases z)

/-! ### arguments -/
theorem RvR.up {e : Ent} {d d' : Wd} {ρ ρ' : Env} {S : Sto} {σ : L2.St} {H H' : Hp} {r : RV} {v : V} (s : Sim c e d ρ S σ H) (h : RvR c (NV.rb e d H ρ σ) d' ρ' σ H' r v) : RvR c e d' ρ' σ H' r v := by
  cases r with
  | val w => exact h
  | fresh l =>
    obtain ⟨a, vs, q1, q2, q3, q4, q5, q6, q7⟩ := h
    exact ⟨a, vs, q1, q2, q3, q4, q5, s.gone q6, q7⟩
/-- behind a step: the state, the value -/
theorem av_val {e : Expr} {g : Env → Sto → Out RV} (h : PE X e (TV c ex g)) : PE X e (TAv c ex fun ρ S => (g ρ S).bind fun r ρ S => .ok (.val r.frz) ρ S) := pe_imp h fun σ H Q ⟨e, d, ρ, S, s, h⟩ =>
  s.tp h fun r ρ1 S1 v d1 H1 s1 r1 h1 => by
    obtain ⟨d2, s2, _, r2⟩ := (s.comp s1).frz (r1.up s)
    exact h1 v d2 H1 s2 r2
theorem av_pk (o : CxOk c k ex cf X) {i : Nat} {x : Str} {pos : Pos} (h : visB k i x = true) : PE X (.Name x pos) (TAv c ex (evV cf (.pk i))) := pe_imp (vis_pe o h) fun σ H Q ⟨e, d, ρ, S, s, h⟩ => by
  simp only [evV, argV] at h
  split at h
  · rename_i sv q
    obtain ⟨v, q1, _⟩ := s.slot i _ (sget_iff.mp q)
    exact ⟨v, q1, h v d H s q1⟩
  · exact h.elim
def noStar : Expr → Bool
  | .Starred _ _ => false
  | _ => true
theorem star_of {e : Expr} {es : List Expr} {env : PySem.Env} (h : noStar e = true) : starEach (e :: es) env = (false, eval e env) :: starEach es env := by
  cases e <;> first | rfl | cases h
def noSlice : Expr → Bool
  | .Slice _ _ _ _ => false
  | _ => true
theorem plainIx_of {e : Expr} (h : noSlice e = true) : PlainIx e := by
  intro o i
  cases e <;> first | rfl | cases h
theorem as_nil : PA X [] (TAs c ex (evA cf .nil)) := pa_imp pa_nil fun σ H Q ⟨e, d, ρ, S, s, h⟩ => by
  simp only [evA] at h
  exact h [] d H s rfl
theorem as_cons {a b : M} {e : Expr} {es : List Expr} (ha : PE X e (TAv c ex (evV cf a))) (hb : PA X es (TAs c ex (evA cf b))) (hs : noStar e = true) : PA X (e :: es) (TAs c ex (evA cf (.cons a b))) :=
  pa_imp (pa_cons ha hb (star_of hs)) fun σ H Q ⟨e, d, ρ, S, s, h⟩ => by
    simp only [evA] at h
    refine s.tp h fun x ρ1 S1 v d1 H1 s1 r1 h1 => (s.comp s1).tp h1 fun xs ρ2 S2 vs d2 H2 s2 r2 h2 => ?_
    exact h2 _ d2 H2 ((s.comp s1).comp s2) ⟨v, vs, rfl, r1.mono s2.le0, r2⟩

/-! ### operations -/
section
variable {e : Ent} {d : Wd} {ρ : Env} {S : Sto} {σ : L2.St} {H H' : Hp} {Q : VK}
theorem Sim.fin (s : Sim c e d ρ S σ H) {r : RV} {v : V} (h : TPost c ex (RvR c) e σ (.ok r ρ S) Q) (p : PrimPost c d H r v H') : Q v H' := by
  obtain ⟨d', s', r'⟩ := s.prim p
  exact h v d' H' s' r'
theorem Sim.finV (s : Sim c e d ρ S σ H) {w : W} {v : V} (h : TPost c ex (RvR c) e σ (.ok (.val w) ρ S) Q) (p : Rep c d H w v) : Q v H := h v d H s p
end
theorem g_bin (o : CxOk c k ex cf X) {p : Operator} {a b : Expr} {ma mb : M} {pos : Pos} (ha : PE X a (TAv c ex (evV cf ma))) (hb : PE X b (TAv c ex (evV cf mb))) : EOk c ex X (.BinOp a p b pos) (evE cf (.op2 (.bin p) ma mb)) := by
  refine .of_plain (pe_imp (pe_op (opr_bin p) ha hb) fun σ H Q ⟨e, d, ρ, S, s, h⟩ => ?_) (fun _ => rfl) (fun _ _ _ z => by cases z)
  simp only [evE] at h
  refine s.tp h fun x ρ1 S1 v d1 H1 s1 r1 h1 => (s.comp s1).tp h1 fun y ρ2 S2 u d2 H2 s2 r2 h2 => ?_
  have s3 := (s.comp s1).comp s2
  split at h2
  · rename_i wx wy q1 q2
    split at h2
    · rename_i r hp
      rw [o.K]
      exact bin_ok s3.dom (s3.av (r1.mono s2.le0) q1) (s3.av r2 q2) hp fun v H' pp => s3.fin h2 pp
    · exact h2.elim
  · exact h2.elim
theorem g_cmp (o : CxOk c k ex cf X) {p : CmpOp} {a b : Expr} {ma mb : M} {pos : Pos} (ha : PE X a (TAv c ex (evV cf ma))) (hb : PE X b (TAv c ex (evV cf mb))) (hm : behindInMarks p b = false) : EOk c ex X (.Compare a [p] [b] pos) (evE cf (.op2 (.cmp p) ma mb)) := by
  have hu : X.A.units + 100 < cLine := by have := o.un; omega
  have key : ∀ σ H (Q : VK), TV c ex (evE cf (.op2 (.cmp p) ma mb)) σ H Q → tOp (rC X.K p) (TAv c ex (evV cf ma)) (TAv c ex (evV cf mb)) σ H Q := fun σ H Q ⟨e, d, ρ, S, s, h⟩ => by
    simp only [evE] at h
    refine s.tp h fun x ρ1 S1 v d1 H1 s1 r1 h1 => (s.comp s1).tp h1 fun y ρ2 S2 u d2 H2 s2 r2 h2 => ?_
    have s3 := (s.comp s1).comp s2
    split at h2
    · rename_i wx wy q1 q2
      unfold pOp2 at h2
      cases hp : pCmp p wx wy with
      | none => simp only [hp, Option.map_none] at h2; exact h2.elim
      | some r =>
        simp only [hp, Option.map_some] at h2
        rw [o.K]
        exact cmp_ok (s3.av (r1.mono s2.le0) q1) (s3.av r2 q2) hp (s3.finV h2 .blI)
    · exact h2.elim
  exact ⟨pe_imp (pe_cmpR (opr_cmp hu p) ha hb hm) key, pt_imp (pt_cmpR (opr_cmp hu p) ha hb hm) fun σ H Q h => key σ H _ (tb_of h), fun _ _ _ z => by cases z⟩
theorem g_ix (o : CxOk c k ex cf X) {a b : Expr} {ma mb : M} {pos : Pos} (ha : PE X a (TAv c ex (evV cf ma))) (hb : PE X b (TAv c ex (evV cf mb))) (hs : noSlice b = true) : EOk c ex X (.Subscript a b pos) (evE cf (.op2 .ix ma mb)) := by
  have hu : X.A.units + 100 < cLine := by have := o.un; omega
  refine .of_plain (pe_imp (pe_ix (ixr_all hu) ha hb (plainIx_of hs)) fun σ H Q ⟨e, d, ρ, S, s, h⟩ => ?_) (fun _ => rfl) (fun _ _ _ z => by cases z)
  simp only [evE] at h
  refine s.tp h fun x ρ1 S1 v d1 H1 s1 r1 h1 => (s.comp s1).tp h1 fun y ρ2 S2 u d2 H2 s2 r2 h2 => ?_
  have s3 := (s.comp s1).comp s2
  split at h2
  · rename_i wx wy q1 q2
    unfold pOp2 at h2
    cases hp : pIx wx wy with
    | none => simp only [hp, Option.map_none] at h2; exact h2.elim
    | some r =>
      simp only [hp, Option.map_some] at h2
      rw [o.K]
      exact ix_ok (s3.av (r1.mono s2.le0) q1) (s3.av r2 q2) hp fun v rv => s3.finV h2 rv
  · exact h2.elim
theorem g_neg (o : CxOk c k ex cf X) {a : Expr} {ma : M} {pos : Pos} (ha : PE X a (TV c ex (evE cf ma))) : EOk c ex X (.UnaryOp .USub a pos) (evE cf (.neg ma)) := by
  refine .of_plain (pe_imp (pe_un un_neg ha) fun σ H Q ⟨e, d, ρ, S, s, h⟩ => ?_) (fun _ => rfl) (fun _ _ _ z => by cases z)
  simp only [evE] at h
  refine s.tp h fun x ρ1 S1 v d1 H1 s1 r1 h1 => ?_
  split at h1
  · rename_i i q
    cases x with
    | val w =>
      have q : w = .int i := q
      subst q
      have r1 : v = .int i := by simpa only [RvR, Rep] using r1
      exact ⟨i, r1, (s.comp s1).finV h1 .intI⟩
    | fresh l => cases q
  · exact h1.elim
/-- a slice's part -/
abbrev TOp (c : Cn) (ex : EX) (g : Env → Sto → Out (Option Int)) : TO := TP c ex (fun _ _ _ _ _ a b => b = a) g
theorem po_imp {e : Option Expr} {t t' : TO} (h : PO X e t) (k : ∀ σ H Q, t' σ H Q → t σ H Q) : PO X e t' := by
  obtain ⟨run⟩ := h
  exact ⟨fun pins s σ H Q I q => run pins s σ H Q I (k σ H Q q)⟩
theorem o_none : PO X none (TOp c ex (evO cf .nil)) := po_imp po_none fun σ H Q ⟨e, d, ρ, S, s, h⟩ => by
  simp only [evO, optO] at h
  exact h none d H s rfl
theorem o_some {a : Expr} {ma : M} (ha : PE X a (TV c ex (evE cf ma))) (hm : ∀ ρ S, evO cf ma ρ S = (evE cf ma ρ S).bind fun r ρ S => match r with
    | .val (.int i) => .ok (some i) ρ S
    | _ => .stuck) : PO X (some a) (TOp c ex (evO cf ma)) := po_imp (po_some ha) fun σ H Q ⟨e, d, ρ, S, s, h⟩ => by
  rw [hm] at h
  refine s.tp h fun x ρ1 S1 v d1 H1 s1 r1 h1 => ?_
  split at h1
  · rename_i i
    have r1 : v = .int i := by simpa only [RvR, Rep] using r1
    exact ⟨i, r1, h1 _ d1 H1 (s.comp s1) rfl⟩
  · exact h1.elim
theorem g_sl (o : CxOk c k ex cf X) {a : Expr} {lo hi : Option Expr} {ma ml mh : M} {pos p2 : Pos} (ha : PE X a (TAv c ex (evV cf ma))) (hl : PO X lo (TOp c ex (evO cf ml))) (hh : PO X hi (TOp c ex (evO cf mh))) :
    EOk c ex X (.Subscript a (.Slice lo hi none p2) pos) (evE cf (.sl ma ml mh)) := by
  refine .of_plain (pe_imp (pe_slice slr_all ha hl hh) fun σ H Q ⟨e, d, ρ, S, s, h⟩ => ?_) (fun _ => rfl) (fun _ _ _ z => by cases z)
  simp only [evE] at h
  refine s.tp h fun x ρ1 S1 v d1 H1 s1 r1 h1 => (s.comp s1).tp h1 fun l ρ2 S2 l' d2 H2 s2 r2 h2 => ((s.comp s1).comp s2).tp h2 fun u ρ3 S3 u' d3 H3 s3 r3 h3 => ?_
  have s4 := ((s.comp s1).comp s2).comp s3
  have r2 : l' = l := r2
  have r3 : u' = u := r3
  subst r2 r3
  split at h3
  · rename_i w q
    split at h3
    · rename_i r hp
      rw [o.K]
      exact sl_ok s4.dom (s4.av ((r1.mono s2.le0).mono s3.le0) q) hp fun v H' pp => s4.fin h3 pp
    · exact h3.elim
  · exact h3.elim
end
end NV
set_option Elab.async false
set_option linter.all false
set_option maxRecDepth 100000
set_option maxHeartbeats 1000000
/-! # Further expressions; calls -/
namespace NV
open PySem PySem.Spec PyProof.Rows L2
section
variable {c : Cn} {k : Ck} {ex : EX} {cf : CallF} {X : Cx}
/-! ### displays, built-ins -/
theorem vals_rep {d : Wd} {σ : L2.St} {H : Hp} : ∀ {l : List AV} {vs : List V} {ws : List W}, AvsR c d σ H l vs → vals l = some ws → RepL c d H ws vs
  | [], _, _, h, e => by simp only [vals] at e; cases e; have h : _ = [] := h; rw [h]; exact .nil
  | .val w :: r, _, _, ⟨v, t, e1, h1, h2⟩, e => by
    simp only [vals] at e
    cases q : vals r with
    | none => rw [q] at e; cases e
    | some ws => rw [q] at e; cases e; rw [e1]; exact .cons h1 (vals_rep h2 q)
  | .pk _ :: _, _, _, _, e => by simp only [vals] at e; cases e
theorem g_tup (o : CxOk c k ex cf X) {es : List Expr} {m : M} {j : Nat} {pos : Pos} (h : PA X es (TAs c ex (evA cf m))) : EOk c ex X (.Tuple es j pos) (evE cf (.tup m)) := by
  refine .of_plain (pe_imp (pe_tup h) fun σ H Q ⟨e, d, ρ, S, s, h⟩ => ?_) (fun _ => rfl) (fun _ _ _ z => by cases z)
  simp only [evE] at h
  refine s.tp h fun l ρ1 S1 vs d1 H1 s1 r1 h1 => ?_
  split at h1
  · rename_i ws q
    split at h1
    · rename_i hz
      have r := vals_rep r1 q
      have s2 := s.comp s1
      exact ⟨by rw [r.length]; exact szOk_iff hz, fun p hp => s2.fin h1 (.newT s2.dom hp r)⟩
    · exact h1.elim
  · exact h1.elim
theorem g_lst (o : CxOk c k ex cf X) {es : List Expr} {m : M} {pos : Pos} (h : PA X es (TAs c ex (evA cf m))) : EOk c ex X (.List es pos) (evE cf (.lst m)) := by
  refine .of_plain (pe_imp (pe_lst h) fun σ H Q ⟨e, d, ρ, S, s, h⟩ => ?_) (fun _ => rfl) (fun _ _ _ z => by cases z)
  simp only [evE] at h
  refine s.tp h fun l ρ1 S1 vs d1 H1 s1 r1 h1 => ?_
  split at h1
  · rename_i ws q
    split at h1
    · rename_i hz
      have r := vals_rep r1 q
      have s2 := s.comp s1
      exact ⟨by rw [r.length]; exact szOk_iff hz, fun p hp => s2.fin h1 (.freshL s2.dom hp r)⟩
    · exact h1.elim
  · exact h1.elim
theorem stars_of {es : List Expr} {pos : Pos} {env : PySem.Env} (h : es.all noStar = true) : (backTo pos (starEach es env)).any (·.1) = false := by
  induction es with
  | nil => rfl
  | cons e es ih =>
    rw [List.all_cons, Bool.and_eq_true] at h
    rw [star_of h.1]
    exact ih h.2
theorem noname_of {b : Bi} : (biN b : Str) ≠ "__name__" := by cases b <;> decide
def isTyB : Bi → Bool
  | .int | .list | .tuple | .dict => true
  | _ => false
theorem g_bi (o : CxOk c k ex cf X) {b : Bi} {e : Expr} {es : List Expr} {m : M} {p pos : Pos} (hg : glB k (biN b) = true) (hf : biN b ∈ k.free) (h : PA X (e :: es) (TAs c ex (evA cf m))) (hs : noStar e = true) (hs2 : es.all noStar = true) :
    EOk c ex X (.Call (.Name (biN b) p) (e :: es) [] pos) (evE cf (.bi b m)) := by
  obtain ⟨h1, h2⟩ := gl_of o hg
  have hu : X.A.units + 100 < cLine := by have := o.un; omega
  have key : ∀ σ H (Q : VK), TV c ex (evE cf (.bi b m)) σ H Q → tCB (rBi X.K b) (TAs c ex (evA cf m)) σ H Q := fun σ H Q ⟨e, d, ρ, S, s, h⟩ => by
    simp only [evE] at h
    refine s.tp h fun l ρ1 S1 vs d1 H1 s1 r1 h1 => ?_
    have s2 := s.comp s1
    split at h1
    · rename_i ws q
      split at h1
      · rename_i r hp
        rw [o.K]
        exact bi_ok s2.dom (s2.avs r1 q) hp fun v H' pp => s2.fin h1 pp
      · exact h1.elim
    · exact h1.elim
  have hc := callr_bi o.calm hu o.gd b
  have hb := bi_boot b
  refine .of_plain (pe_imp ?_ key) (fun _ => rfl) (fun _ _ _ z => by cases z)
  have fin : ∀ f, biV b = .builtin f → PE X (.Call (.Name (biN b) p) (e :: es) [] pos) (tCB (rBi X.K b) (TAs c ex (evA cf m))) := fun f hf' => by
    rw [hf'] at hc hb
    exact pe_callB hc h1 (o.free _ hf) hb h noname_of h2 (star_of hs) (stars_of hs2)
  have fin2 : ∀ f, biV b = .type f → PE X (.Call (.Name (biN b) p) (e :: es) [] pos) (tCB (rBi X.K b) (TAs c ex (evA cf m))) := fun f hf' => by
    rw [hf'] at hc hb
    exact pe_callTy hc h1 (o.free _ hf) hb h noname_of h2 (star_of hs) (stars_of hs2)
  cases b <;> first | exact fin _ rfl | exact fin2 _ rfl

/-! ### truth -/
theorem g_one (op : BoolOp) {a : Expr} {pos : Pos} {g : Env → Sto → Out RV} (ha : EOk c ex X a g) : EOk c ex X (.BoolOp op [a] pos) g := by
  have w : PW X (.BoolOp op [a] pos) (TBo c ex (tst g)) := by
    cases op with
    | And => exact pw_and1 ha.pt
    | Or => exact pw_or1 ha.pt
  exact ⟨pe_one ha.pe, w.pt, fun _ _ _ _ => w⟩
theorem tst_bind0 {o : Out RV} {f : RV → Env → Sto → Out RV} {f' : Bool → Env → Sto → Out Bool} (h1 : ∀ b ρ S, tst (f (.val (.bl b))) ρ S = f' b ρ S) (h2 : ∀ r ρ S, (∀ b, r ≠ .val (.bl b)) → f r ρ S = .stuck) :
    ((o.bind f).bind fun r ρ S => match r with
      | .val (.bl b) => Out.ok b ρ S
      | _ => .stuck) = ((o.bind fun r ρ S => match r with
      | .val (.bl b) => Out.ok b ρ S
      | _ => .stuck).bind f') := by
  cases o with
  | ok r ρ1 S1 =>
    rw [Out.bind_ok, Out.bind_ok]
    by_cases hr : ∃ b, r = .val (.bl b)
    · obtain ⟨b, hr⟩ := hr
      subst hr
      exact h1 b ρ1 S1
    · have hr' : ∀ b, r ≠ .val (.bl b) := fun b z => hr ⟨b, z⟩
      rw [h2 r ρ1 S1 hr']
      split
      · rename_i b; exact absurd rfl (hr' b)
      · rfl
  | exn => rfl
  | stuck => rfl
theorem tst_bind {g : Env → Sto → Out RV} {f : RV → Env → Sto → Out RV} {f' : Bool → Env → Sto → Out Bool} {ρ : Env} {S : Sto} (h1 : ∀ b ρ S, tst (f (.val (.bl b))) ρ S = f' b ρ S) (h2 : ∀ r ρ S, (∀ b, r ≠ .val (.bl b)) → f r ρ S = .stuck) :
    tst (fun ρ S => (g ρ S).bind f) ρ S = (tst g ρ S).bind f' := tst_bind0 h1 h2
theorem g_and (o : CxOk c k ex cf X) {a b : Expr} {rest : List Expr} {pos : Pos} {ma mb : M} (ha : EOk c ex X a (evE cf ma)) (hb : EOk c ex X (.BoolOp .And (b :: rest) pos) (evE cf mb)) : EOk c ex X (.BoolOp .And (a :: b :: rest) pos) (evE cf (.and ma mb)) := by
  have w : PW X (.BoolOp .And (a :: b :: rest) pos) (TBo c ex (tst (evE cf (.and ma mb)))) := pw_imp (pw_and ha.pt (hb.pw _ _ _ rfl)) fun σ H Q ⟨e, d, ρ, S, s, h⟩ => by
    have e1 : tst (evE cf (.and ma mb)) ρ S = (tst (evE cf ma) ρ S).bind fun x ρ S => if x = true then tst (evE cf mb) ρ S else .ok false ρ S := by
      have : evE cf (.and ma mb) = fun ρ S => (evE cf ma ρ S).bind fun x ρ S => match x with
        | .val (.bl true) => evE cf mb ρ S
        | .val (.bl false) => .ok (.val (.bl false)) ρ S
        | _ => .stuck := by funext ρ S; simp only [evE] <;> rfl
      rw [this]
      refine tst_bind (fun b ρ S => by cases b <;> rfl) fun r ρ S hr => ?_
      split <;> first | rfl | exact absurd rfl (hr _)
    rw [e1] at h
    refine s.tp h fun x ρ1 S1 b' d1 H1 s1 r1 h1 => ?_
    have r1 : b' = x := r1
    subst r1
    cases b' with
    | true => exact ⟨e, d1, ρ1, S1, s.comp s1, h1⟩
    | false => exact h1 false d1 H1 (s.comp s1) rfl
  refine ⟨pe_imp (pe_and ha.pe hb.pe) fun σ H Q ⟨e, d, ρ, S, s, h⟩ => ?_, w.pt, fun _ _ _ _ => w⟩
  simp only [evE] at h
  refine s.tp h fun x ρ1 S1 v d1 H1 s1 r1 h1 => ?_
  split at h1
  · have r1 : v = .bl true := by simpa only [RvR, Rep] using r1
    exact ⟨true, r1, by rw [if_pos rfl]; exact ⟨e, d1, ρ1, S1, s.comp s1, h1⟩⟩
  · have r1 : v = .bl false := by simpa only [RvR, Rep] using r1
    exact ⟨false, r1, by rw [if_neg (by decide)]; exact (s.comp s1).finV h1 .blI⟩
  · exact h1.elim
theorem g_or (o : CxOk c k ex cf X) {a b : Expr} {rest : List Expr} {pos : Pos} {ma mb : M} (ha : EOk c ex X a (evE cf ma)) (hb : EOk c ex X (.BoolOp .Or (b :: rest) pos) (evE cf mb)) : EOk c ex X (.BoolOp .Or (a :: b :: rest) pos) (evE cf (.or ma mb)) := by
  have w : PW X (.BoolOp .Or (a :: b :: rest) pos) (TBo c ex (tst (evE cf (.or ma mb)))) := pw_imp (pw_or ha.pt (hb.pw _ _ _ rfl)) fun σ H Q ⟨e, d, ρ, S, s, h⟩ => by
    have e1 : tst (evE cf (.or ma mb)) ρ S = (tst (evE cf ma) ρ S).bind fun x ρ S => if x = true then .ok true ρ S else tst (evE cf mb) ρ S := by
      have : evE cf (.or ma mb) = fun ρ S => (evE cf ma ρ S).bind fun x ρ S => match x with
        | .val (.bl false) => evE cf mb ρ S
        | .val (.bl true) => .ok (.val (.bl true)) ρ S
        | _ => .stuck := by funext ρ S; simp only [evE] <;> rfl
      rw [this]
      refine tst_bind (fun b ρ S => by cases b <;> rfl) fun r ρ S hr => ?_
      split <;> first | rfl | exact absurd rfl (hr _)
    rw [e1] at h
    refine s.tp h fun x ρ1 S1 b' d1 H1 s1 r1 h1 => ?_
    have r1 : b' = x := r1
    subst r1
    cases b' with
    | true => exact h1 true d1 H1 (s.comp s1) rfl
    | false => exact ⟨e, d1, ρ1, S1, s.comp s1, h1⟩
  refine ⟨pe_imp (pe_or ha.pe hb.pe) fun σ H Q ⟨e, d, ρ, S, s, h⟩ => ?_, w.pt, fun _ _ _ _ => w⟩
  simp only [evE] at h
  refine s.tp h fun x ρ1 S1 v d1 H1 s1 r1 h1 => ?_
  split at h1
  · have r1 : v = .bl false := by simpa only [RvR, Rep] using r1
    exact ⟨false, r1, by rw [if_neg (by decide)]; exact ⟨e, d1, ρ1, S1, s.comp s1, h1⟩⟩
  · have r1 : v = .bl true := by simpa only [RvR, Rep] using r1
    exact ⟨true, r1, by rw [if_pos rfl]; exact (s.comp s1).finV h1 .blI⟩
  · exact h1.elim
theorem g_not (o : CxOk c k ex cf X) {a : Expr} {pos : Pos} {ma : M} (ha : EOk c ex X a (evE cf ma)) : EOk c ex X (.UnaryOp .Not a pos) (evE cf (.not ma)) := by
  refine ⟨pe_imp (pe_not ha.pe) fun σ H Q ⟨e, d, ρ, S, s, h⟩ => ?_, pt_imp (pt_not ha.pt) fun σ H Q ⟨e, d, ρ, S, s, h⟩ => ?_, fun _ _ _ z => by cases z⟩
  · simp only [evE] at h
    refine s.tp h fun x ρ1 S1 v d1 H1 s1 r1 h1 => ?_
    split at h1
    · rename_i b
      have r1 : v = .bl b := by simpa only [RvR, Rep] using r1
      exact ⟨b, r1, (s.comp s1).finV h1 .blI⟩
    · exact h1.elim
  · have e1 : tst (evE cf (.not ma)) ρ S = (tst (evE cf ma) ρ S).bind fun x ρ S => .ok (!x) ρ S := by
      have : evE cf (.not ma) = fun ρ S => (evE cf ma ρ S).bind fun x ρ S => match x with
        | .val (.bl b) => .ok (.val (.bl (!b))) ρ S
        | _ => .stuck := by funext ρ S; simp only [evE] <;> rfl
      rw [this]
      refine tst_bind (fun b ρ S => rfl) fun r ρ S hr => ?_
      split <;> first | rfl | exact absurd rfl (hr _)
    rw [e1] at h
    refine s.tp h fun x ρ1 S1 b' d1 H1 s1 r1 h1 => ?_
    have r1 : b' = x := r1
    subst r1
    exact h1 _ d1 H1 (s.comp s1) rfl
theorem pt_ite {t a b : Expr} {pos : Pos} {tt ta tb : TT} (ht : PT X t tt) (ha : PT X a ta) (hb : PT X b tb) : PT X (.IfExp t a b pos) (fun σ H Q => tt σ H fun c H1 => if c = true then ta σ H1 Q else tb σ H1 Q) := by
  refine ⟨fun pins s σ H Q I h => ?_⟩
  refine isTrue_IfExp (thn (ht.run pins s σ H _ I h) fun d s1 ⟨H1, I1, q1⟩ => ?_)
  cases d with
  | true => exact ha.run pins s1 σ H1 Q I1 q1
  | false => exact hb.run pins s1 σ H1 Q I1 q1
theorem g_ite (o : CxOk c k ex cf X) {t a b : Expr} {pos : Pos} {mt ma mb : M} (ht : EOk c ex X t (evE cf mt)) (ha : EOk c ex X a (evE cf ma)) (hb : EOk c ex X b (evE cf mb)) : EOk c ex X (.IfExp t a b pos) (evE cf (.ite mt ma mb)) := by
  have e0 : evE cf (.ite mt ma mb) = fun ρ S => (evE cf mt ρ S).bind fun x ρ S => match x with
        | .val (.bl true) => evE cf ma ρ S
        | .val (.bl false) => evE cf mb ρ S
        | _ => .stuck := by funext ρ S; simp only [evE] <;> rfl
  refine ⟨pe_imp (pe_ifExp ht.pt ha.pe hb.pe) fun σ H Q ⟨e, d, ρ, S, s, h⟩ => ?_, pt_imp (pt_ite ht.pt ha.pt hb.pt) fun σ H Q ⟨e, d, ρ, S, s, h⟩ => ?_, fun _ _ _ z => by cases z⟩
  · have e1 : evE cf (.ite mt ma mb) ρ S = (tst (evE cf mt) ρ S).bind fun x ρ S => if x = true then evE cf ma ρ S else evE cf mb ρ S := by
      rw [e0]
      show (evE cf mt ρ S).bind _ = _
      unfold tst
      cases evE cf mt ρ S with
      | ok r ρ1 S1 =>
        simp only [Out.bind_ok]
        split
        · rfl
        · rfl
        · rename_i h1 h2
          split
          · rename_i b; cases b
            · exact absurd rfl h2
            · exact absurd rfl h1
          · rfl
      | exn => rfl
      | stuck => rfl
    rw [e1] at h
    refine s.tp h fun x ρ1 S1 b' d1 H1 s1 r1 h1 => ?_
    have r1 : b' = x := r1
    subst r1
    cases b' with
    | true => exact ⟨e, d1, ρ1, S1, s.comp s1, h1⟩
    | false => exact ⟨e, d1, ρ1, S1, s.comp s1, h1⟩
  · have e1 : tst (evE cf (.ite mt ma mb)) ρ S = (tst (evE cf mt) ρ S).bind fun x ρ S => if x = true then tst (evE cf ma) ρ S else tst (evE cf mb) ρ S := by
      rw [e0]
      refine tst_bind (fun b ρ S => by cases b <;> rfl) fun r ρ S hr => ?_
      split <;> first | rfl | exact absurd rfl (hr _)
    rw [e1] at h
    refine s.tp h fun x ρ1 S1 b' d1 H1 s1 r1 h1 => ?_
    have r1 : b' = x := r1
    subst r1
    cases b' with
    | true => exact ⟨e, d1, ρ1, S1, s.comp s1, h1⟩
    | false => exact ⟨e, d1, ρ1, S1, s.comp s1, h1⟩
theorem g_chain (o : CxOk c k ex cf X) {p q : CmpOp} {a b z : Expr} {pos : Pos} {ma mb mz : M} (ha : EOk c ex X a (evE cf ma)) (hb : EOk c ex X b (evE cf mb)) (hz : EOk c ex X z (evE cf mz)) (hm : lastMarks [p, q] [b, z] = false) :
    EOk c ex X (.Compare a [p, q] [b, z] pos) (evE cf (.chain p q ma mb mz)) := by
  have hu : X.A.units + 100 < cLine := by have := o.un; omega
  have key : ∀ σ H (Q : VK), TV c ex (evE cf (.chain p q ma mb mz)) σ H Q → tChain (rC X.K p) (rC X.K q) (TV c ex (evE cf ma)) (TV c ex (evE cf mb)) (TV c ex (evE cf mz)) σ H Q := fun σ H Q ⟨e, d, ρ, S, s, h⟩ => by
    simp only [evE] at h
    refine s.tp h fun x ρ1 S1 v d1 H1 s1 r1 h1 => ?_
    obtain ⟨d1', t1, l1, r1'⟩ := (s.comp s1).frz (r1.up s)
    refine t1.tp h1 fun y ρ2 S2 u d2 H2 s2 r2 h2 => ?_
    obtain ⟨d2', t2, l2, r2'⟩ := (t1.comp s2).frz (r2.up t1)
    have r1'' := (r1'.mono s2.le0).mono l2
    split at h2
    · rename_i hp
      rw [o.K]
      refine cmp_ok (.of r1'') (.of r2') hp ⟨true, rfl, ?_⟩
      rw [if_pos rfl]
      refine t2.tp h2 fun z ρ3 S3 w d3 H3 s3 r3 h3 => ?_
      obtain ⟨d3', t3, l3, r3'⟩ := (t2.comp s3).frz (r3.up t2)
      split at h3
      · rename_i b hp2
        exact cmp_ok (.of ((r2'.mono s3.le0).mono l3)) (.of r3') hp2 (t3.finV h3 .blI)
      · exact h3.elim
    · rename_i hp
      rw [o.K]
      refine cmp_ok (.of r1'') (.of r2') hp ⟨false, rfl, ?_⟩
      rw [if_neg (by decide)]
      exact t2.finV h2 .blI
    · exact h2.elim
  exact ⟨pe_imp (pe_chain (opr_cmp hu p) (opr_cmp hu q) ha.pe hb.pe hz.pe hm) key, pt_imp (pt_chain (opr_cmp hu p) (opr_cmp hu q) ha.pe hb.pe hz.pe hm) fun σ H Q h => key σ H _ (tb_of h), fun _ _ _ z => by cases z⟩
end
end NV
set_option Elab.async false
set_option linter.all false
set_option maxRecDepth 100000
set_option maxHeartbeats 1000000
/-! # Methods, isinstance, written dicts, lists that change -/
namespace NV
open PySem PySem.Spec PyProof.Rows L2
def baseB : Expr → Bool
  | .Call (.Name _ _) [] [] _ => false
  | _ => true
theorem base_of {o : Expr} {n : Str} {env : PySem.Env} {w : Sem Value} (h : baseB o = true) : attributeBase o n env w = w := by
  unfold attributeBase
  split
  · cases h
  · rfl
section
variable {c : Cn} {k : Ck} {ex : EX} {cf : CallF} {X : Cx}
variable {e : Ent} {d d' : Wd} {ρ ρ' : Env} {S S' : Sto} {σ : L2.St} {H H' : Hp}
theorem CRepL.nilI {vs : List V} (h : CRepL c d H [] vs) : vs = [] := h
theorem CRepL.oneI {w : W} {vs : List V} (h : CRepL c d H [w] vs) : ∃ v, vs = [v] ∧ CRep c d H w v := by
  obtain ⟨v, t, e, h1, h2⟩ := h
  have h2 : t = [] := h2
  exact ⟨v, by rw [e, h2], h1⟩
/-! ### isinstance -/
def tyS : Ty → String
  | .str => "str" | .int => "int" | .bool => "bool" | .list => "list" | .tuple => "tuple" | .dict => "dict"
def tyN : Ty → Str
  | .str => "str" | .int => "int" | .bool => "bool" | .list => "list" | .tuple => "tuple" | .dict => "dict"
def tyNm : W → Option String
  | .non => some "NoneType" | .bl _ => some "bool" | .int _ => some "int" | .str _ => some "str" | .tup _ => some "tuple" | .lst _ => some "list" | .flst _ => some "list" | .dct _ _ => some "dict"
  | _ => none
theorem CRep.tyx {w : W} {v : V} {a : String} (h : CRep c d H w v) (e : tyNm w = some a) : TyX c.K H v (.type a) := by
  cases w with
  | non => cases e; rw [h.non]; exact .base .non
  | bl b => cases e; rw [h.bl]; exact .base (.bl _)
  | int b => cases e; rw [h.int]; exact .base (.int _)
  | str b => cases e; rw [h.str]; exact .base (.str _)
  | lst l => cases e; obtain ⟨a, vs, rfl, h1, _⟩ := h.lst; exact .base (.lst h1)
  | flst l =>
    cases e
    obtain ⟨a, vs, rfl, h1, _⟩ := h.flst
    rcases h1 with h1 | ⟨o, _, _, q, q2, _⟩
    · rcases h1 with h1 | ⟨o, h1⟩
      · exact .base (.lst h1)
      · exact .base (.frz h1)
    · exact .kList q q2
  | tup l =>
    cases e
    obtain ⟨a, vs, rfl, h1, _⟩ := h.tup
    rcases h1 with h1 | ⟨o, _, _, q, q2, _⟩
    · rcases h1 with h1 | ⟨o, h1⟩
      · exact .base (.tup h1)
      · exact .fTuple h1
    · exact .kTuple q q2
  | dct ks vs =>
    cases e
    have h : Rep c d H (.dct ks vs) v := h
    simp only [Rep] at h
    obtain ⟨a, kvs, rfl, _, h1, _⟩ := h
    exact .base (.dK h1)
  | _ => cases e
theorem kit_w {w : W} {a : String} {t : Ty} (e : tyNm w = some a) : kitB a (tyS t) = some (isTy t w) := by
  cases w <;> first | (cases e; done) | (cases e; cases t <;> first | (show _ = some true; decide +kernel) | (show _ = some false; decide +kernel))
theorem isiW_ty {w : W} {ts : List Ty} {b : Bool} (h : isiW w ts = some b) : (∃ a, tyNm w = some a) ∧ b = ts.any fun t => isTy t w := by
  unfold isiW at h
  split at h
  · cases h
  · cases h
  · cases h
  · rename_i h1 h2 h3
    cases h
    refine ⟨?_, rfl⟩
    cases w <;> first | exact ⟨_, rfl⟩ | exact absurd rfl (h1 _) | exact absurd rfl (h2 _) | exact absurd rfl (h3 _ _)
theorem kit_all {w : W} {a : String} (e : tyNm w = some a) : ∀ ts : List Ty, PySem.W.kitAny c.K (.type a) (ts.map fun t => .type (tyS t)) = some (ts.any fun t => isTy t w)
  | [] => kitAny_nil
  | t :: ts => kitAny_cons (kit_ty (kit_w e)) (fun h => by rw [List.any_cons, h, Bool.false_or]; exact kit_all e ts) fun h => by rw [List.any_cons, h, Bool.true_or]
def tyB (k : Ck) (t : Ty) : Expr → Bool
  | .Name x _ => decide (x = tyN t) && (glB k x && decide (x ∈ k.free))
  | _ => false
theorem ty_pe (o : CxOk c k ex cf X) {t : Ty} {e : Expr} (h : tyB k t e = true) : PE X e (tC (.ty (tyS t))) := by
  cases e <;> first | (cases h; done) | skip
  rename_i x pos
  unfold tyB at h
  simp only [Bool.and_eq_true, decide_eq_true_eq] at h
  obtain ⟨rfl, h1, h2⟩ := h
  obtain ⟨g1, g2⟩ := gl_of o h1
  refine pe_bltn (u := .type (tyS t)) g1 (o.free _ h2) ?_ rfl ?_ g2
  · cases t <;> exact rfl
  · cases t <;> decide
theorem tyB_star {k : Ck} {t : Ty} {e : Expr} (h : tyB k t e = true) : noStar e = true := by
  cases e <;> first | rfl | cases h
def tysB (k : Ck) : List Ty → List Expr → Bool
  | [], [] => true
  | t :: ts, e :: es => tyB k t e && tysB k ts es
  | _, _ => false
theorem tys_pa (o : CxOk c k ex cf X) : ∀ {ts : List Ty} {es : List Expr}, tysB k ts es = true → PA X es (fun σ H Q => Q (ts.map fun t => .ty (tyS t)) H)
  | [], [], _ => pa_imp pa_nil fun σ H Q q => q
  | t :: ts, e :: es, h => by
    simp only [tysB, Bool.and_eq_true] at h
    exact pa_imp (pa_cons (ty_pe o h.1) (tys_pa o h.2) (star_of (tyB_star h.1))) fun σ H Q q => q
theorem tys_cls : ∀ ts : List Ty, Paired ClsV (ts.map fun t => V.ty (tyS t)) (ts.map fun t => .type (tyS t))
  | [] => .nil
  | t :: ts => .cons (.ty _) (tys_cls ts)
def isiB (k : Ck) (ts : List Ty) : Expr → Bool
  | .Tuple es _ _ => tysB k ts es && decide (ts.length ≤ 10)
  | e => match ts with
    | [t] => tyB k t e
    | _ => false
theorem Sim.more (s : Sim c e d ρ S σ H) {p : Addr} {o : HO} (hp : H p = none) : Sim c e (d.more fun _ => False) ρ S σ (upd H p o) := s.grow (.none hp)
theorem AvR.up {x : AV} {v : V} (l : Le d H d' H') (h : AvR c d σ H x v) : AvR c d' σ H' x v := h.mono l
theorem g_isi (o : CxOk c k ex cf X) {a t : Expr} {m : M} {ts : List Ty} {p pos : Pos} (hg : glB k "isinstance" = true) (hf : ("isinstance" : Str) ∈ k.free) (ha : PE X a (TAv c ex (evV cf m))) (hs : noStar a = true) (ht : isiB k ts t = true) :
    EOk c ex X (.Call (.Name "isinstance" p) [a, t] [] pos) (evE cf (.isi m ts)) := by
  obtain ⟨h1, h2⟩ := gl_of o hg
  refine .of_plain ?_ (fun _ => rfl) (fun _ _ _ z => by cases z)
  have one : ∀ t0 : Ty, ts = [t0] → tyB k t0 t = true → PE X (.Call (.Name "isinstance" p) [a, t] [] pos) (TV c ex (evE cf (.isi m ts))) := fun t0 e0 hb => by
    subst e0
    have ht := tyB_star hb
    have q := pe_callB (x := "isinstance") (p := p) (pos := pos) call_isi h1 (o.free _ hf) rfl (pa_cons ha (pa_cons (ty_pe o hb) pa_nil (star_of ht)) (star_of hs)) (by decide) h2 (star_of hs) (by rw [star_of ht]; rfl)
    refine pe_imp q fun σ H Q ⟨e, d, ρ, S, s, h⟩ => ?_
    simp only [evE] at h
    refine s.tp h fun x ρ1 S1 v d1 H1 s1 r1 hh => ?_
    have s2 := s.comp s1
    split at hh
    · rename_i u hu
      split at hh
      · rename_i b hb2
        obtain ⟨⟨a, ha⟩, eb⟩ := isiW_ty hb2
        have cr := s2.av r1 hu
        refine ⟨v, .ty (tyS t0), .type a, .type (tyS t0), b, rfl, .ty _, by rw [o.K]; exact cr.tyx ha, ?_, s2.finV hh .blI⟩
        rw [eb, List.any_cons, List.any_nil, Bool.or_false]
        exact kit_ty (kit_w ha)
      · exact hh.elim
    · exact hh.elim
  have many : ∀ (es : List Expr) (j : Nat) (pt : Pos), t = .Tuple es j pt → tysB k ts es = true → ts.length ≤ 10 → PE X (.Call (.Name "isinstance" p) [a, t] [] pos) (TV c ex (evE cf (.isi m ts))) := fun es j pt e0 hb hl => by
    subst e0
    have qt : PE X (.Tuple es j pt) _ := pe_tup (tys_pa o hb)
    have q := pe_callB (x := "isinstance") (p := p) (pos := pos) call_isiT h1 (o.free _ hf) rfl (pa_cons ha (pa_cons qt pa_nil (star_of (e := .Tuple es j pt) rfl)) (star_of hs)) (by decide) h2 (star_of hs) (by rw [star_of (e := .Tuple es j pt) rfl]; rfl)
    refine pe_imp q fun σ H Q ⟨e, d, ρ, S, s, h⟩ => ?_
    simp only [evE] at h
    refine s.tp h fun x ρ1 S1 v d1 H1 s1 r1 hh => ?_
    have s2 := s.comp s1
    refine ⟨by rw [List.length_map]; exact Nat.le_trans hl (by rw [sizeLine_eq]; omega), fun tp htp => ?_⟩
    have s3 := s2.more (o := .tup (ts.map fun t => V.ty (tyS t))) htp
    split at hh
    · rename_i u hu
      split at hh
      · rename_i b hb2
        obtain ⟨⟨a, ha⟩, eb⟩ := isiW_ty hb2
        have cr := s3.av (r1.mono ((Grow.none htp).le s2.dom)) hu
        refine ⟨v, tp, _, .type a, _, b, rfl, upd_same, tys_cls ts, by rw [o.K]; exact cr.tyx ha, ?_, s3.finV hh .blI⟩
        rw [eb, o.K]
        exact kit_all ha ts
      · exact hh.elim
    · exact hh.elim
  unfold isiB at ht
  split at ht
  · rename_i es j pt
    rw [Bool.and_eq_true] at ht
    exact many es j pt rfl ht.1 (of_decide_eq_true ht.2)
  · split at ht
    · exact one _ rfl ht
    · cases ht

/-! ### a written dict -/
theorem g_gd (o : CxOk c k ex cf X) {x : Str} {ks vs : List W} {a : Expr} {m : M} {p pos : Pos} (hg : glB k x = true) (hm : (x, ks, vs) ∈ k.gds) (ha : EOk c ex X a (evE cf m)) (hs : noSlice a = true) :
    EOk c ex X (.Subscript (.Name x p) a pos) (evE cf (.gd x ks vs m)) := by
  obtain ⟨h1, h2⟩ := gl_of o hg
  obtain ⟨ad, h3, h4⟩ := o.gds _ hm
  refine .of_plain (pe_imp (pe_ix ix_kdict (pe_glob h1 h3 (v := .ref ad) rfl h2) ha.pe (plainIx_of hs)) fun σ H Q ⟨e, d, ρ, S, s, h⟩ => ?_) (fun _ => rfl) (fun _ _ _ z => by cases z)
  simp only [evE] at h
  refine s.tp h fun r ρ1 S1 v d1 H1 s1 r1 hh => ?_
  split at hh
  · rename_i w hw
    cases r with
    | fresh l => cases hw
    | val u =>
      cases u <;> first | (cases hw; done) | skip
      rename_i z
      have r1 : v = .str z := by simpa only [RvR, Rep] using r1
      obtain ⟨v2, k1, k2⟩ := h4 z w hw
      exact ⟨ad, z, v2, rfl, r1, k1, (s.comp s1).finV hh (k2 _ _)⟩
  · exact hh.elim
end
end NV
set_option Elab.async false
set_option linter.all false
set_option maxRecDepth 100000
set_option maxHeartbeats 1000000
/-! # Methods; lists that change -/
namespace NV
open PySem PySem.Spec PyProof.Rows L2
section
variable {c : Cn} {k : Ck} {ex : EX} {cf : CallF} {X : Cx}
variable {e : Ent} {d d' : Wd} {ρ ρ' : Env} {S S' : Sto} {σ : L2.St} {H H' : Hp}
/-! ### methods that change nothing -/
def rCount (K : PySem.W.Frag) : V → List V → Hp → VK → Prop := fun x xs H Q => ∃ (y : V) (ds : List PyData) (e : PyData), xs = [y] ∧ Dp K H x (.list ds) ∧ Dp K H y e ∧ e.depth ≤ 64 ∧ PyData.plainAll ds = true ∧ e.plain = true ∧ Q (.int ((ds.countP fun z => PyData.eqv z e : Nat) : Int)) H
theorem mt_count (hu : X.A.units + 100 < cLine) : MtR X "list.count" (rCount X.K) := by
  intro pins s σ H x xs v us Q I rx rxs h
  obtain ⟨y, ds, e, rfl, hl, hy, hk, p1, p2, q⟩ := h
  obtain ⟨u, rfl, ru⟩ := rxs.one
  obtain ⟨as, r1⟩ := Dp.reads I _ x v hl rx
  obtain ⟨bs, r2⟩ := Dp.reads I _ y u hy ru
  cases r1 with
  | list h1 h2 h3 h4 => exact SeqAt.count_list_data ⟨_, h1, h2, _, h3⟩ h4 r2 p1 p2 (by omega) ⟨.int _, H, I.tok _, ⟨_, rfl⟩, q⟩
theorem g_bits (o : CxOk c k ex cf X) {a : Expr} {m : M} {apos pos : Pos} (ha : PE X a (TAv c ex (evV cf m))) (hb : baseB a = true) (hl : (apos.endLine == pos.line) = true) :
    EOk c ex X (.Call (.Attribute a "bit_length" apos) [] [] pos) (evE cf (.me .bitLength m .nil)) := by
  refine .of_plain (pe_imp (pe_bits ha (base_of hb) hl) fun σ H Q ⟨e, d, ρ, S, s, h⟩ => ?_) (fun _ => rfl) (fun _ _ _ z => by cases z)
  simp only [evE, evA] at h
  refine s.tp h fun x ρ1 S1 v d1 H1 s1 r1 hh => ?_
  have s2 := s.comp s1
  simp only [Out.bind_ok, avs] at hh
  cases hu : x.get ρ1 S1 with
  | none => rw [hu] at hh; exact hh.elim
  | some u =>
    rw [hu] at hh
    cases u <;> first | exact hh.elim | skip
    rename_i i
    exact ⟨i, (s2.av r1 hu).int, s2.finV hh .intI⟩
def meT : Me → String
  | .bitLength => "int" | .join => "str" | .count => "list" | .index => "list" | .get => "dict"
theorem tyV_of {m : Me} {u : W} {v : V} (h : CRep c d H u v) (t : tyMe m u = true) : tyV c.K (meT m) v H := by
  cases m <;> cases u <;> first | (cases t; done) | skip
  · rw [h.int]; exact rfl
  · rw [h.str]; exact rfl
  · obtain ⟨a, vs, rfl, h1, _⟩ := h.lst; exact .inl ⟨rfl, vs, .of h1⟩
  · obtain ⟨a, vs, rfl, h1, _⟩ := h.lst; exact .inl ⟨rfl, vs, .of h1⟩
  · have h : Rep c d H (.dct _ _) v := h
    simp only [Rep] at h
    obtain ⟨a, kvs, rfl, _, h1, _⟩ := h
    exact .inr (.inr (.inl ⟨rfl, .inl ⟨kvs, h1⟩⟩))
def rMe (K : PySem.W.Frag) : Me → V → List V → Hp → VK → Prop
  | .join => fun x xs H Q => ∃ a p, ∃ ys : List Str, x = .str a ∧ xs = [.ref p] ∧ (SqL K H p (ys.map V.str) ∨ SqT K H p (ys.map V.str)) ∧ (ys.map (·.length)).sum + ys.length * a.length ≤ 16777216 ∧ Q (.str (Txt.join a ys)) H
  | .count => rCount K
  | _ => fun _ _ _ _ => False
def meId : Me → String
  | .join => "str.join" | .count => "list.count" | _ => "str.join"
def meN : Me → Str
  | .bitLength => "bit_length" | .join => "join" | .count => "count" | .index => "index" | .get => "get"
theorem mtr_me (hu : X.A.units + 100 < cLine) : ∀ m, MtR X (meId m) (rMe X.K m)
  | .join => mt_join
  | .count => mt_count hu
  | .bitLength | .index | .get => fun _ _ _ _ _ _ _ _ _ _ _ _ h => h.elim
theorem me_ok {m : Me} {u : W} {v : V} {ws : List W} {vs : List V} {r : RV} {Q : VK} (hu : CRep c d H u v) (hw : CRepL c d H ws vs) (hm : m ≠ .bitLength) (h : pMe m u ws = some r) (k : ∀ v H', PrimPost c d H r v H' → Q v H') : rMe c.K m v vs H Q := by
  unfold pMe at h
  split at h
  · exact absurd rfl hm
  · rename_i a l
    obtain ⟨v1, rfl, h1⟩ := hw.oneI
    obtain ⟨p, vs, rfl, h2, h3⟩ := h1.lst
    cases q : wStrs l with
    | none => rw [q] at h; cases h
    | some ys =>
      rw [q, Option.bind_some] at h
      split at h
      · rename_i hz
        cases h
        refine ⟨a, p, ys, hu.str, rfl, .inl ?_, of_decide_eq_true hz, k _ _ (.same .strI)⟩
        rw [← wStrs_ok h3 q]
        exact .of h2
      · cases h
  · rename_i l y
    obtain ⟨v1, rfl, h1⟩ := hw.oneI
    split at h
    · rename_i xs x qx qy
      split at h
      · rename_i hd
        cases h
        have q : W.toD (.lst l) = some (.list xs) := by simp only [W.toD, qx]; rfl
        exact ⟨v1, xs, x, rfl, hu.dp q, h1.dp qy, of_decide_eq_true hd, plain_toDs _ _ qx, plain_toD _ _ qy, k _ _ (.same .intI)⟩
      · cases h
    · cases h
  · cases h
theorem g_me1 (o : CxOk c k ex cf X) {me : Me} {a e : Expr} {es : List Expr} {m ma : M} {apos pos : Pos} (hm2 : (me = .join ∨ me = .count))
    (ha : PE X a (TAv c ex (evV cf m))) (hx : PA X (e :: es) (TAs c ex (evA cf ma))) (hb : baseB a = true) (hl : (apos.endLine == pos.line) = true) (hs : noStar e = true) (he : es = []) :
    EOk c ex X (.Call (.Attribute a (meN me) apos) (e :: es) [] pos) (evE cf (.me me m ma)) := by
  subst he
  have hm : me ≠ .bitLength := by rcases hm2 with h | h <;> subst h <;> decide
  have hu : X.A.units + 100 < cLine := by have := o.un; omega
  refine .of_plain ?_ (fun _ => rfl) (fun _ _ _ z => by cases z)
  have key : ∀ σ H (Q : VK), TV c ex (evE cf (.me me m ma)) σ H Q → tBM X.K (meT me) (rMe X.K me) (TAv c ex (evV cf m)) (TAs c ex (evA cf ma)) σ H Q := fun σ H Q ⟨e, d, ρ, S, s, h⟩ => by
    simp only [evE] at h
    refine s.tp h fun x ρ1 S1 v d1 H1 s1 r1 hh => ?_
    have s2 := s.comp s1
    split at hh
    · rename_i ht
      refine ⟨?_, s2.tp hh fun l ρ2 S2 vs d2 H2 s3 r3 h3 => ?_⟩
      · cases hu : x.get ρ1 S1 with
        | none => rw [hu] at ht; cases ht
        | some u => rw [hu] at ht; rw [o.K]; exact tyV_of (s2.av r1 hu) ht
      · have s4 := s2.comp s3
        split at h3
        · rename_i u ws q1 q2
          split at h3
          · rename_i r hr
            rw [o.K]
            exact me_ok (s4.av (r1.mono s3.le0) q1) (s4.avs r3 q2) hm hr fun v H' pp => s4.fin h3 pp
          · exact h3.elim
        · exact h3.elim
    · exact hh.elim
  have few : ∀ n : Str, ((backTo pos (starEach [e] X.env)).all (fun x => !x.1) && (backToKw pos (keywordEach [] X.env)).all (fun x => x.1.isSome)
      && decide (([e] : List Expr).length + ([] : List Keyword).length + (if ([] : List Keyword).isEmpty then 0 else 1) < 30)) = true := fun _ => by rw [star_of hs]; rfl
  cases me with
  | bitLength => exact absurd rfl hm
  | join => exact pe_imp (pe_bm F.plainAttrs_str F.slot_str_join F.type_str_join (mtr_me hu .join) ha hx (base_of hb) (few "") hl (star_of hs) rfl) key
  | count => exact pe_imp (pe_bm F.plainAttrs_list F.slot_list_count F.type_list_count (mtr_me hu .count) ha hx (base_of hb) (few "") hl (star_of hs) rfl) key
  | index => exact absurd hm2 (by decide)
  | get => exact absurd hm2 (by decide)

/-! ### lists that change -/
theorem Le.upd {p : Addr} {x : HO} (hp : ¬ d.F p) : Le d H d (upd H p x) := ⟨fun a h => ⟨h, upd_ne fun z => hp (z ▸ h)⟩, List.prefix_refl _⟩
theorem Sim.mutOwn (s : Sim c e d ρ S σ H) {i : Nat} {a : Addr} {l : Bool × List W} {l' : List W} {vs' : List V} (h : ρ[i]? = some (some (.own l))) (hv : σ[i]? = some (some (.ref a))) (hr : RepL c d H l' vs') :
    Sim c e d (ρ.set i (some (.own (l.1, l')))) S σ (upd H a (.lst vs')) := by
  have ho : ownAt ρ σ i a := ⟨⟨l, h⟩, hv⟩
  obtain ⟨l0, vs, _, h2, _, h3, h4⟩ := s.ownH ho
  have hi : i < ρ.length := (List.getElem?_eq_some_iff.mp h).1
  have le : Le d H d (upd H a (.lst vs')) := .upd h3
  have back : ∀ j b, ownAt (ρ.set i (some (.own (l.1, l')))) σ j b → ownAt ρ σ j b := fun j b ⟨⟨k, z⟩, z2⟩ => by
    by_cases hj : j = i
    · subst hj; exact ⟨⟨l, h⟩, z2⟩
    · rw [List.getElem?_set_ne (Ne.symm hj)] at z; exact ⟨⟨k, z⟩, z2⟩
  have some' : ∀ b, H b ≠ none → upd H a (.lst vs') b ≠ none := fun b hb => by
    by_cases z : b = a
    · subst z; rw [upd_same]; simp
    · rw [upd_ne z]; exact hb
  exact {
    le0 := s.le0.trans le
    dom := fun b hb => some' b (s.dom b hb)
    fr := fun b o hb h1 h2 => by
      have q := s.fr b o hb h1 h2
      rw [upd_ne]; · exact q
      intro z; subst z
      rcases s.own i _ ho with z | z
      · exact h1 z
      · rw [z] at hb; cases hb
    new := s.new
    mun := s.mun
    dm := fun b hb => some' b (s.dm b hb)
    mlen := s.mlen
    nodup := s.nodup
    cell := fun n ws q => by
      obtain ⟨b, us, q1, q2, q3, q4⟩ := s.cell n ws q
      refine ⟨b, us, q1, ?_, RepL.mono le q3, q4⟩
      rw [upd_ne]; · exact q2
      intro z; subst z; exact h4 (List.mem_of_getElem? q1)
    len := (List.length_set ..).trans s.len
    slot := fun j sv q => by
      by_cases hj : j = i
      · subst hj
        rw [List.getElem?_set_self hi] at q
        cases q
        exact ⟨_, hv, a, vs', rfl, upd_same, RepL.mono le hr, h3, h4⟩
      · rw [List.getElem?_set_ne (Ne.symm hj)] at q
        obtain ⟨v, q1, q2⟩ := s.slot j sv q
        refine ⟨v, q1, ?_⟩
        cases sv with
        | val w => exact Rep.mono le q2
        | own l2 =>
          obtain ⟨b, us, e1, r1, r2, r3, r4⟩ := q2
          refine ⟨b, us, e1, ?_, RepL.mono le r2, r3, r4⟩
          rw [upd_ne]; · exact r1
          intro z; subst z
          exact hj (s.inj j i _ ⟨⟨l2, q⟩, by rw [q1, e1]⟩ ho)
    own := fun j b hb => s.own j b (back j b hb)
    inj := fun j j' b h1 h2 => s.inj j j' b (back _ _ h1) (back _ _ h2)
    par := fun p hp => by
      obtain ⟨q1, q2⟩ := s.par p hp
      refine ⟨q1, ?_⟩
      by_cases hj : p.1 = i
      · obtain ⟨l2, q2⟩ := q2
        rw [hj, h] at q2
        cases q2
        exact ⟨l', by rw [hj, List.getElem?_set_self hi]⟩
      · rw [List.getElem?_set_ne (Ne.symm hj)]; exact q2 }
theorem Sim.mutCell (s : Sim c e d ρ S σ H) {n : Nat} {a : Addr} {l l' : List W} {vs' : List V} (h : S[n]? = some l) (hv : d.mu[n]? = some a) (hr : RepL c d H l' vs') :
    Sim c e d ρ (S.set n l') σ (upd H a (.lst vs')) := by
  have hm : a ∈ d.mu := List.mem_of_getElem? hv
  have h3 := (s.muH hm).2
  have hn : n < S.length := (List.getElem?_eq_some_iff.mp h).1
  have le : Le d H d (upd H a (.lst vs')) := .upd h3
  have some' : ∀ b, H b ≠ none → upd H a (.lst vs') b ≠ none := fun b hb => by
    by_cases z : b = a
    · subst z; rw [upd_same]; simp
    · rw [upd_ne z]; exact hb
  exact {
    le0 := s.le0.trans le
    dom := fun b hb => some' b (s.dom b hb)
    fr := fun b o hb h1 h2 => by
      have q := s.fr b o hb h1 h2
      rw [upd_ne]; · exact q
      intro z; subst z
      rcases s.mun _ hm with z | z
      · exact h2 z
      · rw [z] at hb; cases hb
    new := s.new
    mun := s.mun
    dm := fun b hb => some' b (s.dm b hb)
    mlen := s.mlen.trans (List.length_set ..).symm
    nodup := s.nodup
    cell := fun m ws q => by
      by_cases hj : m = n
      · subst hj
        rw [List.getElem?_set_self hn] at q
        cases q
        exact ⟨a, vs', hv, upd_same, RepL.mono le hr, h3⟩
      · rw [List.getElem?_set_ne (Ne.symm hj)] at q
        obtain ⟨b, us, q1, q2, q3, q4⟩ := s.cell m ws q
        refine ⟨b, us, q1, ?_, RepL.mono le q3, q4⟩
        rw [upd_ne]; · exact q2
        intro z; subst z
        obtain ⟨h5, h6⟩ := List.getElem?_eq_some_iff.mp q1
        obtain ⟨h7, h8⟩ := List.getElem?_eq_some_iff.mp hv
        have pw := List.pairwise_iff_getElem.mp s.nodup
        rcases Nat.lt_trichotomy m n with z | z | z
        · exact pw m n h5 h7 z (h6.trans h8.symm)
        · exact hj z
        · exact pw n m h7 h5 z (h8.trans h6.symm)
    len := s.len
    slot := fun j sv q => by
      obtain ⟨v, q1, q2⟩ := s.slot j sv q
      refine ⟨v, q1, ?_⟩
      cases sv with
      | val w => exact Rep.mono le q2
      | own l2 =>
        obtain ⟨b, us, e1, r1, r2, r3, r4⟩ := q2
        refine ⟨b, us, e1, ?_, RepL.mono le r2, r3, r4⟩
        rw [upd_ne]; · exact r1
        intro z; subst z; exact r4 hm
    own := s.own
    inj := s.inj
    par := s.par }
/-- a new list becomes a shared one -/
theorem Sim.share (s : Sim c e d ρ S σ H) {l : List W} {v : V} (h : RvR c e d ρ σ H (.fresh l) v) : ∃ d', Sim c e d' ρ (S ++ [l]) σ H ∧ Le d H d' H ∧ Rep c d' H (.ref S.length) v := by
  obtain ⟨a, vs, rfl, h1, h2, h3, h4, h5, h6⟩ := h
  have le : Le d H ⟨d.F, d.mu ++ [a]⟩ H := ⟨fun _ h => ⟨h, rfl⟩, List.prefix_append _ _⟩
  refine ⟨⟨d.F, d.mu ++ [a]⟩, {
    le0 := s.le0.trans le
    dom := s.dom
    fr := s.fr
    new := s.new
    mun := fun b hb => by
      rcases List.mem_append.mp hb with z | z
      · exact s.mun b z
      · rw [List.mem_singleton] at z; subst z; exact .inr h5
    dm := s.dm
    mlen := by rw [List.length_append, List.length_append, s.mlen]; rfl
    nodup := by
      rw [List.nodup_append]
      refine ⟨s.nodup, by simp, fun x hx y hy z => ?_⟩
      rw [List.mem_singleton] at hy; subst hy; subst z; exact h4 hx
    cell := fun n ws q => by
      by_cases hn : n < S.length
      · rw [List.getElem?_append_left hn] at q
        obtain ⟨b, us, q1, q2, q3, q4⟩ := s.cell n ws q
        exact ⟨b, us, by rw [List.getElem?_append_left (by rw [s.mlen]; exact hn)]; exact q1, q2, RepL.mono le q3, q4⟩
      · rw [List.getElem?_append_right (Nat.le_of_not_lt hn)] at q
        have hz : n - S.length = 0 := by
          have := (List.getElem?_eq_some_iff.mp q).1
          rw [List.length_singleton] at this; omega
        rw [hz] at q
        cases q
        exact ⟨a, vs, by rw [List.getElem?_append_right (by rw [s.mlen]; omega), s.mlen, hz]; rfl, h1, RepL.mono le h2, h3⟩
    len := s.len
    slot := fun j sv q => by
      obtain ⟨v, q1, q2⟩ := s.slot j sv q
      refine ⟨v, q1, ?_⟩
      cases sv with
      | val w => exact Rep.mono le q2
      | own l2 =>
        obtain ⟨b, us, e1, r1, r2, r3, r4⟩ := q2
        refine ⟨b, us, e1, r1, RepL.mono le r2, r3, fun z => ?_⟩
        rcases List.mem_append.mp z with z | z
        · exact r4 z
        · rw [List.mem_singleton] at z; subst z
          exact h6 ⟨j, ⟨l2, q⟩, by rw [q1, e1]⟩
    own := s.own
    inj := s.inj
    par := s.par }, le, ?_⟩
  simp only [Rep]
  refine ⟨a, ?_, rfl⟩
  rw [List.getElem?_append_right (by rw [s.mlen]; omega), s.mlen, Nat.sub_self]; rfl
theorem g_heap {a : Expr} {m : M} (ha : EOk c ex X a (evE cf m)) : PE X a (TV c ex (evE cf (.heap m))) := pe_imp ha.pe fun σ H Q ⟨e, d, ρ, S, s, h⟩ => by
  simp only [evE] at h
  refine s.tp h fun r ρ1 S1 v d1 H1 s1 r1 hh => ?_
  split at hh
  · obtain ⟨d2, s2, _, q⟩ := (s.comp s1).share (r1.up s)
    exact hh v d2 H1 s2 q
  · exact hh.elim

def rMu : Mu → V → List V → Hp → VK → Prop
  | .append => rAppend | .extend => rExtend | .pop => rPop | .popAt => rPopAt
def muId : Mu → String
  | .append => "list.append" | .extend => "list.extend" | .pop => "list.pop" | .popAt => "list.pop"
def muN : Mu → Str
  | .append => "append" | .extend => "extend" | .pop => "pop" | .popAt => "pop"
theorem mtr_mu : ∀ m, MtR X (muId m) (rMu m)
  | .append => mt_append | .extend => mt_extend | .pop => mt_pop | .popAt => mt_popAt
theorem RepL.getE : ∀ {l : List W} {vs : List V} {j : Nat} {w : W}, RepL c d H l vs → l[j]? = some w → ∃ v, vs[j]? = some v ∧ Rep c d H w v
  | _ :: _, _, 0, _, ⟨v, t, e, h1, _⟩, q => by cases q; exact ⟨v, by rw [e]; rfl, h1⟩
  | _ :: _, _, j + 1, _, ⟨v, t, e, _, h2⟩, q => by
    obtain ⟨u, h3, h4⟩ := RepL.getE h2 (j := j) (by simpa using q)
    exact ⟨u, by rw [e]; simpa using h3, h4⟩
theorem RepL.eraseE : ∀ {l : List W} {vs : List V} (j : Nat), RepL c d H l vs → RepL c d H (l.eraseIdx j) (vs.eraseIdx j)
  | [], vs, _, h => by have h : vs = [] := h; subst h; exact .nil
  | _ :: _, _, 0, ⟨v, t, e, _, h2⟩ => by rw [e]; exact h2
  | _ :: _, _, j + 1, ⟨v, t, e, h1, h2⟩ => by rw [e]; exact .cons h1 (RepL.eraseE j h2)
theorem RepL.dropE : ∀ {l : List W} {vs : List V}, RepL c d H l vs → RepL c d H l.dropLast vs.dropLast
  | [], vs, h => by have h : vs = [] := h; subst h; exact .nil
  | [_], _, ⟨v, t, e, _, h2⟩ => by have h2 : t = [] := h2; subst h2; rw [e]; exact .nil
  | a :: b :: r, _, ⟨v, t, e, h1, h2⟩ => by
    obtain ⟨v2, t2, e2, h3, h4⟩ := id h2
    rw [e, e2]
    rw [e2] at h2
    exact .cons h1 (RepL.dropE h2)
theorem RepL.appE : ∀ {l l' : List W} {vs vs' : List V}, RepL c d H l vs → RepL c d H l' vs' → RepL c d H (l ++ l') (vs ++ vs')
  | [], _, vs, _, h, h' => by have h : vs = [] := h; subst h; exact h'
  | _ :: _, _, _, _, ⟨v, t, e, h1, h2⟩, h' => by rw [e]; exact .cons h1 (RepL.appE h2 h')
theorem mu_ok (s : Sim c e d ρ S σ H) {m : Mu} {a : Addr} {l l' : List W} {vs us : List V} {as : List AV} {w : W} {Q : VK} (hH : H a = some (.lst vs)) (hr : RepL c d H l vs) (ha : AvsR c d σ H as us) (h : muE m l ρ S as = some (w, l'))
    (k : ∀ v vs', Rep c d H w v → RepL c d H l' vs' → Q v (upd H a (.lst vs'))) : rMu m (.ref a) us H Q := by
  unfold muE at h
  split at h
  · split at h
    · rename_i hz
      cases h
      obtain ⟨v, t, rfl, h1, h2⟩ := ha
      have h2 : t = [] := h2
      subst h2
      exact ⟨a, vs, v, rfl, rfl, hH, by rw [hr.length]; exact hz, k _ _ .nonI (hr.appE (.cons h1 .nil))⟩
    · cases h
  · split at h
    · rename_i x ys q
      split at h
      · rename_i hz
        cases h
        obtain ⟨v, t, rfl, h1, h2⟩ := ha
        have h2 : t = [] := h2
        subst h2
        obtain ⟨b, zs, rfl, q1, q2⟩ := (s.av h1 q).lst
        exact ⟨a, b, vs, zs, rfl, rfl, hH, q1, by rw [hr.length, q2.length]; exact hz, k _ _ .nonI (hr.appE q2)⟩
      · cases h
    · cases h
  · have ha : us = [] := ha
    subst ha
    split at h
    · rename_i y q
      cases h
      obtain ⟨v, q1, q2⟩ := hr.getE q
      exact ⟨a, vs, v, rfl, rfl, hH, by rw [hr.length]; exact q1, k _ _ q2 hr.dropE⟩
    · cases h
  · rename_i i
    split at h
    · rename_i hz
      rw [Bool.and_eq_true, decide_eq_true_eq, decide_eq_true_eq] at hz
      split at h
      · rename_i j qj
        split at h
        · rename_i y q
          cases h
          obtain ⟨v, t, rfl, h1, h2⟩ := ha
          have h2 : t = [] := h2
          subst h2
          have h1 : v = .int i := by simpa only [AvR, Rep] using h1
          subst h1
          obtain ⟨v, q1, q2⟩ := hr.getE q
          exact ⟨a, vs, i, j, v, rfl, rfl, hH, hz.1, hz.2, by rw [hr.length]; exact qj, q1, k _ _ q2 (hr.eraseE j)⟩
        · cases h
      · cases h
    · cases h
  · cases h
/-- the call itself -/
theorem pe_mu {me : Mu} {a : Expr} {es : List Expr} {ta : TE} {t : TA} {apos pos : Pos} (ha : PE X a ta) (hx : PA X es t) (hb : baseB a = true) (hl : (apos.endLine == pos.line) = true) (hn : ∀ e r, es = e :: r → noStar e = true ∧ r = []) (h0 : es = [] → me = .pop) :
    ∀ {u : TE}, (es = [] → ∀ σ H Q, u σ H Q → tBM0 X.K "list" (rMu me) ta σ H Q) → (es ≠ [] → ∀ σ H Q, u σ H Q → tBM X.K "list" (rMu me) ta t σ H Q) → PE X (.Call (.Attribute a (muN me) apos) es [] pos) u := by
  intro u k0 k1
  cases es with
  | nil =>
    have h0 := h0 rfl
    subst h0
    exact pe_imp (pe_bm0 F.plainAttrs_list F.slot_list_pop F.type_list_pop (mtr_mu .pop) ha (base_of hb) hl) (k0 rfl)
  | cons e r =>
    obtain ⟨hs, hr⟩ := hn e r rfl
    subst hr
    have few : ∀ n : Str, ((backTo pos (starEach [e] X.env)).all (fun x => !x.1) && (backToKw pos (keywordEach [] X.env)).all (fun x => x.1.isSome)
      && decide (([e] : List Expr).length + ([] : List Keyword).length + (if ([] : List Keyword).isEmpty then 0 else 1) < 30)) = true := fun _ => by rw [star_of hs]; rfl
    refine pe_imp ?_ (k1 (by simp))
    cases me with
    | append => exact pe_bm F.plainAttrs_list F.slot_list_append F.type_list_append (mtr_mu .append) ha hx (base_of hb) (few "") hl (star_of hs) rfl
    | extend => exact pe_bm F.plainAttrs_list F.slot_list_extend F.type_list_extend (mtr_mu .extend) ha hx (base_of hb) (few "") hl (star_of hs) rfl
    | pop => exact pe_bm F.plainAttrs_list F.slot_list_pop F.type_list_pop (mtr_mu .pop) ha hx (base_of hb) (few "") hl (star_of hs) rfl
    | popAt => exact pe_bm F.plainAttrs_list F.slot_list_pop F.type_list_pop (mtr_mu .popAt) ha hx (base_of hb) (few "") hl (star_of hs) rfl
theorem g_mut (o : CxOk c k ex cf X) {me : Mu} {x : Str} {i : Nat} {es : List Expr} {m : M} {p apos pos : Pos} (hv : visB k i x = true) (hx : PA X es (TAs c ex (evA cf m))) (hl : (apos.endLine == pos.line) = true) (hn : ∀ e r, es = e :: r → noStar e = true ∧ r = []) (h0 : es = [] → me = .pop ∧ m = .nil) :
    EOk c ex X (.Call (.Attribute (.Name x p) (muN me) apos) es [] pos) (evE cf (.mut me i m)) := by
  refine .of_plain ?_ (fun _ => rfl) (fun _ _ _ z => by cases z)
  have fin : ∀ {e : Ent} {d : Wd} {ρ : Env} {S : Sto} {σ : L2.St} {H : Hp} {a : Addr} {l : List AV} {us : List V} {Q : VK}, Sim c e d ρ S σ H → σ[i]? = some (some (.ref a)) → AvsR c d σ H l us →
      TPost c ex (RvR c) e σ (match sget ρ i with
      | some (.own xs) => match muE me xs.2 ρ S l with
        | some (w, ys) => .ok (.val w) (ρ.set i (some (.own (xs.1, ys)))) S
        | none => .stuck
      | _ => .stuck) Q → rMu me (.ref a) us H Q := fun {e d ρ S σ H a l us Q} s hi ha h => by
    split at h
    · rename_i xs q
      have q := sget_iff.mp q
      obtain ⟨v, q1, b, vs, e1, r1, r2, r3, r4⟩ := s.slot i _ q
      rw [hi] at q1
      cases q1
      cases e1
      split at h
      · rename_i w ys qm
        refine mu_ok s r1 r2 ha qm fun v vs' hw hr => ?_
        have s2 := s.mutOwn q hi hr
        exact h v d _ s2 (Rep.mono (.upd r3) hw)
      · exact h.elim
    · exact h.elim
  have ty : ∀ {e : Ent} {d : Wd} {ρ : Env} {S : Sto} {σ : L2.St} {H : Hp} {l : Bool × List W}, Sim c e d ρ S σ H → sget ρ i = some (.own l) → ∃ a, σ[i]? = some (some (.ref a)) ∧ tyV X.K "list" (.ref a) H := fun s q => by
    obtain ⟨v, q1, b, vs, e1, r1, _⟩ := s.slot i _ (sget_iff.mp q)
    exact ⟨b, by rw [q1, e1], .inl ⟨rfl, vs, .of r1⟩⟩
  refine pe_mu (vis_pe o hv) hx rfl hl hn (fun h => (h0 h).1) (fun he σ H Q ⟨e, d, ρ, S, s, h⟩ => ?_) (fun he σ H Q ⟨e, d, ρ, S, s, h⟩ => ?_)
  · obtain ⟨rfl, rfl⟩ := h0 he
    simp only [evE, evA] at h
    cases q : sget ρ i with
    | none => rw [q] at h; exact h.elim
    | some sv =>
      cases sv with
      | val w => rw [q] at h; exact h.elim
      | own l =>
        rw [q] at h
        obtain ⟨a, h1, h2⟩ := ty s q
        refine ⟨_, h1, h2, fin s h1 (l := []) rfl ?_⟩
        simp only [Out.bind_ok] at h
        rw [q]
        rw [q] at h
        exact h
  · simp only [evE] at h
    cases q : sget ρ i with
    | none => rw [q] at h; exact h.elim
    | some sv =>
      cases sv with
      | val w => rw [q] at h; exact h.elim
      | own l =>
        rw [q] at h
        obtain ⟨a, h1, h2⟩ := ty s q
        exact ⟨_, h1, h2, s.tp h fun l ρ1 S1 vs d1 H1 s1 r1 hh => fin (s.comp s1) h1 r1 hh⟩
theorem g_hmut (o : CxOk c k ex cf X) {me : Mu} {a : Expr} {es : List Expr} {ma m : M} {apos pos : Pos} (ha : PE X a (TAv c ex (evV cf ma))) (hb : baseB a = true) (hx : PA X es (TAs c ex (evA cf m))) (hl : (apos.endLine == pos.line) = true) (hn : ∀ e r, es = e :: r → noStar e = true ∧ r = []) (h0 : es = [] → me = .pop ∧ m = .nil) :
    EOk c ex X (.Call (.Attribute a (muN me) apos) es [] pos) (evE cf (.hmut me ma m)) := by
  refine .of_plain ?_ (fun _ => rfl) (fun _ _ _ z => by cases z)
  have fin : ∀ {e : Ent} {d : Wd} {ρ : Env} {S : Sto} {σ : L2.St} {H : Hp} {a : Addr} {n : Nat} {l : List AV} {us : List V} {Q : VK}, Sim c e d ρ S σ H → d.mu[n]? = some a → AvsR c d σ H l us →
      TPost c ex (RvR c) e σ (match S[n]? with
      | some xs => match muE me xs ρ S l with
        | some (w, ys) => .ok (.val w) ρ (S.set n ys)
        | none => .stuck
      | none => .stuck) Q → rMu me (.ref a) us H Q := fun {e d ρ S σ H a n l us Q} s hi ha h => by
    split at h
    · rename_i xs q
      obtain ⟨b, vs, q1, r1, r2, r3⟩ := s.cell n xs q
      rw [hi] at q1
      cases q1
      split at h
      · rename_i w ys qm
        refine mu_ok s r1 r2 ha qm fun v vs' hw hr => ?_
        have s2 := s.mutCell q hi hr
        exact h v d _ s2 (Rep.mono (.upd r3) hw)
      · exact h.elim
    · exact h.elim
  have ty : ∀ {e : Ent} {d : Wd} {ρ : Env} {S : Sto} {σ : L2.St} {H : Hp} {n : Nat} {l : List W} {v : V}, Sim c e d ρ S σ H → S[n]? = some l → Rep c d H (.ref n) v → ∃ a, d.mu[n]? = some a ∧ v = .ref a ∧ tyV X.K "list" (.ref a) H := fun {e d ρ S σ H n l v} s q hr => by
    simp only [Rep] at hr
    obtain ⟨a, h1, h2⟩ := hr
    obtain ⟨b, vs, q1, r1, _⟩ := s.cell n l q
    rw [h1] at q1; cases q1
    exact ⟨a, h1, h2, .inl ⟨rfl, vs, .of r1⟩⟩
  refine pe_mu ha hx hb hl hn (fun h => (h0 h).1) (fun he σ H Q ⟨e, d, ρ, S, s, h⟩ => ?_) (fun he σ H Q ⟨e, d, ρ, S, s, h⟩ => ?_)
  · obtain ⟨rfl, rfl⟩ := h0 he
    simp only [evE, evA] at h
    refine s.tp h fun x ρ1 S1 v d1 H1 s1 r1 h1 => ?_
    have s2 := s.comp s1
    split at h1
    · rename_i n
      split at h1
      · rename_i l q
        obtain ⟨a, t1, t2, t3⟩ := ty s2 q r1
        subst t2
        exact ⟨t3, fin s2 t1 (l := []) rfl h1⟩
      · exact h1.elim
    · exact h1.elim
  · simp only [evE] at h
    refine s.tp h fun x ρ1 S1 v d1 H1 s1 r1 h1 => ?_
    have s2 := s.comp s1
    split at h1
    · rename_i n
      split at h1
      · rename_i l q
        obtain ⟨a, t1, t2, t3⟩ := ty s2 q r1
        subst t2
        exact ⟨t3, s2.tp h1 fun l ρ2 S2 vs d2 H2 s3 r3 h3 => fin (s2.comp s3) (s3.le0.get t1) r3 h3⟩
      · exact h1.elim
    · exact h1.elim
end
end NV
set_option Elab.async false
set_option linter.all false
set_option maxRecDepth 100000
set_option maxHeartbeats 1000000
/-! # Calls of one's own defs -/
namespace NV
open PySem PySem.Spec PyProof.Rows L2
section
variable {c : Cn} {k : Ck} {ex : EX} {cf : CallF} {X : Cx}
variable {e : Ent} {d d' : Wd} {ρ ρ' : Env} {S S' : Sto} {σ : L2.St} {H H' : Hp}
theorem args_spec : ∀ {l : List AV} {vs : List V} {args : List SV}, AvsR c d σ H l vs → argSV ρ l = some args → args.length = vs.length ∧ args.length = l.length ∧
    ∀ (j : Nat) (sv : SV), args[j]? = some sv → ∃ v, vs[j]? = some v ∧ ((∃ w, l[j]? = some (.val w) ∧ sv = .val w ∧ Rep c d H w v) ∨ (∃ i s0, l[j]? = some (.pk i) ∧ sget ρ i = some s0 ∧ sv = pinS s0 ∧ σ[i]? = some (some v)))
  | [], vs, args, h, q => by
    have h : vs = [] := h
    cases q; subst h
    exact ⟨rfl, rfl, fun j sv z => by simp at z⟩
  | .val w :: r, vs, args, ⟨v, t, e1, h1, h2⟩, q => by
    simp only [argSV] at q
    cases q2 : argSV ρ r with
    | none => rw [q2] at q; cases q
    | some as =>
      rw [q2] at q; cases q
      obtain ⟨k1, k2, k3⟩ := args_spec h2 q2
      subst e1
      refine ⟨congrArg Nat.succ k1, congrArg Nat.succ k2, fun j sv z => ?_⟩
      cases j with
      | zero => cases z; exact ⟨v, rfl, .inl ⟨w, rfl, rfl, h1⟩⟩
      | succ j => exact k3 j sv (by simpa using z)
  | .pk i :: r, vs, args, ⟨v, t, e1, h1, h2⟩, q => by
    simp only [argSV] at q
    split at q
    · rename_i s0 as q1 q2
      cases q
      obtain ⟨k1, k2, k3⟩ := args_spec h2 q2
      subst e1
      refine ⟨congrArg Nat.succ k1, congrArg Nat.succ k2, fun j sv z => ?_⟩
      cases j with
      | zero => cases z; exact ⟨v, rfl, .inr ⟨i, s0, rfl, q1, rfl, h1⟩⟩
      | succ j => exact k3 j sv (by simpa using z)
    · cases q
theorem pks_mem : ∀ {l : List AV} {j i : Nat}, l[j]? = some (.pk i) → i ∈ pks l
  | .val _ :: r, 0, i, h => by cases h
  | .pk _ :: r, 0, i, h => by cases h; exact List.mem_cons_self ..
  | .val _ :: r, j + 1, i, h => pks_mem (l := r) (j := j) (by simpa using h)
  | .pk _ :: r, j + 1, i, h => List.mem_cons_of_mem _ (pks_mem (l := r) (j := j) (by simpa using h))
theorem mem_pks : ∀ {l : List AV} {i : Nat}, i ∈ pks l → ∃ j : Nat, l[j]? = some (.pk i)
  | .val _ :: r, i, h => by obtain ⟨j, h⟩ := mem_pks (l := r) h; exact ⟨j + 1, by simpa using h⟩
  | .pk a :: r, i, h => by
    rcases List.mem_cons.mp h with z | z
    · subst z; exact ⟨0, rfl⟩
    · obtain ⟨j, h⟩ := mem_pks (l := r) z; exact ⟨j + 1, by simpa using h⟩
theorem pks_inj : ∀ {l : List AV} {i j j' : Nat}, (pks l).Nodup → l[j]? = some (.pk i) → l[j']? = some (.pk i) → j = j'
  | .val _ :: r, i, 0, _, _, h, _ => by cases h
  | .val _ :: r, i, _ + 1, 0, _, _, h => by cases h
  | .val _ :: r, i, j + 1, j' + 1, hn, h, h' => congrArg Nat.succ (pks_inj (l := r) hn (by simpa using h) (by simpa using h'))
  | .pk _ :: r, i, 0, 0, _, _, _ => rfl
  | .pk _ :: r, i, 0, j' + 1, hn, h, h' => by cases h; exact absurd (pks_mem (l := r) (j := j') (by simpa using h')) (List.nodup_cons.mp hn).1
  | .pk _ :: r, i, j + 1, 0, hn, h, h' => by cases h'; exact absurd (pks_mem (l := r) (j := j) (by simpa using h)) (List.nodup_cons.mp hn).1
  | .pk _ :: r, i, j + 1, j' + 1, hn, h, h' => congrArg Nat.succ (pks_inj (l := r) (List.nodup_cons.mp hn).2 (by simpa using h) (by simpa using h'))
theorem sget_set_ne {ρ : Env} {i j : Nat} {s : Option SV} (h : i ≠ j) : sget (ρ.set i s) j = sget ρ j := by
  unfold sget; rw [List.getElem?_set_ne h]
theorem backA_spec : ∀ {l : List AV} {as : List (Option SV)} {ρ ρ2 : Env}, (pks l).Nodup → backA ρ l as = some ρ2 → ρ2.length = ρ.length ∧ (∀ i : Nat, (i ∉ pks l ∨ ∀ x, sget ρ i ≠ some (.own x)) → ρ2[i]? = ρ[i]?) ∧
    (∀ (j i : Nat) (x : Bool × List W), l[j]? = some (.pk i) → sget ρ i = some (.own x) → ∃ l' : Bool × List W, as[j]? = some (some (.own l')) ∧ ρ2[i]? = some (some (.own (x.1, l'.2))))
  | [], as, ρ, ρ2, _, h => by
    have h : some ρ = some ρ2 := by cases as <;> exact h
    cases h; exact ⟨rfl, fun _ _ => rfl, fun j i x z => by simp at z⟩
  | .val w :: r, s :: t, ρ, ρ2, hn, h => by
    obtain ⟨k1, k2, k3⟩ := backA_spec (l := r) (as := t) hn h
    refine ⟨k1, k2, fun j i x h1 h2 => ?_⟩
    cases j with
    | zero => cases h1
    | succ j => simpa using k3 j i x (by simpa using h1) h2
  | .pk i0 :: r, s :: t, ρ, ρ2, hn, h => by
    obtain ⟨n1, n2⟩ := List.nodup_cons.mp hn
    simp only [backA] at h
    split at h
    · rename_i x0 q0
      split at h
      · rename_i l0
        obtain ⟨k1, k2, k3⟩ := backA_spec (l := r) (as := t) n2 h
        have hi : i0 < ρ.length := (List.getElem?_eq_some_iff.mp (sget_iff.mp q0)).1
        refine ⟨k1.trans (List.length_set ..), fun i hi2 => ?_, fun j i x h1 h2 => ?_⟩
        · have ne : i0 ≠ i := by
            rintro rfl
            rcases hi2 with z | z
            · exact z (List.mem_cons_self ..)
            · exact z _ q0
          rw [k2 i ?_, List.getElem?_set_ne ne]
          rcases hi2 with z | z
          · exact .inl fun z2 => z (List.mem_cons_of_mem _ z2)
          · exact .inr fun x => by rw [sget_set_ne ne]; exact z x
        · cases j with
          | zero =>
            cases h1
            rw [q0] at h2; cases h2
            exact ⟨l0, rfl, by rw [k2 i0 (.inl n1), List.getElem?_set_self hi]⟩
          | succ j =>
            have h1' : r[j]? = some (.pk i) := by simpa using h1
            have ne : i0 ≠ i := by rintro rfl; exact n1 (pks_mem h1')
            simpa using k3 j i x h1' (by rw [sget_set_ne ne]; exact h2)
      · cases h
    · rename_i q0
      obtain ⟨k1, k2, k3⟩ := backA_spec (l := r) (as := t) n2 h
      refine ⟨k1, fun i hi2 => ?_, fun j i x h1 h2 => ?_⟩
      · by_cases ne : i0 = i
        · subst ne; exact k2 i0 (.inl n1)
        · refine k2 i ?_
          rcases hi2 with z | z
          · exact .inl fun z2 => z (List.mem_cons_of_mem _ z2)
          · exact .inr z
      · cases j with
        | zero => cases h1; exact absurd h2 (q0 _)
        | succ j => simpa using k3 j i x (by simpa using h1) h2
  | .val _ :: _, [], _, _, _, h => by cases h
  | .pk _ :: _, [], _, _, _, h => by cases h
/-- which parameters hold lists of the caller -/
def ownPs : List SV → List V → Nat → List (Nat × Addr)
  | .own _ :: r, .ref a :: t, n => (n, a) :: ownPs r t (n + 1)
  | _ :: r, _ :: t, n => ownPs r t (n + 1)
  | _, _, _ => []
theorem ownPs_mem : ∀ {args : List SV} {vs : List V} {n : Nat} {p : Nat × Addr}, p ∈ ownPs args vs n ↔ ∃ j, p.1 = n + j ∧ (∃ l, args[j]? = some (.own l)) ∧ vs[j]? = some (.ref p.2)
  | [], vs, n, p => by simp [ownPs]
  | a :: r, [], n, p => by
    cases a <;> simp [ownPs]
  | a :: r, v :: t, n, p => by
    have ih := ownPs_mem (args := r) (vs := t) (n := n + 1) (p := p)
    have step : (∃ j, p.1 = n + 1 + j ∧ (∃ l, r[j]? = some (.own l)) ∧ t[j]? = some (.ref p.2)) ↔ ∃ j, p.1 = n + (j + 1) ∧ (∃ l, (a :: r)[j + 1]? = some (.own l)) ∧ (v :: t)[j + 1]? = some (.ref p.2) := by
      constructor
      · rintro ⟨j, h1, h2, h3⟩; exact ⟨j, by omega, by simpa using h2, by simpa using h3⟩
      · rintro ⟨j, h1, h2, h3⟩; exact ⟨j, by omega, by simpa using h2, by simpa using h3⟩
    have all : (∃ j, p.1 = n + j ∧ (∃ l, (a :: r)[j]? = some (.own l)) ∧ (v :: t)[j]? = some (.ref p.2)) ↔ (p.1 = n ∧ (∃ l, a = .own l) ∧ v = .ref p.2) ∨ ∃ j, p.1 = n + (j + 1) ∧ (∃ l, (a :: r)[j + 1]? = some (.own l)) ∧ (v :: t)[j + 1]? = some (.ref p.2) := by
      constructor
      · rintro ⟨j, h1, h2, h3⟩
        cases j with
        | zero => exact .inl ⟨h1, by simpa using h2, by simpa using h3⟩
        | succ j => exact .inr ⟨j, h1, h2, h3⟩
      · rintro (⟨h1, ⟨l, h2⟩, h3⟩ | ⟨j, h⟩)
        · exact ⟨0, h1, ⟨l, by rw [h2]; rfl⟩, by rw [h3]; rfl⟩
        · exact ⟨j + 1, h⟩
    rw [all, ← step, ← ih]
    cases a with
    | val w =>
      have : ownPs (.val w :: r) (v :: t) n = ownPs r t (n + 1) := by cases v <;> rfl
      rw [this]
      constructor
      · exact .inr
      · rintro (⟨_, ⟨l, z⟩, _⟩ | z)
        · cases z
        · exact z
    | own l =>
      cases v with
      | ref b =>
        show p ∈ (n, b) :: ownPs r t (n + 1) ↔ _
        rw [List.mem_cons]
        constructor
        · rintro (z | z)
          · subst z; exact .inl ⟨rfl, ⟨l, rfl⟩, rfl⟩
          · exact .inr z
        · rintro (⟨h1, _, h3⟩ | z)
          · cases h3; exact .inl (by cases p; cases h1; rfl)
          · exact .inr z
      | _ =>
        constructor
        · exact .inr
        · rintro (⟨_, _, z⟩ | z)
          · cases z
          · exact z
/-- the callee's state at its start, the caller's behind it -/
theorem Sim.call (s : Sim c e d ρ S σ H) {l : List AV} {vs : List V} {args : List SV} (h : AvsR c d σ H l vs) (q : argSV ρ l = some args) (hn : (pks l).Nodup) :
    ∃ e', e'.d = d ∧ e'.H = H ∧ Sim c e' d (args.map some) S (vs.map some) H ∧ (∀ i a, ownAt (args.map some) (vs.map some) i a → (i, a) ∈ e'.P) ∧ (∀ a, e'.B a → owns (args.map some) (vs.map some) a) ∧
      ∀ as d' S' H' ρ2, Sim c e' d' as S' (vs.map some) H' → backA ρ l as = some ρ2 → Sim c e d' ρ2 S' σ H' ∧ ∀ r v, RvR c e' d' as (vs.map some) H' r v → RvR c e d' ρ2 σ H' r v := by
  obtain ⟨n1, n2, n3⟩ := args_spec h q
  have getA : ∀ {j : Nat} {sv : SV}, (args.map some)[j]? = some (some sv) → args[j]? = some sv := fun {j sv} z => by
    rw [List.getElem?_map] at z
    cases q : args[j]? with
    | none => rw [q] at z; cases z
    | some x => rw [q] at z; cases z; rfl
  have getV : ∀ {j : Nat} {v : V}, (vs.map some)[j]? = some (some v) → vs[j]? = some v := fun {j sv} z => by
    rw [List.getElem?_map] at z
    cases q : vs[j]? with
    | none => rw [q] at z; cases z
    | some x => rw [q] at z; cases z; rfl
  have putV : ∀ {j : Nat} {v : V}, vs[j]? = some v → (vs.map some)[j]? = some (some v) := fun {j v} z => by rw [List.getElem?_map, z]; rfl
  have putA : ∀ {j : Nat} {v : SV}, args[j]? = some v → (args.map some)[j]? = some (some v) := fun {j v} z => by rw [List.getElem?_map, z]; rfl
  /- an own parameter is a slot's own list -/
  have up : ∀ {j : Nat} {a : Addr}, ownAt (args.map some) (vs.map some) j a → ∃ i, l[j]? = some (.pk i) ∧ ownAt ρ σ i a := fun {j a} ⟨⟨x, z1⟩, z2⟩ => by
    obtain ⟨v, m1, m2⟩ := n3 j _ (getA z1)
    rw [getV z2] at m1; cases m1
    rcases m2 with ⟨w, _, m, _⟩ | ⟨i, s0, m3, m4, m6, m5⟩
    · cases m
    · cases s0 with
      | val w => cases m6
      | own y => exact ⟨i, m3, ⟨y, sget_iff.mp m4⟩, m5⟩
  have down : ∀ {j i : Nat} {a : Addr}, l[j]? = some (.pk i) → ownAt ρ σ i a → ownAt (args.map some) (vs.map some) j a := fun {j i a} hj ⟨⟨x, z1⟩, z2⟩ => by
    have hj2 : j < args.length := by rw [n2]; exact (List.getElem?_eq_some_iff.mp hj).1
    obtain ⟨v, m1, m2⟩ := n3 j _ (List.getElem?_eq_getElem hj2)
    rcases m2 with ⟨w, m, _, _⟩ | ⟨i', s0, m3, m4, m6, m5⟩
    · rw [hj] at m; cases m
    · rw [hj] at m3; cases m3
      rw [z2] at m5; cases m5
      rw [sget_iff.mpr z1] at m4
      cases m4
      refine ⟨⟨(true, x.2), putA ?_⟩, putV m1⟩
      rw [List.getElem?_eq_getElem hj2, m6]; rfl
  have upO : ∀ {a : Addr}, owns (args.map some) (vs.map some) a → owns ρ σ a := fun ⟨j, z⟩ => by obtain ⟨i, _, z2⟩ := up z; exact ⟨i, z2⟩
  have pm : ∀ p : Nat × Addr, p ∈ ownPs args vs 0 ↔ ownAt (args.map some) (vs.map some) p.1 p.2 := fun p => by
    rw [ownPs_mem]
    constructor
    · rintro ⟨j, h1, ⟨x, h2⟩, h3⟩
      have : p.1 = j := by omega
      rw [this]
      exact ⟨⟨x, putA h2⟩, putV h3⟩
    · rintro ⟨⟨x, h1⟩, h2⟩
      exact ⟨p.1, by omega, ⟨x, getA h1⟩, getV h2⟩
  refine ⟨⟨d, H, owns (args.map some) (vs.map some), ownPs args vs 0⟩, rfl, rfl, ?_, fun i a z => (pm (i, a)).mpr z, fun a z => z, ?_⟩
  · exact {
      le0 := .refl
      dom := s.dom
      fr := fun _ _ z _ _ => z
      new := fun _ z => .inl z
      mun := fun _ z => .inl z
      dm := fun _ z => z
      mlen := s.mlen
      nodup := s.nodup
      cell := s.cell
      len := by rw [List.length_map, List.length_map, n1]
      slot := fun j sv z => by
        obtain ⟨v, m1, m2⟩ := n3 j sv (getA z)
        refine ⟨v, putV m1, ?_⟩
        rcases m2 with ⟨w, _, m, m3⟩ | ⟨i, s0, _, m4, m6, m5⟩
        · subst m; exact m3
        · obtain ⟨v', q1, q2⟩ := s.slot i s0 (sget_iff.mp m4)
          rw [m5] at q1; cases q1
          subst m6
          cases s0 <;> exact q2
      own := fun i a z => .inl ⟨i, z⟩
      inj := fun j j' a z z' => by
        obtain ⟨i, h1, h2⟩ := up z
        obtain ⟨i', h1', h2'⟩ := up z'
        have := s.inj i i' a h2 h2'
        subst this
        exact pks_inj hn h1 h1'
      par := fun p hp => by
        have z := (pm p).mp hp
        refine ⟨z.2, ?_⟩
        obtain ⟨x, z1⟩ := z.1
        obtain ⟨v, m1, m2⟩ := n3 p.1 _ (getA z1)
        rcases m2 with ⟨w, _, m, m3⟩ | ⟨i, s0, _, m4, m6, m5⟩
        · cases m
        · cases s0 with
          | val w => cases m6
          | own y => cases m6; exact ⟨y.2, z1⟩ }
  · intro as d' S' H' ρ2 t hb
    obtain ⟨b1, b2, b3⟩ := backA_spec hn hb
    /- a slot behind the call: the callee's, or as it was -/
    have cs : ∀ i : Nat, (∃ (j : Nat) (x : Bool × List W) (a : Addr) (l' : Bool × List W), l[j]? = some (.pk i) ∧ ownAt ρ σ i a ∧ ρ[i]? = some (some (.own x)) ∧ (as[j]? = some (some (.own l')) ∧ ρ2[i]? = some (some (.own (x.1, l'.2)))) ∧ (vs.map some)[j]? = some (some (V.ref a)) ∧ σ[i]? = some (some (V.ref a))) ∨ (ρ2[i]? = ρ[i]? ∧ ∀ a, ownAt ρ σ i a → ¬ owns (args.map some) (vs.map some) a) := fun i => by
      by_cases h1 : i ∈ pks l
      · by_cases h2 : ∃ x, sget ρ i = some (.own x)
        · obtain ⟨x, h2⟩ := h2
          obtain ⟨j, hj⟩ := mem_pks h1
          obtain ⟨v, q1, a, us, e1, _⟩ := s.slot i _ (sget_iff.mp h2)
          have oa : ownAt ρ σ i a := ⟨⟨x, sget_iff.mp h2⟩, by rw [q1, e1]⟩
          obtain ⟨l', b4⟩ := b3 j i x hj h2
          exact .inl ⟨j, x, a, l', hj, oa, sget_iff.mp h2, b4, (down hj oa).2, oa.2⟩
        · refine .inr ⟨b2 i (.inr fun x z => h2 ⟨x, z⟩), fun a ⟨⟨x, z⟩, _⟩ => absurd ⟨x, sget_iff.mpr z⟩ h2⟩
      · refine .inr ⟨b2 i (.inl h1), fun a z ⟨j, z2⟩ => ?_⟩
        obtain ⟨i', h3, h4⟩ := up z2
        rw [s.inj i i' a z h4] at h1
        exact h1 (pks_mem h3)
    have ow : ∀ {i : Nat} {a : Addr}, ownAt ρ2 σ i a → (∃ j : Nat, l[j]? = some (AV.pk i) ∧ ownAt as (vs.map some) j a) ∨ (ownAt ρ σ i a ∧ ¬ owns (args.map some) (vs.map some) a) := fun {i a} ⟨⟨x, z1⟩, z2⟩ => by
      rcases cs i with ⟨j, y, b, l', h1, h2, h3, ⟨h4, h7⟩, h5, h6⟩ | ⟨h1, h2⟩
      · rw [z2] at h6; cases h6
        exact .inl ⟨j, h1, ⟨l', h4⟩, h5⟩
      · have oa : ownAt ρ σ i a := ⟨⟨x, by rw [← h1]; exact z1⟩, z2⟩
        exact .inr ⟨oa, h2 a oa⟩
    have key : Sim c (NV.rb e d H ρ σ) d' ρ2 S' σ H' := {
      le0 := t.le0
      dom := t.dom
      fr := fun a o z z1 z2 => t.fr a o z (fun w => z1 (upO w)) z2
      new := fun a z => (t.new a z).imp id (Or.imp id upO)
      mun := t.mun
      dm := t.dm
      mlen := t.mlen
      nodup := t.nodup
      cell := t.cell
      len := b1.trans s.len
      slot := fun i sv z => by
        rcases cs i with ⟨j, y, b, l', h1, h2, h3, ⟨h4, h7⟩, h5, h6⟩ | ⟨h1, h2⟩
        · rw [h7] at z
          cases z
          obtain ⟨v, q1, q2⟩ := t.slot j _ h4
          rw [h5] at q1; cases q1
          exact ⟨_, h6, q2⟩
        · rw [h1] at z
          obtain ⟨v, q1, q2⟩ := s.slot i sv z
          refine ⟨v, q1, ?_⟩
          cases sv with
          | val w => exact Rep.mono t.le0 q2
          | own x =>
            obtain ⟨a, us, e1, r1, r2, r3, r4⟩ := q2
            have oa : ownAt ρ σ i a := ⟨⟨x, z⟩, by rw [q1, e1]⟩
            have no := h2 a oa
            have hne : H a ≠ none := by rw [r1]; simp
            refine ⟨a, us, e1, t.fr a _ r1 no r4, RepL.mono t.le0 r2, fun w => ?_, fun w => ?_⟩
            · rcases t.new a w with w | w | w
              · exact r3 w
              · exact hne w
              · exact no w
            · rcases t.mun a w with w | w
              · exact r4 w
              · exact hne w
      own := fun i a z => by
        rcases ow z with ⟨j, _, z2⟩ | ⟨z2, _⟩
        · exact (t.own j a z2).imp upO id
        · exact .inl ⟨i, z2⟩
      inj := fun i i' a z z' => by
        have mix : ∀ {i i' : Nat}, (∃ j : Nat, l[j]? = some (AV.pk i) ∧ ownAt as (vs.map some) j a) → (ownAt ρ σ i' a ∧ ¬ owns (args.map some) (vs.map some) a) → False := fun ⟨j, h1, h2⟩ ⟨h3, h4⟩ => by
          rcases t.own j a h2 with w | w
          · exact h4 w
          · exact (s.ownsH ⟨_, h3⟩).1 w
        rcases ow z with h1 | h1 <;> rcases ow z' with h2 | h2
        · obtain ⟨j, p1, p2⟩ := h1
          obtain ⟨j', p1', p2'⟩ := h2
          have := t.inj j j' a p2 p2'
          subst this
          rw [p1] at p1'; cases p1'; rfl
        · exact (mix h1 h2).elim
        · exact (mix h2 h1).elim
        · exact s.inj i i' a h1.1 h2.1
      par := fun p hp => by
        obtain ⟨p1, p2⟩ := s.par p hp
        refine ⟨p1, ?_⟩
        rcases cs p.1 with ⟨j, y, b, l', h1, h2, h3, ⟨h4, h7⟩, h5, h6⟩ | ⟨h1, h2⟩
        · obtain ⟨x, p2⟩ := p2
          rw [p2] at h3; cases h3
          exact ⟨l'.2, h7⟩
        · rw [h1]
          exact p2 }
    refine ⟨s.comp key, fun r v hr => ?_⟩
    cases r with
    | val w => exact hr
    | fresh x =>
      obtain ⟨a, us, e1, r1, r2, r3, r4, r5, r6⟩ := hr
      refine ⟨a, us, e1, r1, r2, r3, r4, s.gone r5, fun ⟨i, z⟩ => ?_⟩
      rcases ow z with ⟨j, _, z2⟩ | ⟨z2, _⟩
      · exact r6 ⟨j, z2⟩
      · exact (s.ownsH ⟨i, z2⟩).1 r5
theorem spc_of (s : Sim c e d ρ S σ H) {f : Nat} {l : List AV} {vs : List V} {Q : VK} (h : AvsR c d σ H l vs) (q : TPost c ex (RvR c) e σ (doCall cf f l ρ S) Q) : SpC c ex cf f σ vs H Q := by
  unfold doCall at q
  split at q
  · rename_i args ha
    split at q
    · rename_i hn
      obtain ⟨e', h1, h2, h3, h4, h5, h6⟩ := s.call h ha hn
      refine ⟨e', d, args, S, h1, h2, h3, h4, h5, ?_⟩
      split at q
      · rename_i r ρ' S' hc
        try rw [hc]
        split at q
        · rename_i ρ2 hb
          intro v d' H' t hr
          obtain ⟨k1, k2⟩ := h6 _ _ _ _ _ t hb
          exact q v d' H' k1 (k2 r v hr)
        · exact q.elim
      · rename_i kk w ρ' S' hc
        try rw [hc]
        split at q
        · rename_i ρ2 hb
          intro d' H' t
          exact q d' H' (h6 _ _ _ _ _ t hb).1
        · exact q.elim
      · exact q.elim
    · exact q.elim
  · exact q.elim
end
end NV
set_option Elab.async false
set_option linter.all false
set_option maxRecDepth 100000
set_option maxHeartbeats 1000000
/-! # Calls, written -/
namespace NV
open PySem PySem.Spec PyProof.Rows L2
theorem pick_range' {α : Type} (l : List α) : ∀ (n i : Nat), i + n = l.length → pickL l (List.range' i n) = some (l.drop i)
  | 0, i, h => by
    show some [] = _
    rw [List.drop_eq_nil_of_le (by omega)]
  | n + 1, i, h => by
    have hi : i < l.length := by omega
    rw [List.range'_succ]
    show (match l[i]?, pickL l (List.range' (i + 1) n) with
    | some x, some t => some (x :: t)
    | _, _ => none) = _
    rw [pick_range' l n (i + 1) (by omega), List.getElem?_eq_getElem hi]
    show some (l[i] :: l.drop (i + 1)) = _
    rw [List.drop_eq_getElem_cons hi]
theorem pick_range {α : Type} (l : List α) : pickL l (List.range l.length) = some l := by
  rw [List.range_eq_range']
  exact pick_range' l l.length 0 (by omega)
theorem pick_map {α β : Type} {l : List α} {l' : List β} (hl : l.length = l'.length) : ∀ {perm : List Nat} {t : List α}, pickL l perm = some t → ∃ t', pickL l' perm = some t'
  | [], _, _ => ⟨[], rfl⟩
  | i :: r, t, h => by
    simp only [pickL] at h ⊢
    split at h
    · rename_i x t1 q1 q2
      obtain ⟨t', h'⟩ := pick_map hl q2
      have hi : i < l'.length := by rw [← hl]; exact (List.getElem?_eq_some_iff.mp q1).1
      rw [h', List.getElem?_eq_getElem hi]
      exact ⟨_, rfl⟩
    · cases h
section
variable {c : Cn} {k : Ck} {ex : EX} {cf : CallF} {X : Cx}
variable {e : Ent} {d d' : Wd} {ρ ρ' : Env} {S S' : Sto} {σ : L2.St} {H H' : Hp}
/-- how many arguments -/
def lenM : M → Nat
  | .cons _ b => lenM b + 1
  | _ => 0
theorem evA_len {m : M} {ρ : Env} {S : Sto} {l : List AV} {ρ' : Env} {S' : Sto} (h : evA cf m ρ S = .ok l ρ' S') : l.length = lenM m := by
  induction m generalizing ρ S l ρ' S' with
  | nil => simp only [evA] at h; cases h; rfl
  | cons a b _ ih =>
    simp only [evA] at h
    cases q : argV (evE cf a) a ρ S with
    | ok x ρ1 S1 =>
      rw [q, Out.bind_ok] at h
      cases q2 : evA cf b ρ1 S1 with
      | ok r ρ2 S2 =>
        rw [q2, Out.bind_ok] at h
        cases h
        rw [List.length_cons, ih q2]; rfl
      | exn => rw [q2] at h; cases h
      | stuck => rw [q2] at h; cases h
    | exn => rw [q] at h; cases h
    | stuck => rw [q] at h; cases h
  | _ => simp only [evA] at h; cases h
theorem AvsR.len : ∀ {l : List AV} {vs : List V}, AvsR c d σ H l vs → l.length = vs.length
  | [], _, h => by have h : _ = [] := h; rw [h]; rfl
  | _ :: _, _, ⟨v, t, e1, _, h2⟩ => by rw [e1]; exact congrArg Nat.succ (AvsR.len h2)
theorem AvsR.app : ∀ {l l' : List AV} {vs vs' : List V}, AvsR c d σ H l vs → AvsR c d σ H l' vs' → AvsR c d σ H (l ++ l') (vs ++ vs')
  | [], _, _, _, h, h' => by have h : _ = [] := h; rw [h]; exact h'
  | _ :: _, _, _, _, ⟨v, t, e1, h1, h2⟩, h' => ⟨v, t ++ _, by rw [e1]; rfl, h1, AvsR.app h2 h'⟩
theorem AvsR.at : ∀ {l : List AV} {vs : List V} {i : Nat} {x : AV} {v : V}, AvsR c d σ H l vs → l[i]? = some x → vs[i]? = some v → AvR c d σ H x v
  | _ :: _, _, 0, _, _, ⟨v, t, e1, h1, h2⟩, q, q' => by subst e1; cases q; cases q'; exact h1
  | _ :: _, _, i + 1, _, _, ⟨v, t, e1, h1, h2⟩, q, q' => by subst e1; exact AvsR.at h2 (i := i) (by simpa using q) (by simpa using q')
theorem AvsR.pick {l : List AV} {vs : List V} (h : AvsR c d σ H l vs) : ∀ {perm : List Nat} {l' : List AV} {vs' : List V}, pickL l perm = some l' → pickL vs perm = some vs' → AvsR c d σ H l' vs'
  | [], _, _, h1, h2 => by cases h1; cases h2; rfl
  | i :: r, _, _, h1, h2 => by
    simp only [pickL] at h1 h2
    split at h1
    · rename_i x t q1 q2
      cases h1
      split at h2
      · rename_i y u q3 q4
        cases h2
        exact ⟨y, u, rfl, h.at q1 q3, AvsR.pick h q2 q4⟩
      · cases h2
    · cases h1
theorem Vals.at' : ∀ {vs : List V} {us : List Value} {i : Nat} {v : V} {u : Value}, Vals vs us → vs[i]? = some v → us[i]? = some u → RelV v u
  | _, _, 0, _, _, .cons r _, q, q' => by cases q; cases q'; exact r
  | _, _, i + 1, _, _, .cons _ t, q, q' => Vals.at' t (i := i) (by simpa using q) (by simpa using q')
theorem Vals.pick {vs : List V} {us : List Value} (h : Vals vs us) : ∀ {perm : List Nat} {vs' : List V} {us' : List Value}, pickL vs perm = some vs' → pickL us perm = some us' → Vals vs' us'
  | [], _, _, h1, h2 => by cases h1; cases h2; exact .nil
  | i :: r, _, _, h1, h2 => by
    simp only [pickL] at h1 h2
    split at h1
    · rename_i x t q1 q2
      cases h1
      split at h2
      · rename_i y u q3 q4
        cases h2
        exact .cons (Vals.at' h q1 q3) (Vals.pick h q2 q4)
      · cases h2
    · cases h1
/-- every value is written by place -/
theorem bindO_pos {f : Nat} {ps : List Str} {us : List Value} (h : k.pars[f]? = some ps) (hn : ps.Nodup) (hl : us.length = ps.length) : BindO k f us [] us := by
  refine ⟨ps, h, fun fd P hd => ?_⟩
  have := bind_kw (fd := fd) (ps := ps) (ks := []) (us := us) (ws := []) (vals := us) (perm := List.range ps.length) P hd rfl (by omega) (by rw [List.append_nil, hl, List.take_length]; exact hn) (by simp) ?_ ?_
  · exact this
  · rw [List.append_nil, hl, List.take_length]
    exact pick_range ps
  · rw [List.append_nil, ← hl]
    exact pick_range us
theorem g_call (o : CxOk c k ex cf X) {x : Str} {f : Nat} {ps : List Str} {es : List Expr} {m : M} {p pos : Pos} (hg : glB k x = true) (hf : k.fns[f]? = some x) (hp : k.pars[f]? = some ps) (hn : ps.Nodup) (hl : lenM m = ps.length) (hx : PA X es (TAs c ex (evA cf m))) (hs : es.all noStar = true) (h0 : es = [] → m = .nil) :
    EOk c ex X (.Call (.Name x p) es [] pos) (evE cf (.call f m)) := by
  obtain ⟨h1, h2⟩ := gl_of o hg
  obtain ⟨a, h3, h4, h5⟩ := o.fnm f x hf
  refine .of_plain ⟨fun pins s σ H Q I ⟨e, d, ρ, S, sm, h⟩ => ?_⟩ (fun _ => rfl) (fun _ _ _ z => by cases z)
  simp only [evE] at h
  refine wpAny_Call_Name_kw (ld_glob I h1 h4 ?_ h2)
  cases es with
  | nil =>
    have := h0 rfl
    subst this
    simp only [evA, Out.bind_ok] at h
    exact PySem.W.callWith_K0 I.kIn h5 (o.calls f a h3 pins _ σ H [] [] [] [] Q I .nil (bindO_pos hp hn hl) (spc_of sm (l := []) rfl h))
  | cons e0 es =>
    rw [List.all_cons, Bool.and_eq_true] at hs
    refine PySem.W.callWith_K (h₀ := X.base) I.ok.mod.kin h5 ?_ (star_of hs.1) (stars_of hs.2)
    refine thn (hx.run pos pins _ σ H (fun vs H1 => vs.length = lenM m ∧ SpC c ex cf f σ vs H1 Q) I ?_) fun us s1 ⟨vs, H1, I1, r, q⟩ => ⟨I1.kIn, ?_⟩
    · have hh : ∀ (o : Out (List AV)), o = evA cf m ρ S → TPost c ex (fun _ d _ σ H x v => AvsR c d σ H x v) (NV.rb e d H ρ σ) σ o fun vs H1 => vs.length = lenM m ∧ SpC c ex cf f σ vs H1 Q := fun o eo => by
        rw [← eo] at h
        cases o with
        | ok l ρ1 S1 => exact fun vs d1 H1 s1 r1 => ⟨by rw [← r1.len]; exact evA_len eo.symm, spc_of (sm.comp s1) r1 h⟩
        | exn n w ρ1 S1 => exact fun d1 H1 s1 => h d1 H1 (sm.comp s1)
        | stuck => exact h
      exact ⟨_, d, ρ, S, sm.rb, hh _ rfl⟩
    · exact o.calls f a h3 pins s1 σ H1 vs us [] us Q I1 r (bindO_pos hp hn (by rw [← r.length, q.1, hl])) q.2
/-! ### by keywords -/
def kwN : List Keyword → Option (List Str)
  | [] => some []
  | ⟨some n, _, _⟩ :: r => (kwN r).map (n :: ·)
  | ⟨none, _, _⟩ :: _ => none
theorem kw_facts : ∀ {kws : List Keyword} {ks : List Str} {pos : Pos} {env : PySem.Env}, kwN kws = some ks → (backToKw pos (keywordEach kws env)).all (·.1.isSome) = true ∧ (backToKw pos (keywordEach kws env)).filterMap (·.1) = ks ∧ (backToKw pos (keywordEach kws env)).any (·.1.isNone) = false
  | [], ks, pos, env, h => by cases h; exact ⟨rfl, rfl, rfl⟩
  | ⟨none, _, _⟩ :: _, _, _, _, h => by cases h
  | ⟨some n, ee, q⟩ :: r, ks, pos, env, h => by
    simp only [kwN] at h
    cases q2 : kwN r with
    | none => rw [q2] at h; cases h
    | some t =>
      rw [q2] at h; cases h
      obtain ⟨h1, h2, h3⟩ := kw_facts (pos := pos) (env := env) q2
      exact ⟨h1, congrArg (n :: ·) h2, h3⟩
theorem pk_imp {e : List Keyword} {t t' : TA} (h : PK X e t) (k : ∀ σ H Q, t' σ H Q → t σ H Q) : PK X e t' := ⟨fun w pins s σ H Q I q => h.run w pins s σ H Q I (k σ H Q q)⟩
theorem ks_nil : PK X [] (TAs c ex (evA cf .nil)) := pk_imp pk_nil fun σ H Q ⟨e, d, ρ, S, s, h⟩ => by
  simp only [evA] at h
  exact h [] d H s rfl
theorem ks_cons {a b : M} {e : Expr} {nm : Option Str} {kp : Pos} {kws : List Keyword} (ha : PE X e (TAv c ex (evV cf a))) (hb : PK X kws (TAs c ex (evA cf b))) : PK X (⟨nm, e, kp⟩ :: kws) (TAs c ex (evA cf (.cons a b))) :=
  pk_imp (pk_cons ha hb) fun σ H Q ⟨e, d, ρ, S, s, h⟩ => by
    simp only [evA] at h
    refine s.tp h fun x ρ1 S1 v d1 H1 s1 r1 h1 => (s.comp s1).tp h1 fun xs ρ2 S2 vs d2 H2 s2 r2 h2 => ?_
    exact h2 _ d2 H2 ((s.comp s1).comp s2) ⟨v, vs, rfl, r1.mono s2.le0, r2⟩
/-- arguments with how many they are -/
theorem tas_len {m : M} {Q : List V → Hp → Prop} (h : TAs c ex (evA cf m) σ H Q) : TAs c ex (evA cf m) σ H fun vs H1 => vs.length = lenM m ∧ Q vs H1 := by
  obtain ⟨e, d, ρ, S, s, h⟩ := h
  refine ⟨e, d, ρ, S, s, ?_⟩
  have hh : ∀ (o : Out (List AV)), o = evA cf m ρ S → TPost c ex (fun _ d _ σ H x v => AvsR c d σ H x v) e σ o Q → TPost c ex (fun _ d _ σ H x v => AvsR c d σ H x v) e σ o fun vs H1 => vs.length = lenM m ∧ Q vs H1 := fun o eo h => by
    cases o with
    | ok l ρ1 S1 => exact fun vs d1 H1 s1 r1 => ⟨by rw [← r1.len]; exact evA_len eo.symm, h vs d1 H1 s1 r1⟩
    | exn n w ρ1 S1 => exact h
    | stuck => exact h
  exact hh _ rfl h
def kwB (ps ks : List Str) (perm : List Nat) (n : Nat) : Bool := decide (n ≤ ps.length) && (decide ((ps.take n ++ ks).Nodup) && (ks.all (fun x => decide (x ∈ ps)) && decide (pickL (ps.take n ++ ks) perm = some ps)))
theorem g_callk (o : CxOk c k ex cf X) {x : Str} {f : Nat} {ps ks : List Str} {perm : List Nat} {es : List Expr} {kws : List Keyword} {m mk : M} {p pos : Pos} (hg : glB k x = true) (hf : k.fns[f]? = some x) (hp : k.pars[f]? = some ps) (hk : kwN kws = some ks) (hb : kwB ps ks perm (lenM m) = true) (hlk : lenM mk = ks.length)
    (hx : PA X es (TAs c ex (evA cf m))) (hy : PK X kws (TAs c ex (evA cf mk))) (hs : es.all noStar = true) (h0 : es = [] → m = .nil) :
    EOk c ex X (.Call (.Name x p) es kws pos) (evE cf (.callk f perm m mk)) := by
  obtain ⟨h1, h2⟩ := gl_of o hg
  obtain ⟨a, h3, h4, h5⟩ := o.fnm f x hf
  unfold kwB at hb
  simp only [Bool.and_eq_true, decide_eq_true_eq, List.all_eq_true] at hb
  obtain ⟨b1, b2, b3, b4⟩ := hb
  obtain ⟨f1, f2, f3⟩ := kw_facts (pos := pos) (env := X.env) hk
  /- behind the places -/
  have mid : ∀ (pins : List (Addr × Obj)) (s1 : Shared) (σ : L2.St) (H1 : Hp) (us : List Value) (vs : List V) (Q : VK), Inv X pins σ H1 s1 → Vals vs us → vs.length = lenM m →
      TP c ex (fun _ d _ σ H x v => AvsR c d σ H x v) (evA cf mk) σ H1 (fun vs2 H2 => ∀ vals, pickL (vs ++ vs2) perm = some vals → SpC c ex cf f σ vals H2 Q) →
      wpAny (model X.prog X.w) X.A (evalAll ((backToKw pos (keywordEach kws X.env)).map (·.2))) (fun ws s₂ => X.K.In s₂.heap ∧ wpAny (model X.prog X.w) X.A (call (.ref a) ([] ++ us) (((backToKw pos (keywordEach kws X.env)).filterMap (·.1)).zip ws)) (EP X pins σ Q) X.xe s₂) X.xe s1 := fun pins s1 σ H1 us vs Q I1 r hl1 q => by
    refine thn (hy.run pos pins s1 σ H1 _ I1 (tas_len q)) fun ws s2 ⟨vs2, H2, I2, r2, hl2, q2⟩ => ⟨I2.kIn, ?_⟩
    rw [f2]
    have lu : us.length = lenM m := by rw [← r.length, hl1]
    have lw : ws.length = ks.length := by rw [← r2.length, hl2, hlk]
    have le : (ps.take us.length ++ ks).length = (us ++ ws).length := by rw [List.length_append, List.length_append, List.length_take, lw]; omega
    obtain ⟨vals, hv⟩ := pick_map (l' := us ++ ws) le (by rw [lu]; exact b4)
    obtain ⟨vv, hvv⟩ := pick_map (l' := vs ++ vs2) (by rw [le]; exact (r.append r2).length.symm) (by rw [lu]; exact b4)
    refine o.calls f a h3 pins s2 σ H2 vv ([] ++ us) (ks.zip ws) vals Q I2 (Vals.pick (r.append r2) hvv hv) ?_ (q2 vv hvv)
    refine ⟨ps, hp, fun fd P hd => ?_⟩
    exact bind_kw P hd lw (by rw [List.nil_append, lu]; exact b1) (by rw [List.nil_append, lu]; exact b2) b3 (by rw [List.nil_append, lu]; exact b4) hv
  refine .of_plain ⟨fun pins s σ H Q I ⟨e, d, ρ, S, sm, h⟩ => ?_⟩ (fun _ => rfl) (fun _ _ _ z => by cases z)
  simp only [evE] at h
  refine wpAny_Call_Name_kw (ld_glob I h1 h4 ?_ h2)
  have late : ∀ {e : Ent} {d : Wd} {ρ : Env} {S : Sto} {σ : L2.St} {H : Hp} {l1 : List AV} {vs : List V}, Sim c e d ρ S σ H → AvsR c d σ H l1 vs → TPost c ex (RvR c) e σ ((evA cf mk ρ S).bind fun l2 ρ S => match pickL (l1 ++ l2) perm with
      | some l => doCall cf f l ρ S
      | none => .stuck) Q → TP c ex (fun _ d _ σ H x v => AvsR c d σ H x v) (evA cf mk) σ H (fun vs2 H2 => ∀ vals, pickL (vs ++ vs2) perm = some vals → SpC c ex cf f σ vals H2 Q) := fun {e d ρ S σ H l1 vs} s r1 h => by
    refine s.tp h fun l2 ρ2 S2 vs2 d2 H2 s2 r2 h2 => fun vals hv => ?_
    split at h2
    · rename_i l hl
      exact spc_of (s.comp s2) (((r1.mono s2.le0).app r2).pick hl hv) h2
    · exact h2.elim
  cases es with
  | nil =>
    have := h0 rfl
    subst this
    simp only [evA, Out.bind_ok] at h
    refine PySem.W.callWith_KW0 (h₀ := X.base) I.ok.mod.kin h5 f1 ?_ (by rw [f3]; rfl)
    exact mid pins _ σ H [] [] Q I .nil rfl (late sm (l1 := []) rfl h)
  | cons e0 es =>
    rw [List.all_cons, Bool.and_eq_true] at hs
    refine PySem.W.callWith_KW (h₀ := X.base) I.ok.mod.kin h5 f1 ?_ (by rw [f3, star_of hs.1]; show ((false || (backTo pos (starEach es X.env)).any (·.1)) || false) = false; rw [stars_of hs.2]; rfl) (star_of hs.1)
    refine thn (hx.run pos pins _ σ H _ I (tas_len (Q := fun vs H1 => TP c ex (fun _ d _ σ H x v => AvsR c d σ H x v) (evA cf mk) σ H1 (fun vs2 H2 => ∀ vals, pickL (vs ++ vs2) perm = some vals → SpC c ex cf f σ vals H2 Q)) ?_)) fun us s1 ⟨vs, H1, I1, r, hl1, q⟩ => mid pins s1 σ H1 us vs Q I1 r hl1 q
    exact sm.tp h fun l1 ρ1 S1 vs d1 H1 s1 r1 hh => late (sm.comp s1) r1 hh
end
end NV
set_option Elab.async false
set_option linter.all false
set_option maxRecDepth 100000
set_option maxHeartbeats 1000000
/-! # What loops walk -/
namespace NV
open PySem PySem.Spec PyProof.Rows L2
section
variable {c : Cn} {k : Ck} {ex : EX} {cf : CallF} {X : Cx}
variable {e : Ent} {d d' : Wd} {ρ ρ' : Env} {S S' : Sto} {σ : L2.St} {H H' : Hp} {tg : Expr}
def ItR (c : Cn) (J : It) (ws : List W) (d : Wd) (H : Hp) : Prop := ∀ (d2 : Wd) (H2 : Hp), Le d H d2 H2 → (∀ a, d2.F a → H2 a ≠ none) → (∀ i, ws.length ≤ i → J.stop i H2) ∧
  ∀ (i : Nat) (w : W), ws[i]? = some w → J.go i H2 ∧ ∀ x H3, J.yld i H2 x H3 → ∃ N, Grow d2 H2 N H3 ∧ Rep c (d2.more N) H3 w x
def TItP (c : Cn) (ex : EX) (e : Ent) (σ : L2.St) (o : Out (List W)) (R : It → Hp → Prop) : Prop := match o with
  | .ok ws ρ' S' => ∀ J d' H', Sim c e d' ρ' S' σ H' → ItR c J ws d' H' → R J H'
  | .exn k w ρ' S' => ∀ d' H', Sim c e d' ρ' S' σ H' → ex k w d' σ H'
  | .stuck => False
def TIt (c : Cn) (ex : EX) (g : Env → Sto → Out (List W)) : TI := fun σ H R => ∃ e d ρ S, Sim c e d ρ S σ H ∧ TItP c ex e σ (g ρ S) R
theorem pi_imp {e : Expr} {t t' : TI} (h : PI X tg e t) (k : ∀ σ H R, t' σ H R → t σ H R) : PI X tg e t' := ⟨fun pins s σ H Q I q => h.run pins s σ H Q I (k σ H Q q)⟩
theorem Sim.stepI {α β : Type} {R' : Ent → Wd → Env → L2.St → Hp → α → β → Prop} (s : Sim c e d ρ S σ H) {o : Out α} {f : α → Env → Sto → Out (List W)} {Q : β → Hp → Prop} {Q' : It → Hp → Prop} (h : TItP c ex e σ (o.bind f) Q')
    (k : ∀ a ρ1 S1 b d1 H1, Sim c (NV.rb e d H ρ σ) d1 ρ1 S1 σ H1 → R' (NV.rb e d H ρ σ) d1 ρ1 σ H1 a b → TItP c ex e σ (f a ρ1 S1) Q' → Q b H1) : TPost c ex R' (NV.rb e d H ρ σ) σ o Q := by
  cases o with
  | ok a ρ1 S1 => exact fun b d1 H1 s1 r1 => k a ρ1 S1 b d1 H1 s1 r1 h
  | exn n w ρ1 S1 => exact fun d1 H1 s1 => h d1 H1 (s.comp s1)
  | stuck => exact h
theorem Sim.tpI {α β : Type} {R' : Ent → Wd → Env → L2.St → Hp → α → β → Prop} (s : Sim c e d ρ S σ H) {g : Env → Sto → Out α} {f : α → Env → Sto → Out (List W)} {Q : β → Hp → Prop} {Q' : It → Hp → Prop} (h : TItP c ex e σ ((g ρ S).bind f) Q')
    (k : ∀ a ρ1 S1 b d1 H1, Sim c (NV.rb e d H ρ σ) d1 ρ1 S1 σ H1 → R' (NV.rb e d H ρ σ) d1 ρ1 σ H1 a b → TItP c ex e σ (f a ρ1 S1) Q' → Q b H1) : TP c ex R' g σ H Q :=
  ⟨_, d, ρ, S, s.rb, s.stepI h k⟩
theorem Grow.refl : Grow d H (fun _ => False) H := ⟨fun _ _ h => h, fun _ z => z.elim⟩
/-! ### the iterators -/
theorem itr_l {a : Addr} {l : List W} {vs : List V} (hr : RepL c d H l vs) (hs : ∀ d2 H2, Le d H d2 H2 → SqL c.K H2 a vs) : ItR c (Itl c.K a) l d H := fun d2 H2 le dm => by
  refine ⟨fun i hi => ⟨vs, hs _ _ le, by rw [hr.length]; exact hi⟩, fun i w hw => ?_⟩
  obtain ⟨v, q1, q2⟩ := hr.getE hw
  refine ⟨⟨vs, v, hs _ _ le, q1⟩, fun x H3 ⟨e1, q⟩ => ?_⟩
  subst e1
  have := q vs (hs _ _ le)
  rw [q1] at this; cases this
  exact ⟨_, .refl, Rep.mono .more (Rep.mono le q2)⟩
theorem itr_t {a : Addr} {l : List W} {vs : List V} (hr : RepL c d H l vs) (hs : ∀ d2 H2, Le d H d2 H2 → SqT c.K H2 a vs) : ItR c (Itt c.K a) l d H := fun d2 H2 le dm => by
  refine ⟨fun i hi => ⟨vs, hs _ _ le, by rw [hr.length]; exact hi⟩, fun i w hw => ?_⟩
  obtain ⟨v, q1, q2⟩ := hr.getE hw
  refine ⟨⟨vs, v, hs _ _ le, q1⟩, fun x H3 ⟨e1, q⟩ => ?_⟩
  subst e1
  have := q vs (hs _ _ le)
  rw [q1] at this; cases this
  exact ⟨_, .refl, Rep.mono .more (Rep.mono le q2)⟩
theorem itr_s {z : Str} : ItR c (Its z) (z.cps.toList.map fun p => .str ⟨#[p]⟩) d H := fun d2 H2 le dm => by
  refine ⟨fun i hi => by show z.cps.size ≤ i; simpa using hi, fun i w hw => ?_⟩
  rw [List.getElem?_map] at hw
  cases q : z.cps.toList[i]? with
  | none => rw [q] at hw; cases hw
  | some p =>
    rw [q] at hw; cases hw
    have q' : z.cps[i]? = some p := by simpa using q
    have hi : i < z.cps.size := (Array.getElem?_eq_some_iff.mp q').1
    refine ⟨hi, fun x H3 ⟨e1, p', h1, h2⟩ => ?_⟩
    subst e1
    rw [q'] at h1; cases h1
    subst h2
    exact ⟨_, .refl, .strI⟩
theorem itr_r {lo : Int} {n : Nat} : ItR c (Itr lo n) ((List.range n).map fun (i : Nat) => .int (lo + i)) d H := fun d2 H2 le dm => by
  refine ⟨fun i hi => by show n ≤ i; simpa using hi, fun i w hw => ?_⟩
  have hi : i < n := by simpa using (List.getElem?_eq_some_iff.mp hw).1
  rw [List.getElem?_map, List.getElem?_range hi] at hw
  cases hw
  refine ⟨hi, fun x H3 ⟨e1, h1⟩ => ?_⟩
  subst e1 h1
  exact ⟨_, .refl, .intI⟩
theorem itr_c {lo cc : Int} {n : Nat} : ItR c (Itc lo cc n) ((List.range n).map fun (i : Nat) => .int (lo + i * cc)) d H := fun d2 H2 le dm => by
  refine ⟨fun i hi => by show n ≤ i; simpa using hi, fun i w hw => ?_⟩
  have hi : i < n := by simpa using (List.getElem?_eq_some_iff.mp hw).1
  rw [List.getElem?_map, List.getElem?_range hi] at hw
  cases hw
  refine ⟨hi, fun x H3 ⟨e1, h1⟩ => ?_⟩
  subst e1 h1
  exact ⟨_, .refl, .intI⟩
theorem enumL_at : ∀ {l : List W} {n i : Nat} {w : W}, (enumL n l)[i]? = some w → ∃ x, l[i]? = some x ∧ w = .tup [.int (n + i : Nat), x]
  | a :: r, n, 0, w, h => by cases h; exact ⟨a, rfl, rfl⟩
  | a :: r, n, i + 1, w, h => by
    obtain ⟨x, h1, h2⟩ := enumL_at (l := r) (n := n + 1) (i := i) (by simpa [enumL] using h)
    exact ⟨x, by simpa using h1, by rw [h2, show n + 1 + i = n + (i + 1) by omega]⟩
theorem enumL_len : ∀ {l : List W} {n : Nat}, (enumL n l).length = l.length
  | [], _ => rfl
  | a :: r, n => congrArg Nat.succ (enumL_len (l := r) (n := n + 1))
theorem pair_new {H2 : Hp} {d2 : Wd} {T : Addr} {w1 w2 : W} {x y : V} (hT : H2 T = none) (dm : ∀ a, d2.F a → H2 a ≠ none) (h1 : Rep c d2 H2 w1 x) (h2 : Rep c d2 H2 w2 y) : ∃ N, Grow d2 H2 N (upd H2 T (.tup [x, y])) ∧ Rep c (d2.more N) (upd H2 T (.tup [x, y])) (.tup [w1, w2]) (.ref T) := by
  refine ⟨(· = T), .one hT, ?_⟩
  simp only [Rep]
  exact ⟨T, _, rfl, .inl ⟨.inr rfl, upd_same⟩, RepL.mono ((Grow.one hT).le dm) (.cons h1 (.cons h2 .nil))⟩
theorem itr_e {a : Addr} {l : List W} {vs : List V} (hr : RepL c d H l vs) (hs : ∀ d2 H2, Le d H d2 H2 → SqL c.K H2 a vs) : ItR c (Ite c.K a) (enumL 0 l) d H := fun d2 H2 le dm => by
  refine ⟨fun i hi => ⟨vs, hs _ _ le, by rw [hr.length, ← enumL_len (n := 0)]; exact hi⟩, fun i w hw => ?_⟩
  obtain ⟨u, hu, rfl⟩ := enumL_at hw
  obtain ⟨v, q1, q2⟩ := hr.getE hu
  refine ⟨⟨vs, v, hs _ _ le, q1⟩, fun x H3 ⟨T, y, e1, e2, e3, q⟩ => ?_⟩
  have := q vs (hs _ _ le)
  rw [q1] at this; cases this
  subst e1 e3
  rw [Nat.zero_add]
  exact pair_new e2 dm .intI (Rep.mono le q2)
theorem zipL_at : ∀ {l t : List W} {i : Nat} {w : W}, (zipL l t)[i]? = some w → ∃ x y, l[i]? = some x ∧ t[i]? = some y ∧ w = .tup [x, y]
  | a :: r, b :: t, 0, w, h => by cases h; exact ⟨a, b, rfl, rfl, rfl⟩
  | a :: r, b :: t, i + 1, w, h => by
    obtain ⟨x, y, h1, h2, h3⟩ := zipL_at (l := r) (t := t) (i := i) (by simpa [zipL] using h)
    exact ⟨x, y, by simpa using h1, by simpa using h2, h3⟩
  | [], _, _, _, h => by simp [zipL] at h
  | _ :: _, [], _, _, h => by simp [zipL] at h
theorem zipL_len : ∀ {l t : List W} {i : Nat}, (zipL l t).length ≤ i → l.length ≤ i ∨ t.length ≤ i
  | [], _, i, _ => .inl (Nat.zero_le _)
  | _ :: _, [], i, _ => .inr (Nat.zero_le _)
  | a :: r, b :: t, 0, h => by simp [zipL] at h
  | a :: r, b :: t, i + 1, h => (zipL_len (l := r) (t := t) (i := i) (by simpa [zipL] using h)).imp Nat.succ_le_succ Nat.succ_le_succ
theorem itr_z {a b : Addr} {l t : List W} {vs us : List V} (hr : RepL c d H l vs) (hs : ∀ d2 H2, Le d H d2 H2 → SqL c.K H2 a vs) (hr2 : RepL c d H t us) (hs2 : ∀ d2 H2, Le d H d2 H2 → SqL c.K H2 b us) : ItR c (Itz c.K a b) (zipL l t) d H := fun d2 H2 le dm => by
  refine ⟨fun i hi => ⟨vs, us, hs _ _ le, hs2 _ _ le, by rw [hr.length, hr2.length]; exact zipL_len hi⟩, fun i w hw => ?_⟩
  obtain ⟨w1, w2, hu, hu2, rfl⟩ := zipL_at hw
  obtain ⟨v, q1, q2⟩ := hr.getE hu
  obtain ⟨v2, q3, q4⟩ := hr2.getE hu2
  refine ⟨⟨vs, us, v, v2, hs _ _ le, hs2 _ _ le, q1, q3⟩, fun x H3 ⟨T, y, y2, e1, e2, e3, q, q'⟩ => ?_⟩
  have := q vs (hs _ _ le)
  rw [q1] at this; cases this
  have := q' us (hs2 _ _ le)
  rw [q3] at this; cases this
  subst e1 e3
  exact pair_new e2 dm (Rep.mono le q2) (Rep.mono le q4)
theorem itr_zT {a b : Addr} {l t : List W} {vs us : List V} (hr : RepL c d H l vs) (hs : ∀ d2 H2, Le d H d2 H2 → SqT c.K H2 a vs) (hr2 : RepL c d H t us) (hs2 : ∀ d2 H2, Le d H d2 H2 → SqT c.K H2 b us) : ItR c (RZ.ItzT c.K a b) (zipL l t) d H := fun d2 H2 le dm => by
  refine ⟨fun i hi => ⟨vs, us, hs _ _ le, hs2 _ _ le, by rw [hr.length, hr2.length]; exact zipL_len hi⟩, fun i w hw => ?_⟩
  obtain ⟨w1, w2, hu, hu2, rfl⟩ := zipL_at hw
  obtain ⟨v, q1, q2⟩ := hr.getE hu
  obtain ⟨v2, q3, q4⟩ := hr2.getE hu2
  refine ⟨⟨vs, us, v, v2, hs _ _ le, hs2 _ _ le, q1, q3⟩, fun x H3 ⟨T, y, y2, e1, e2, e3, q, q'⟩ => ?_⟩
  have := q vs (hs _ _ le)
  rw [q1] at this; cases this
  have := q' us (hs2 _ _ le)
  rw [q3] at this; cases this
  subst e1 e3
  exact pair_new e2 dm (Rep.mono le q2) (Rep.mono le q4)
/-! ### settled lists, tuples stay -/
theorem Rep.lstS {l : List W} {v : V} (h : Rep c d H (.lst l) v) : ∃ a vs, v = .ref a ∧ RepL c d H l vs ∧ ∀ d2 H2, Le d H d2 H2 → SqL c.K H2 a vs := by
  simp only [Rep] at h
  obtain ⟨a, vs, e, h1, h2, h3⟩ := h
  exact ⟨a, vs, e, h3, fun d2 H2 le => .of (by rw [(le.f a h1).2]; exact h2)⟩
theorem Rep.flstS {l : List W} {v : V} (h : Rep c d H (.flst l) v) : ∃ a vs, v = .ref a ∧ RepL c d H l vs ∧ ∀ d2 H2, Le d H d2 H2 → SqL c.K H2 a vs := by
  have h0 := h
  simp only [Rep] at h
  obtain ⟨a, vs, e, h1, h3⟩ := h
  refine ⟨a, vs, e, h3, fun d2 H2 le => ?_⟩
  rcases h1 with ⟨h1, o, h2⟩ | h1
  · exact .inl (.inr ⟨o, by rw [(le.f a h1).2]; exact h2⟩)
  · exact h1.sq H2
theorem Rep.tupS {l : List W} {v : V} (h : Rep c d H (.tup l) v) : ∃ a vs, v = .ref a ∧ RepL c d H l vs ∧ ∀ d2 H2, Le d H d2 H2 → SqT c.K H2 a vs := by
  simp only [Rep] at h
  obtain ⟨a, vs, e, h1, h3⟩ := h
  refine ⟨a, vs, e, h3, fun d2 H2 le => ?_⟩
  rcases h1 with ⟨h1, h2⟩ | h1
  · exact .inl (.inl (by rw [(le.f a h1).2]; exact h2))
  · exact h1.sq H2
/-! ### the written forms -/
/-- a list, a tuple, a text -/
def iAny (K : PySem.W.Frag) (te : TE) : TI := fun σ H R => te σ H fun x H1 => (∃ a, x = .ref a ∧ (∃ xs, SqL K H1 a xs) ∧ R (Itl K a) H1) ∨ (∃ a, x = .ref a ∧ (∃ xs, SqT K H1 a xs) ∧ R (Itt K a) H1) ∨ ∃ z, x = .str z ∧ R (Its z) H1
theorem pi_any {e : Expr} {te : TE} (he : PE X e te) : PI X tg e (iAny X.K te) := by
  refine ⟨fun pins s σ H R I h => ?_⟩
  refine thn (he.run pins s σ H _ I h) fun v s1 ⟨x, H1, I1, r1, q1⟩ => ?_
  rcases q1 with ⟨a, e, ⟨xs, hq⟩, q⟩ | ⟨a, e, ⟨xs, hq⟩, q⟩ | ⟨z, e, q⟩
  · subst e
    cases r1
    obtain ⟨its, rv, p, hz⟩ := I1.list hq
    refine wpAny_pyIter_list p.isList ?_
    refine ⟨s1.heap.objs.size, [s1.heap.objs.size], _, _, H1, rfl, I1.kept (t' := s1.toks) fun b o e => Heap.get?_push_of_some _ e, turn_list a _, ⟨_, Heap.get?_push_size _ rfl, rfl, rfl⟩, fun b hb => ?_, q⟩
    have e : b = s1.heap.objs.size := by simpa using hb
    subst e
    exact I1.fpOk (Nat.le_refl _) (I1.hok.fresh (Nat.le_refl _))
  · subst e
    cases r1
    obtain ⟨its, rv, p, hz⟩ := I1.tuple hq
    refine wpAny_pyIter_tuple (show s1.heap.IsTuple a its.toArray from p) ?_
    refine ⟨s1.heap.objs.size, [s1.heap.objs.size], _, _, H1, rfl, I1.kept (t' := s1.toks) fun b o e => Heap.get?_push_of_some _ e, turn_tuple a _, ⟨_, Heap.get?_push_size _ rfl, rfl, rfl⟩, fun b hb => ?_, q⟩
    have e : b = s1.heap.objs.size := by simpa using hb
    subst e
    exact I1.fpOk (Nat.le_refl _) (I1.hok.fresh (Nat.le_refl _))
  · subst e
    obtain ⟨t, rfl⟩ := r1
    cases ha : z.cps.all (· < 128)
    · exact wpAny_pyIter_wide ha (pi_one (tk := s1.toks) I1 _ (turn_str _ z t "str_iterator" (.inr rfl)) ⟨_, Heap.get?_push_size _ rfl, rfl, rfl⟩ q)
    · exact wpAny_pyIter_ascii ha (pi_one (tk := s1.toks) I1 _ (turn_str _ z t "str_ascii_iterator" (.inl rfl)) ⟨_, Heap.get?_push_size _ rfl, rfl, rfl⟩ q)
theorem g_seq (o : CxOk c k ex cf X) {a : Expr} {m : M} (ha : EOk c ex X a (evE cf m)) : PI X tg a (TIt c ex (evI cf (.seq m))) := pi_imp (pi_any ha.pe) fun σ H R ⟨e, d, ρ, S, s, h⟩ => by
  simp only [evI] at h
  refine s.tpI h fun r ρ1 S1 v d1 H1 s1 r1 h1 => ?_
  obtain ⟨d2, s2, le, r2⟩ := (s.comp s1).frz (r1.up s)
  rw [o.K]
  cases hr : r.frz <;> rw [hr] at h1 r2 <;> first | exact h1.elim | skip
  · rename_i z
    have r2 : v = .str z := by simpa only [Rep] using r2
    exact .inr (.inr ⟨z, r2, h1 _ d2 H1 s2 itr_s⟩)
  · obtain ⟨a, vs, rfl, q1, q2⟩ := r2.tupS
    exact .inr (.inl ⟨a, rfl, ⟨vs, q2 _ _ .refl⟩, h1 _ d2 H1 s2 (itr_t q1 q2)⟩)
  · obtain ⟨a, vs, rfl, q1, q2⟩ := r2.lstS
    exact .inl ⟨a, rfl, ⟨vs, q2 _ _ .refl⟩, h1 _ d2 H1 s2 (itr_l q1 q2)⟩
  · obtain ⟨a, vs, rfl, q1, q2⟩ := r2.flstS
    exact .inl ⟨a, rfl, ⟨vs, q2 _ _ .refl⟩, h1 _ d2 H1 s2 (itr_l q1 q2)⟩
theorem starsEq : ∀ {es : List Expr} {env : PySem.Env}, es.all noStar = true → starEach es env = es.map fun e => (false, eval e env)
  | [], _, _ => rfl
  | e :: es, env, h => by
    rw [List.all_cons, Bool.and_eq_true] at h
    rw [star_of h.1, starsEq h.2]; rfl
theorem RepL.tail1 {w : W} {r : List W} {vs : List V} (h : RepL c d H (w :: r) vs) : ∃ v t, vs = v :: t ∧ Rep c d H w v ∧ RepL c d H r t := h
theorem rng_key {m : M} {n : Nat} (hl : lenM m = n) {R : It → Hp → Prop} {P : List V → Hp → Prop} (h : TIt c ex (evI cf (.rng m)) σ H R)
    (kk : ∀ d ws vs H, RepL c d H ws vs → ws.length = n → ∀ r, rngL ws = some r → (∀ J, ItR c J r d H → R J H) → P vs H) : TAs c ex (evA cf m) σ H P := by
  obtain ⟨e, d, ρ, S, s, h⟩ := h
  simp only [evI] at h
  refine ⟨_, d, ρ, S, s.rb, ?_⟩
  cases q : evA cf m ρ S with
  | stuck => rw [q] at h; exact h
  | exn n w ρ1 S1 => rw [q] at h; exact fun d1 H1 s1 => h d1 H1 (s.comp s1)
  | ok l ρ1 S1 =>
    rw [q, Out.bind_ok] at h
    intro vs d1 H1 s1 r1
    cases q2 : vals l with
    | none => rw [q2] at h; exact h.elim
    | some ws =>
      rw [q2] at h
      have rr := vals_rep r1 q2
      have hlen : ws.length = n := by rw [← rr.length, ← r1.len, evA_len q, hl]
      show P vs H1
      cases q3 : rngL ws with
      | none => simp only [q3] at h; exact h.elim
      | some r =>
        simp only [q3] at h
        exact kk d1 ws vs H1 rr hlen r q3 fun J hJ => h J d1 H1 (s.comp s1) hJ
theorem g_rng1 (o : CxOk c k ex cf X) {a : Expr} {m : M} {p pos : Pos} (hg : glB k "range" = true) (hf : ("range" : Str) ∈ k.free) (hx : PA X [a] (TAs c ex (evA cf m))) (hs : [a].all noStar = true) (hl : lenM m = 1) :
    PI X tg (.Call (.Name "range" p) [a] [] pos) (TIt c ex (evI cf (.rng m))) := by
  obtain ⟨h1, h2⟩ := gl_of o hg
  refine pi_imp (pi_range1 h1 (o.free _ hf) hx (starsEq hs)) fun σ H R h => rng_key hl h fun d ws vs H1 rr hlen r hr kk => ?_
  match ws, hlen with
  | [w], hl1 =>
    obtain ⟨v, t, rfl, v1, v2⟩ := rr.tail1
    have v2 : t = [] := v2
    subst v2
    cases w <;> first | (cases hr; done) | skip
    rename_i n
    simp only [rngL] at hr
    split at hr
    · rename_i hz
      cases hr
      rw [Bool.and_eq_true, decide_eq_true_eq, decide_eq_true_eq] at hz
      have v1 : v = .int n := by simpa only [Rep] using v1
      refine ⟨n, by rw [v1], hz.1, hz.2, kk _ ?_⟩
      have := itr_r (c := c) (d := d) (H := H1) (lo := 0) (n := n.toNat)
      simpa using this
    · cases hr
theorem g_rng2 (o : CxOk c k ex cf X) {a b : Expr} {m : M} {p pos : Pos} (hg : glB k "range" = true) (hf : ("range" : Str) ∈ k.free) (hx : PA X [a, b] (TAs c ex (evA cf m))) (hs : [a, b].all noStar = true) (hl : lenM m = 2) :
    PI X tg (.Call (.Name "range" p) [a, b] [] pos) (TIt c ex (evI cf (.rng m))) := by
  obtain ⟨h1, h2⟩ := gl_of o hg
  rw [List.all_cons, Bool.and_eq_true] at hs
  refine pi_imp (pi_range2 h1 (o.free _ hf) hx (by rw [star_of hs.1, starsEq hs.2]; rfl) (starsEq hs.2)) fun σ H R h => rng_key hl h fun d ws vs H1 rr hlen r hr kk => ?_
  match ws, hlen with
  | [w, w2], hl1 =>
    obtain ⟨v, t, rfl, v1, v2⟩ := rr.tail1
    obtain ⟨v', t', rfl, v1', v2'⟩ := v2.tail1
    have v2' : t' = [] := v2'
    subst v2'
    cases w <;> first | (cases hr; done) | skip
    cases w2 <;> first | (cases hr; done) | skip
    rename_i m n
    simp only [rngL] at hr
    split at hr
    · rename_i hz
      cases hr
      simp only [Bool.and_eq_true, decide_eq_true_eq] at hz
      have v1 : v = .int m := by simpa only [Rep] using v1
      have v1' : v' = .int n := by simpa only [Rep] using v1'
      exact ⟨m, n, by rw [v1, v1'], ⟨hz.1.1, hz.1.2, hz.2.1, hz.2.2⟩, kk _ itr_r⟩
    · cases hr
theorem g_rng3 (o : CxOk c k ex cf X) {a b z : Expr} {m : M} {p pos : Pos} (hg : glB k "range" = true) (hf : ("range" : Str) ∈ k.free) (hx : PA X [a, b, z] (TAs c ex (evA cf m))) (hs : [a, b, z].all noStar = true) (hl : lenM m = 3) :
    PI X tg (.Call (.Name "range" p) [a, b, z] [] pos) (TIt c ex (evI cf (.rng m))) := by
  obtain ⟨h1, h2⟩ := gl_of o hg
  rw [List.all_cons, Bool.and_eq_true] at hs
  refine pi_imp (pi_range3 h1 (o.free _ hf) hx (star_of hs.1) (stars_of hs.2)) fun σ H R h => rng_key hl h fun d ws vs H1 rr hlen r hr kk => ?_
  match ws, hlen with
  | [w, w2, w3], hl1 =>
    obtain ⟨v, t, rfl, v1, v2⟩ := rr.tail1
    obtain ⟨v', t', rfl, v1', v2'⟩ := v2.tail1
    obtain ⟨v'', t'', rfl, v1'', v2''⟩ := v2'.tail1
    have v2'' : t'' = [] := v2''
    subst v2''
    cases w <;> first | (cases hr; done) | skip
    cases w2 <;> first | (cases hr; done) | skip
    cases w3 <;> first | (cases hr; done) | skip
    rename_i m n q
    simp only [rngL] at hr
    split at hr
    · rename_i hz
      cases hr
      simp only [Bool.and_eq_true, decide_eq_true_eq] at hz
      have v1 : v = .int m := by simpa only [Rep] using v1
      have v1' : v' = .int n := by simpa only [Rep] using v1'
      have v1'' : v'' = .int q := by simpa only [Rep] using v1''
      exact ⟨m, n, q, _, by rw [v1, v1', v1''], ⟨hz.1.1, hz.1.2, hz.2.1, (Int.toNat_of_nonneg hz.2.2).symm⟩, kk _ itr_c⟩
    · cases hr
theorem vals_key {m : M} {mi : M} {f : List W → Option (List W)} {n : Nat} (hl : lenM m = n) (hm : ∀ ρ S, evI cf mi ρ S = (evA cf m ρ S).bind fun l ρ S => match (vals l).bind f with
      | some r => .ok r ρ S
      | none => .stuck) {R : It → Hp → Prop} {P : List V → Hp → Prop} (h : TIt c ex (evI cf mi) σ H R)
    (kk : ∀ d ws vs H, RepL c d H ws vs → ws.length = n → ∀ r, f ws = some r → (∀ J, ItR c J r d H → R J H) → P vs H) : TAs c ex (evA cf m) σ H P := by
  obtain ⟨e, d, ρ, S, s, h⟩ := h
  rw [hm] at h
  refine ⟨_, d, ρ, S, s.rb, ?_⟩
  cases q : evA cf m ρ S with
  | stuck => rw [q] at h; exact h
  | exn n w ρ1 S1 => rw [q] at h; exact fun d1 H1 s1 => h d1 H1 (s.comp s1)
  | ok l ρ1 S1 =>
    rw [q, Out.bind_ok] at h
    intro vs d1 H1 s1 r1
    cases q2 : vals l with
    | none => rw [q2] at h; exact h.elim
    | some ws =>
      rw [q2, Option.bind_some] at h
      have rr := vals_rep r1 q2
      have hlen : ws.length = n := by rw [← rr.length, ← r1.len, evA_len q, hl]
      show P vs H1
      cases q3 : f ws with
      | none => simp only [q3] at h; exact h.elim
      | some r =>
        simp only [q3] at h
        exact kk d1 ws vs H1 rr hlen r q3 fun J hJ => h J d1 H1 (s.comp s1) hJ
def enumW : List W → Option (List W)
  | [.lst l] => some (enumL 0 l)
  | [.flst l] => some (enumL 0 l)
  | _ => none
def zipWW : List W → Option (List W)
  | [a, b] => zipW a b
  | _ => none
theorem g_enum (o : CxOk c k ex cf X) {a : Expr} {m : M} {p pos tpos : Pos} {elts : List Expr} {kk : Nat} (hg : glB k "enumerate" = true) (hf : ("enumerate" : Str) ∈ k.free) (hx : PA X [a] (TAs c ex (evA cf m))) (hs : [a].all noStar = true) (hl : lenM m = 1) :
    PI X (.Tuple elts kk tpos) (.Call (.Name "enumerate" p) [a] [] pos) (TIt c ex (evI cf (.enum m))) := by
  obtain ⟨h1, h2⟩ := gl_of o hg
  refine pi_imp (pi_enum h1 (o.free _ hf) hx (starsEq hs)) fun σ H R h => vals_key (f := enumW) hl (fun ρ S => ?_) h fun d ws vs H1 rr hlen r hr kk => ?_
  · simp only [evI]
    congr 1
    funext l ρ S
    cases vals l with
    | none => rfl
    | some ws =>
      rw [Option.bind_some]
      unfold enumW
      split <;> (try rfl)
      · rename_i h; cases h; rfl
      · rename_i h; cases h; rfl
      · rename_i h1 h2
        split
        · rename_i hh; split at hh
          · exact absurd rfl (h1 _)
          · exact absurd rfl (h2 _)
          · cases hh
        · rfl
  · rw [o.K]
    unfold enumW at hr
    split at hr
    · cases hr
      obtain ⟨v, t, rfl, v1, v2⟩ := rr.tail1
      have v2 : t = [] := v2
      subst v2
      obtain ⟨a, us, rfl, q1, q2⟩ := v1.lstS
      exact ⟨a, us, rfl, q2 _ _ .refl, kk _ (itr_e q1 q2)⟩
    · cases hr
      obtain ⟨v, t, rfl, v1, v2⟩ := rr.tail1
      have v2 : t = [] := v2
      subst v2
      obtain ⟨a, us, rfl, q1, q2⟩ := v1.flstS
      exact ⟨a, us, rfl, q2 _ _ .refl, kk _ (itr_e q1 q2)⟩
    · cases hr
theorem g_zip (o : CxOk c k ex cf X) {a b : Expr} {m : M} {p pos tpos : Pos} {elts : List Expr} {kk : Nat} (hg : glB k "zip" = true) (hf : ("zip" : Str) ∈ k.free) (hx : PA X [a, b] (TAs c ex (evA cf m))) (hs : [a, b].all noStar = true) (hl : lenM m = 2) :
    PI X (.Tuple elts kk tpos) (.Call (.Name "zip" p) [a, b] [] pos) (TIt c ex (evI cf (.zip m))) := by
  obtain ⟨h1, h2⟩ := gl_of o hg
  rw [List.all_cons, Bool.and_eq_true] at hs
  refine pi_imp (RZ.pi_zipA h1 (o.free _ hf) hx (star_of hs.1) (stars_of hs.2)) fun σ H R h => vals_key (f := zipWW) hl (fun ρ S => ?_) h fun d ws vs H1 rr hlen r hr kk => ?_
  · simp only [evI]
    congr 1
    funext l ρ S
    cases vals l with
    | none => rfl
    | some ws =>
      rw [Option.bind_some]
      unfold zipWW
      split
      · rename_i h; cases h; rfl
      · rename_i h1
        split
        · rename_i hh; split at hh
          · exact absurd rfl (h1 _ _)
          · cases hh
        · rfl
  · rw [o.K]
    match ws, hlen with
    | [w1, w2], hl1 =>
      obtain ⟨v, t, rfl, v1, v2⟩ := rr.tail1
      obtain ⟨v', t', rfl, v1', v2'⟩ := v2.tail1
      have v2' : t' = [] := v2'
      subst v2'
      simp only [zipWW] at hr
      unfold zipW at hr
      split at hr
      · cases hr
        obtain ⟨a, us, rfl, q1, q2⟩ := v1.lstS
        obtain ⟨b, ys, rfl, q3, q4⟩ := v1'.lstS
        exact ⟨a, b, us, ys, rfl, .inl ⟨q2 _ _ .refl, q4 _ _ .refl, kk _ (itr_z q1 q2 q3 q4)⟩⟩
      · cases hr
        obtain ⟨a, us, rfl, q1, q2⟩ := v1.tupS
        obtain ⟨b, ys, rfl, q3, q4⟩ := v1'.tupS
        exact ⟨a, b, us, ys, rfl, .inr ⟨q2 _ _ .refl, q4 _ _ .refl, kk _ (itr_zT q1 q2 q3 q4)⟩⟩
      · cases hr
end
end NV
set_option Elab.async false
set_option linter.all false
set_option maxRecDepth 100000
set_option maxHeartbeats 1000000
/-! # Targets, comprehensions -/
namespace NV
open PySem PySem.Spec PyProof.Rows L2
section
variable {c : Cn} {k : Ck} {ex exB : EX} {cf : CallF} {X : Cx}
variable {e : Ent} {d d' : Wd} {ρ ρ' : Env} {S S' : Sto} {σ : L2.St} {H H' : Hp} {tg : Expr}
theorem freeS_len {i : Nat} (h : freeS ρ i = true) : i < ρ.length := by
  unfold freeS at h
  rw [Bool.and_eq_true, decide_eq_true_eq] at h
  exact h.1
theorem freeS_own {i : Nat} {l : Bool × List W} (h : freeS ρ i = true) (q : ρ[i]? = some (some (.own l))) : l.1 = false := by
  unfold freeS at h
  rw [Bool.and_eq_true, sget_iff.mpr q] at h
  simpa using h.2
/-- a slot given a value -/
theorem Sim.put (s : Sim c e d ρ S σ H) {i : Nat} {sv : SV} {v : V} (hf : freeS ρ i = true) (hv : SvR c d H sv v) (ho : ∀ l, sv = .own l → ∀ a, v = .ref a → (e.B a ∨ e.H a = none) ∧ ¬ owns ρ σ a) :
    Sim c e d (ρ.set i (some sv)) S (σ.set i (some v)) H := by
  have hi := freeS_len hf
  have hi2 : i < σ.length := by rw [← s.len]; exact hi
  have back : ∀ j b, ownAt (ρ.set i (some sv)) (σ.set i (some v)) j b → (j ≠ i ∧ ownAt ρ σ j b) ∨ (j = i ∧ (∃ l, sv = .own l) ∧ v = .ref b) := fun j b ⟨⟨k, z⟩, z2⟩ => by
    by_cases hj : j = i
    · subst hj
      rw [List.getElem?_set_self hi] at z
      rw [List.getElem?_set_self hi2] at z2
      cases z; cases z2
      exact .inr ⟨rfl, ⟨_, rfl⟩, rfl⟩
    · rw [List.getElem?_set_ne (Ne.symm hj)] at z z2
      exact .inl ⟨hj, ⟨k, z⟩, z2⟩
  exact {
    le0 := s.le0
    dom := s.dom
    fr := s.fr
    new := s.new
    mun := s.mun
    dm := s.dm
    mlen := s.mlen
    nodup := s.nodup
    cell := s.cell
    len := by rw [List.length_set, List.length_set]; exact s.len
    slot := fun j sv' q => by
      by_cases hj : j = i
      · subst hj
        rw [List.getElem?_set_self hi] at q
        cases q
        exact ⟨v, by rw [List.getElem?_set_self hi2], hv⟩
      · rw [List.getElem?_set_ne (Ne.symm hj)] at q ⊢
        exact s.slot j sv' q
    own := fun j b hb => by
      rcases back j b hb with ⟨_, z⟩ | ⟨_, ⟨l, z⟩, z2⟩
      · exact s.own j b z
      · exact (ho l z b z2).1
    inj := fun j j' b h1 h2 => by
      rcases back j b h1 with ⟨n1, z⟩ | ⟨n1, ⟨l, z⟩, z2⟩ <;> rcases back j' b h2 with ⟨n1', z'⟩ | ⟨n1', ⟨l', z'⟩, z2'⟩
      · exact s.inj j j' b z z'
      · exact absurd ⟨j, z⟩ (ho l' z' b z2').2
      · exact absurd ⟨j', z'⟩ (ho l z b z2).2
      · rw [n1, n1']
    par := fun p hp => by
      obtain ⟨q1, l, q2⟩ := s.par p hp
      have hj : p.1 ≠ i := fun hj => by
        subst hj
        have := freeS_own hf q2
        cases this
      rw [List.getElem?_set_ne (Ne.symm hj), List.getElem?_set_ne (Ne.symm hj)]
      exact ⟨q1, l, q2⟩ }
theorem Sim.putV (s : Sim c e d ρ S σ H) {i : Nat} {w : W} {v : V} (hf : freeS ρ i = true) (hv : Rep c d H w v) : Sim c e d (ρ.set i (some (.val w))) S (σ.set i (some v)) H ∧ ∀ a, owns (ρ.set i (some (.val w))) (σ.set i (some v)) a → owns ρ σ a := by
  refine ⟨s.put hf hv (fun l z => by cases z), fun a ⟨j, ⟨k, z⟩, z2⟩ => ?_⟩
  have hi := freeS_len hf
  by_cases hj : j = i
  · subst hj; rw [List.getElem?_set_self hi] at z; cases z
  · rw [List.getElem?_set_ne (Ne.symm hj)] at z z2
    exact ⟨j, ⟨k, z⟩, z2⟩

/-! ### targets -/
def slotsT : M → List Nat
  | .tnm i => [i]
  | .ttup ts => slotsT ts
  | .cons a b => slotsT a ++ slotsT b
  | _ => []
def TGt (c : Cn) (m : M) : TG := fun v σ H Q => ∃ e d ρ S w, Sim c e d ρ S σ H ∧ Rep c d H w v ∧ ∃ ρ', asgT m w ρ = some ρ' ∧
  ∀ σ', Sim c e d ρ' S σ' H → (∀ vs, (∀ i ∈ slotsT m, i ∈ vs) → wipe σ' vs = wipe σ vs) → (∀ a, owns ρ' σ' a → owns ρ σ a) → Q σ' H
def TGts (c : Cn) (m : M) : TGs := fun us σ H Q => ∃ e d ρ S ws, Sim c e d ρ S σ H ∧ RepL c d H ws us ∧ ∃ ρ', asgT.asgTs m ws ρ = some ρ' ∧
  ∀ σ', Sim c e d ρ' S σ' H → (∀ vs, (∀ i ∈ slotsT m, i ∈ vs) → wipe σ' vs = wipe σ vs) → (∀ a, owns ρ' σ' a → owns ρ σ a) → Q σ' H
theorem pg_imp {e : Expr} {t t' : TG} (h : PG X e t) (k : ∀ v σ H Q, t' v σ H Q → t v σ H Q) : PG X e t' := ⟨fun pins s σ H v u Q I r q => h.run pins s σ H v u Q I r (k v σ H Q q)⟩
theorem pgs_imp {e : List Expr} {t t' : TGs} (h : PGs X e t) (k : ∀ v σ H Q, t' v σ H Q → t v σ H Q) : PGs X e t' := ⟨fun pins s σ H v u Q I r q => h.run pins s σ H v u Q I r (k v σ H Q q)⟩
theorem wipe_set {i : Nat} {v : Option V} : ∀ {vs : List Nat} {σ : L2.St}, i ∈ vs → wipe (σ.set i v) vs = wipe σ vs
  | j :: vs, σ, h => by
    unfold wipe
    by_cases hi : i ∈ vs
    · rw [wipe_set hi]
    · rcases List.mem_cons.mp h with z | z
      · subst z
        have : ∀ {us : List Nat} {τ : L2.St}, i ∉ us → wipe (τ.set i v) us = (wipe τ us).set i v := fun {us} => by
          induction us with
          | nil => intro τ _; rfl
          | cons a us ih =>
            intro τ hn
            unfold wipe
            rw [ih fun z => hn (List.mem_cons_of_mem _ z), List.set_comm]
            intro z; subst z; exact hn (List.mem_cons_self ..)
        rw [this hi, List.set_set]
      · exact absurd z hi
def asgB (k : Ck) (i : Nat) (x : Str) : Bool := decide (k.N[i]? = some x) && (decide (k.sc.names.lookup x = some .local) || (k.top && decide (k.sc.names.lookup x = some .cell)))
theorem asg_loc (o : CxOk c k ex cf X) {i : Nat} {x : Str} (h : asgB k i x = true) : X.N[i]? = some x ∧ L2.Loc X.env.scope x ∧ (X.fn x = true ∨ X.env.scope.names.lookup x = some .local) := by
  unfold asgB at h
  rw [Bool.and_eq_true, decide_eq_true_eq, Bool.or_eq_true, decide_eq_true_eq, Bool.and_eq_true, decide_eq_true_eq] at h
  refine ⟨by rw [o.N]; exact h.1, ?_⟩
  unfold L2.Loc
  rw [o.sc]
  rcases h.2 with q | ⟨q1, q2⟩
  · exact ⟨.inl q, .inr q⟩
  · exact ⟨.inr q2, .inl (o.fnt q1 x)⟩
theorem tg_nm (o : CxOk c k ex cf X) {i : Nat} {x : Str} {pos : Pos} (h : asgB k i x = true) : PG X (.Name x pos) (TGt c (.tnm i)) := by
  obtain ⟨h1, h2, h3⟩ := asg_loc o h
  refine pg_imp (pg_name o.nd h1 h2 h3) fun v σ H Q ⟨e, d, ρ, S, w, s, r, ρ', q, kk⟩ => ?_
  simp only [asgT, putT] at q
  split at q
  · rename_i hf
    cases q
    obtain ⟨s2, ho⟩ := s.putV hf r
    exact kk _ s2 (fun vs hv => wipe_set (hv i (List.mem_cons_self ..))) ho
  · cases q
theorem tgs_nil : PGs X [] (TGts c .nil) := pgs_imp pgs_nil fun vs σ H Q ⟨e, d, ρ, S, ws, s, r, ρ', q, kk⟩ => by
  cases ws with
  | nil =>
    have r : vs = [] := r
    cases q
    exact ⟨r, kk σ s (fun _ _ => rfl) fun _ z => z⟩
  | cons w ws => cases q
def isTgt : Expr → Bool
  | .Name _ _ => true
  | .Tuple _ _ _ => true
  | _ => false
theorem asgEach {e : Expr} {es : List Expr} {env : PySem.Env} (h : isTgt e = true) : assignEach (e :: es) env = (false, assign e env) :: assignEach es env := by
  cases e <;> first | rfl | cases h
theorem tgs_cons {e : Expr} {es : List Expr} {a b : M} (ha : PG X e (TGt c a)) (hb : PGs X es (TGts c b)) (ht : isTgt e = true) : PGs X (e :: es) (TGts c (.cons a b)) :=
  pgs_imp (pgs_cons ha hb (by rw [asgEach ht]; rfl)) fun vs σ H Q ⟨e, d, ρ, S, ws, s, r, ρ', q, kk⟩ => by
    cases ws with
    | nil => cases q
    | cons w ws =>
      simp only [asgT.asgTs] at q
      split at q
      · rename_i ρ1 q1
        obtain ⟨v, t, rfl, r1, r2⟩ := r.tail1
        refine ⟨v, t, rfl, e, d, ρ, S, w, s, r1, ρ1, q1, fun σ1 s1 hw1 ho1 => ?_⟩
        refine ⟨e, d, ρ1, S, ws, s1, r2, ρ', q, fun σ2 s2 hw2 ho2 => ?_⟩
        exact kk σ2 s2 (fun vs hv => (hw2 vs fun i hi => hv i (List.mem_append_right _ hi)).trans (hw1 vs fun i hi => hv i (List.mem_append_left _ hi))) fun a z => ho1 a (ho2 a z)
      · cases q
theorem asgEach_len {es : List Expr} {env : PySem.Env} (h : es.all isTgt = true) : (assignEach es env).length = es.length ∧ (assignEach es env).findIdx? (·.1) = none := by
  induction es with
  | nil => exact ⟨rfl, rfl⟩
  | cons e es ih =>
    rw [List.all_cons, Bool.and_eq_true] at h
    obtain ⟨h1, h2⟩ := ih h.2
    rw [asgEach h.1]
    refine ⟨congrArg Nat.succ h1, ?_⟩
    rw [List.findIdx?_cons]
    simp [h2]
theorem tg_tup (o : CxOk c k ex cf X) {es : List Expr} {m : M} {j : Nat} {pos : Pos} (h : PGs X es (TGts c m)) (ht : es.all isTgt = true) (hl : lenM m = es.length) : PG X (.Tuple es j pos) (TGt c (.ttup m)) := by
  obtain ⟨h1, h2⟩ := asgEach_len (env := X.env) ht
  refine pg_imp (pg_tup o.calm h h1 h2) fun v σ H Q ⟨e, d, ρ, S, w, s, r, ρ', q, kk⟩ => ?_
  cases w <;> first | (simp only [asgT] at q; cases q; done) | skip
  rename_i ws
  simp only [asgT] at q
  obtain ⟨a, us, rfl, r1, r2⟩ := r.tupS
  rw [o.K]
  refine ⟨a, us, rfl, r2 _ _ .refl, ?_, e, d, ρ, S, ws, s, r1, ρ', q, kk⟩
  rw [r1.length, ← hl]
  have : ∀ {m : M} {ws : List W} {ρ ρ' : Env}, asgT.asgTs m ws ρ = some ρ' → ws.length = lenM m := fun {m} => by
    induction m with
    | nil => intro ws ρ ρ' q; cases ws with
      | nil => rfl
      | cons w ws => cases q
    | cons a b _ ih =>
      intro ws ρ ρ' q
      cases ws with
      | nil => cases q
      | cons w ws =>
        simp only [asgT.asgTs] at q
        split at q
        · exact congrArg Nat.succ (ih q)
        · cases q
    | _ => intro ws ρ ρ' q; cases ws <;> cases q
  exact this q

/-! ### comprehensions -/
theorem wipeE_len : ∀ (vs : List Nat), (wipeE ρ vs).length = ρ.length
  | [] => rfl
  | v :: vs => by unfold wipeE; rw [List.length_set, wipeE_len vs]
theorem wipeE_some {i : Nat} {x : SV} : ∀ {vs : List Nat}, (wipeE ρ vs)[i]? = some (some x) → ρ[i]? = some (some x) ∧ i ∉ vs
  | [], h => ⟨h, by simp⟩
  | v :: vs, h => by
    unfold wipeE at h
    by_cases hi : v = i
    · subst hi
      by_cases hl : v < (wipeE ρ vs).length
      · rw [List.getElem?_set_self hl] at h; cases h
      · rw [List.getElem?_eq_none (by rw [List.length_set]; omega)] at h; cases h
    · rw [List.getElem?_set_ne hi] at h
      obtain ⟨h1, h2⟩ := wipeE_some h
      exact ⟨h1, fun z => by
        rcases List.mem_cons.mp z with z | z
        · exact hi z.symm
        · exact h2 z⟩
theorem wipeE_out {i : Nat} : ∀ {vs : List Nat}, i ∉ vs → (wipeE ρ vs)[i]? = ρ[i]?
  | [], _ => rfl
  | v :: vs, h => by
    have h1 : v ≠ i := fun e => h (by rw [e]; exact List.mem_cons_self)
    unfold wipeE
    rw [List.getElem?_set_ne h1, wipeE_out fun m => h (List.mem_cons_of_mem _ m)]
theorem Sim.wipe (s : Sim c e d ρ S σ H) {vs : List Nat} (hp : ∀ p ∈ e.P, p.1 ∉ vs) : Sim c e d (wipeE ρ vs) S (L2.wipe σ vs) H := by
  have back : ∀ j b, ownAt (wipeE ρ vs) (L2.wipe σ vs) j b → ownAt ρ σ j b := fun j b ⟨⟨k, z⟩, z2⟩ => ⟨⟨k, (wipeE_some z).1⟩, (wipe_some z2).1⟩
  exact {
    le0 := s.le0
    dom := s.dom
    fr := s.fr
    new := s.new
    mun := s.mun
    dm := s.dm
    mlen := s.mlen
    nodup := s.nodup
    cell := s.cell
    len := by rw [wipeE_len, wipe_length]; exact s.len
    slot := fun j sv q => by
      obtain ⟨q1, q2⟩ := wipeE_some q
      rw [wipe_out q2]
      exact s.slot j sv q1
    own := fun j b hb => s.own j b (back j b hb)
    inj := fun j j' b h1 h2 => s.inj j j' b (back _ _ h1) (back _ _ h2)
    par := fun p h => by rw [wipe_out (hp p h), wipeE_out (hp p h)]; exact s.par p h }
theorem backE_in {ρ' : Env} {i : Nat} {x : SV} : ∀ {vs : List Nat}, (backE ρ ρ' vs)[i]? = some (some x) → (i ∉ vs ∧ ρ'[i]? = some (some x)) ∨ (i ∈ vs ∧ ∃ w, x = .val w ∧ ρ[i]? = some (some (.val w)))
  | [], h => .inl ⟨by simp, h⟩
  | v :: vs, h => by
    unfold backE at h
    by_cases hi : v = i
    · subst hi
      by_cases hl : v < (backE ρ ρ' vs).length
      · rw [List.getElem?_set_self hl] at h
        split at h
        · rename_i w q
          cases h
          exact .inr ⟨List.mem_cons_self .., w, rfl, sget_iff.mp q⟩
        · cases h
      · rw [List.getElem?_eq_none (by rw [List.length_set]; omega)] at h; cases h
    · rw [List.getElem?_set_ne hi] at h
      rcases backE_in h with ⟨h1, h2⟩ | ⟨h1, h2⟩
      · exact .inl ⟨fun z => by
          rcases List.mem_cons.mp z with z | z
          · exact hi z.symm
          · exact h1 z, h2⟩
      · exact .inr ⟨List.mem_cons_of_mem _ h1, h2⟩
theorem backE_len {ρ' : Env} : ∀ (vs : List Nat), (backE ρ ρ' vs).length = ρ'.length
  | [] => rfl
  | v :: vs => by unfold backE; rw [List.length_set, backE_len vs]
theorem backE_out {ρ' : Env} {i : Nat} : ∀ {vs : List Nat}, i ∉ vs → (backE ρ ρ' vs)[i]? = ρ'[i]?
  | [], _ => rfl
  | v :: vs, h => by
    have h1 : v ≠ i := fun e => h (by rw [e]; exact List.mem_cons_self)
    unfold backE
    rw [List.getElem?_set_ne h1, backE_out fun m => h (List.mem_cons_of_mem _ m)]
/-- behind a comprehension -/
theorem Sim.back (s : Sim c e d ρ S σ H) {vs : List Nat} {e2 : Ent} (t : Sim c e2 d' ρ' S' (L2.wipe σ vs) H') (le : Le d H d' H') : Sim c e2 d' (backE ρ ρ' vs) S' σ H' := by
  have back : ∀ j b, ownAt (backE ρ ρ' vs) σ j b → ownAt ρ' (L2.wipe σ vs) j b := fun j b ⟨⟨k, z⟩, z2⟩ => by
    rcases backE_in z with ⟨h1, h2⟩ | ⟨h1, w, h2, _⟩
    · exact ⟨⟨k, h2⟩, by rw [wipe_out h1]; exact z2⟩
    · cases h2
  exact {
    le0 := t.le0
    dom := t.dom
    fr := t.fr
    new := t.new
    mun := t.mun
    dm := t.dm
    mlen := t.mlen
    nodup := t.nodup
    cell := t.cell
    len := by rw [backE_len, t.len, wipe_length]
    slot := fun j sv q => by
      rcases backE_in q with ⟨h1, h2⟩ | ⟨h1, w, rfl, h2⟩
      · obtain ⟨v, q1, q2⟩ := t.slot j sv h2
        rw [wipe_out h1] at q1
        exact ⟨v, q1, q2⟩
      · obtain ⟨v, q1, q2⟩ := s.slot j _ h2
        exact ⟨v, q1, Rep.mono le q2⟩
    own := fun j b hb => t.own j b (back j b hb)
    inj := fun j j' b h1 h2 => t.inj j j' b (back _ _ h1) (back _ _ h2)
    par := fun p h => by
      obtain ⟨q1, q2⟩ := t.par p h
      obtain ⟨q1, q3⟩ := wipe_some q1
      rw [backE_out q3]
      exact ⟨q1, q2⟩ }
theorem RvR.grow {N : Addr → Prop} (g : Grow d H N H') {r : RV} {v : V} (hd : ∀ a, d.F a → H a ≠ none) (h : RvR c e d ρ σ H r v) : RvR c e (d.more N) ρ σ H' r v := by
  cases r with
  | val w => exact Rep.mono (g.le hd) h
  | fresh l =>
    obtain ⟨a, vs, ev, h1, h2, h3, h4, h5, h6⟩ := h
    exact ⟨a, vs, ev, g.same a _ h1, RepL.mono (g.le hd) h2, fun z => Or.elim z h3 (fun z => by rw [(g.new a z).1] at h1; cases h1), h4, h5, h6⟩
/-- a list of one's own, not in a slot, is written -/
theorem Sim.updF (s : Sim c e d ρ S σ H) {a : Addr} {l l' : List W} {vs' : List V} (h : RvR c e d ρ σ H (.fresh l) (.ref a)) (hr : RepL c d H l' vs') : Sim c e d ρ S σ (upd H a (.lst vs')) ∧ RvR c e d ρ σ (upd H a (.lst vs')) (.fresh l') (.ref a) ∧ Le d H d (upd H a (.lst vs')) := by
  obtain ⟨b, vs, eb, h1, h2, h3, h4, h5, h6⟩ := h
  cases eb
  have le : Le d H d (upd H a (.lst vs')) := .upd h3
  have some' : ∀ b, H b ≠ none → upd H a (.lst vs') b ≠ none := fun b hb => by
    by_cases z : b = a
    · subst z; rw [upd_same]; simp
    · rw [upd_ne z]; exact hb
  refine ⟨{
    le0 := s.le0.trans le
    dom := fun b hb => some' b (s.dom b hb)
    fr := fun b o hb h1 h2 => by
      have q := s.fr b o hb h1 h2
      rw [upd_ne]; · exact q
      intro z; subst z
      rw [h5] at hb; cases hb
    new := s.new
    mun := s.mun
    dm := fun b hb => some' b (s.dm b hb)
    mlen := s.mlen
    nodup := s.nodup
    cell := fun n ws q => by
      obtain ⟨b, us, q1, q2, q3, q4⟩ := s.cell n ws q
      refine ⟨b, us, q1, ?_, RepL.mono le q3, q4⟩
      rw [upd_ne]; · exact q2
      intro z; subst z; exact h4 (List.mem_of_getElem? q1)
    len := s.len
    slot := fun j sv q => by
      obtain ⟨v, q1, q2⟩ := s.slot j sv q
      refine ⟨v, q1, ?_⟩
      cases sv with
      | val w => exact Rep.mono le q2
      | own l2 =>
        obtain ⟨b, us, e1, r1, r2, r3, r4⟩ := q2
        refine ⟨b, us, e1, ?_, RepL.mono le r2, r3, r4⟩
        rw [upd_ne]; · exact r1
        intro z; subst z
        exact h6 ⟨j, ⟨l2, q⟩, by rw [q1, e1]⟩
    own := s.own
    inj := s.inj
    par := s.par }, ⟨a, vs', rfl, upd_same, RepL.mono le hr, h3, h4, h5, h6⟩, le⟩
theorem g_lc (o : CxOk c k ex cf X) {elt tg iter : Expr} {ifs : List Expr} {scope : Scope} {own : List (Str × Nat)} {pos : Pos} {src tgt cond me : M} (ok : BlkOk X.N X.env.scope scope own)
    (hi : PI X tg iter (TIt c ex (evI cf src)))
    (hg : ∀ (s : Shared) (H : Hp) (C : Addr) (cl : List (Str × Addr)) (fp : List Addr), PG (X.blk s H scope (compEnvC scope cl C X.env) fp) tg (TGt c tgt))
    (ht : ∀ (s : Shared) (H : Hp) (C : Addr) (cl : List (Str × Addr)) (fp : List Addr), PTs (X.blk s H scope (compEnvC scope cl C X.env) fp) ifs (TBo c exB (tst (evE cf cond))))
    (he : ∀ (s : Shared) (H : Hp) (C : Addr) (cl : List (Str × Addr)) (fp : List Addr), PE (X.blk s H scope (compEnvC scope cl C X.env) fp) elt (TV c exB (evE cf me)))
    (hs : ∀ x, foldedSetIterable iter X.env x = pure x) (hsl : ∀ i ∈ slotsT tgt, i ∈ own.map (·.2)) :
    ∀ σ H (Q : VK), TV c ex (evE cf (.lc (own.map (·.2)) src tgt cond me)) σ H Q → tLc (TIt c ex (evI cf src)) (TGt c tgt) (TBo c exB (tst (evE cf cond))) (TV c exB (evE cf me)) (own.map (·.2)) σ H Q := by
  intro σ H Q ⟨e, d, ρ, S, s, h⟩
  simp only [evE] at h
  refine ⟨_, d, ρ, S, s.rb, ?_⟩
  cases hsrc : evI cf src ρ S with
  | stuck => rw [hsrc] at h; exact h
  | exn n w ρ1 S1 => rw [hsrc] at h; exact fun d1 H1 s1 => h d1 H1 (s.comp s1)
  | ok ws ρ1 S1 =>
    rw [hsrc, Out.bind_ok] at h
    intro J d1 H1 s1 itr D hD
    split at h
    · rename_i hfree
      rw [List.all_eq_true] at hfree
      have s2 := s.comp s1
      have hP : ∀ p ∈ e.P, p.1 ∉ own.map (·.2) := fun p hp z => by
        obtain ⟨_, l, q⟩ := s2.par p hp
        have := freeS_own (hfree _ z) q
        cases this
      have w0 : Sim c (NV.rb e d1 H1 ρ1 σ) (d1.more fun _ => False) (wipeE ρ1 (own.map (·.2))) S1 (L2.wipe σ (own.map (·.2))) (upd H1 D (.lst [])) := (s2.rb.wipe hP).grow (.none hD)
      have le1 : Le d1 H1 (d1.more fun _ => False) (upd H1 D (.lst [])) := (Grow.none hD).le s2.dom
      have r0 : RvR c (NV.rb e d1 H1 ρ1 σ) (d1.more fun _ => False) (wipeE ρ1 (own.map (·.2))) (L2.wipe σ (own.map (·.2))) (upd H1 D (.lst [])) (.fresh []) (.ref D) := by
        refine ⟨D, [], rfl, upd_same, .nil, fun z => ?_, fun z => (s2.muH z).1 hD, hD, fun ⟨j, ⟨l, z⟩, z2⟩ => ?_⟩
        · rcases z with z | z
          · exact s2.dom D z hD
          · exact z
        · exact (s2.ownsH ⟨j, ⟨l, (wipeE_some z).1⟩, (wipe_some z2).1⟩).1 hD
      revert h w0 r0
      generalize hF : (fun (ρ : Env) (S : Sto) => (evE cf cond ρ S).bind fun x ρ S => match x with
          | .val (.bl true) => (evE cf me ρ S).bind fun y ρ S => Out.ok (some y.frz) ρ S
          | .val (.bl false) => .ok none ρ S
          | _ => .stuck) = F
      intro h w0 r0
      let Fin : Out (List W) → Prop := fun o => TPost c ex (RvR c) e σ (match o with
        | .ok l ρ' S' => .ok (.fresh l) (backE ρ1 ρ' (own.map (·.2))) S'
        | _ => .stuck) Q
      let Inv' : Nat → Hp → Prop := fun i H => i ≤ ws.length ∧ ∃ d ρ S acc, Sim c (NV.rb e d1 H1 ρ1 σ) d ρ S (L2.wipe σ (own.map (·.2))) H ∧ Le d1 H1 d H ∧ RvR c (NV.rb e d1 H1 ρ1 σ) d ρ (L2.wipe σ (own.map (·.2))) H (.fresh acc) (.ref D) ∧
        Fin (lcLoop (asgT tgt) F (own.map (·.2)) (ws.drop i) acc ρ S)
      refine ⟨fun i m H => m = ws.length - i ∧ Inv' i H, ⟨ws.length, by simp, Nat.zero_le _, _, _, _, [], w0, le1, r0, h⟩, ?_⟩
      rintro i m H3 ⟨rfl, hi3, d3, ρ3, S3, acc, t, le, r, fin⟩
      obtain ⟨it1, it2⟩ := itr d3 H3 le t.dom
      by_cases hlt : i < ws.length
      · refine .inr ?_
        have hw : ws[i]? = some ws[i] := List.getElem?_eq_getElem hlt
        obtain ⟨go, it3⟩ := it2 i _ hw
        refine ⟨go, Inv' (i + 1), fun H' p => ⟨ws.length - (i + 1), by omega, rfl, p⟩, fun x H4 y => ?_⟩
        obtain ⟨N, g, rep⟩ := it3 x H4 y
        have t4 := t.grow g
        have le4 := le.trans (g.le t.dom)
        have r4 := r.grow g t.dom
        rw [List.drop_eq_getElem_cons hlt] at fin
        simp only [lcLoop] at fin
        cases ha : asgT tgt ws[i] ρ3 with
        | none => rw [ha] at fin; exact fin.elim
        | some ρ4 =>
          rw [ha] at fin
          refine ⟨_, _, ρ3, S3, ws[i], t4, rep, ρ4, ha, fun σ5 t5 hw5 ho5 => ?_⟩
          have hw5 : L2.wipe σ5 (own.map (·.2)) = L2.wipe σ (own.map (·.2)) := by
            rw [hw5 _ hsl]
            have : ∀ vs : List Nat, L2.wipe (L2.wipe σ vs) vs = L2.wipe σ vs := fun vs => by
              have : ∀ us : List Nat, (∀ u ∈ us, u ∈ vs) → L2.wipe (L2.wipe σ us) vs = L2.wipe σ vs := fun us => by
                induction us with
                | nil => intro _; rfl
                | cons a us ih =>
                  intro hu
                  show L2.wipe ((L2.wipe σ us).set a none) vs = _
                  rw [wipe_set (hu a (List.mem_cons_self ..)), ih fun u h => hu u (List.mem_cons_of_mem _ h)]
              exact this vs fun _ h => h
            exact this _
          refine ⟨hw5, ?_⟩
          have r5 : RvR c (NV.rb e d1 H1 ρ1 σ) (d3.more N) ρ4 σ5 H4 (.fresh acc) (.ref D) := by
            obtain ⟨b, vs, eb, q1, q2, q3, q4, q5, q6⟩ := r4
            exact ⟨b, vs, eb, q1, q2, q3, q4, q5, fun z => q6 (ho5 b z)⟩
          have hP5 : ∀ p ∈ (NV.rb e d1 H1 ρ1 σ).P, p.1 ∉ own.map (·.2) := hP
          /- the end of a turn -/
          have next : ∀ {d7 : Wd} {ρ7 : Env} {S7 : Sto} {H7 : Hp} {acc' : List W}, Sim c (NV.rb e d1 H1 ρ1 σ) d7 ρ7 S7 σ5 H7 → Le d1 H1 d7 H7 → RvR c (NV.rb e d1 H1 ρ1 σ) d7 ρ7 σ5 H7 (.fresh acc') (.ref D) →
              Fin (lcLoop (asgT tgt) F (own.map (·.2)) (ws.drop (i + 1)) acc' (wipeE ρ7 (own.map (·.2))) S7) → Inv' (i + 1) H7 := fun {d7 ρ7 S7 H7 acc'} t7 le7 r7 f7 => by
            refine ⟨hlt, d7, _, S7, acc', ?_, le7, ?_, f7⟩
            · rw [← hw5]; exact t7.wipe hP5
            · obtain ⟨b, vs, eb, q1, q2, q3, q4, q5, q6⟩ := r7
              refine ⟨b, vs, eb, q1, q2, q3, q4, q5, fun ⟨j, ⟨l, z⟩, z2⟩ => q6 ⟨j, ⟨l, (wipeE_some z).1⟩, ?_⟩⟩
              rw [← hw5] at z2
              exact (wipe_some z2).1
          refine ⟨_, d3.more N, ρ4, S3, t5.rb, ?_⟩
          have hF1 : F ρ4 S3 = (evE cf cond ρ4 S3).bind fun x ρ S => match x with
            | .val (.bl true) => (evE cf me ρ S).bind fun y ρ S => Out.ok (some y.frz) ρ S
            | .val (.bl false) => .ok none ρ S
            | _ => .stuck := by rw [← hF]
          simp only [hF1] at fin
          unfold tst
          cases hc : evE cf cond ρ4 S3 with
          | stuck => simp only [hc, Out.bind_stuck] at fin; exact fin.elim
          | exn n w ρ6 S6 => simp only [hc, Out.bind_exn] at fin; exact fin.elim
          | ok xr ρ6 S6 =>
            simp only [hc, Out.bind_ok] at fin ⊢
            cases xr with
            | fresh l => exact fin.elim
            | val w =>
              cases w <;> first | exact fin.elim | skip
              rename_i b
              intro b' d6 H6 t6 eb
              have eb : b' = b := eb
              subst eb
              have r6 := r5.keep t5 t6
              have t6' := t5.comp t6
              cases b' with
              | false =>
                rw [if_neg (by decide)]
                exact next t6' ((le4.trans (by exact Le.refl)).trans t6.le0) r6 fin
              | true =>
                rw [if_pos rfl]
                simp only at fin
                refine ⟨_, d6, ρ6, S6, t6'.rb, ?_⟩
                cases hm : evE cf me ρ6 S6 with
                | stuck => simp only [hm, Out.bind_stuck] at fin; exact fin.elim
                | exn n w ρ6 S6 => simp only [hm, Out.bind_exn] at fin; exact fin.elim
                | ok yr ρ7 S7 =>
                  simp only [hm, Out.bind_ok] at fin
                  intro yv d7 H7 t7 ry
                  obtain ⟨d8, t8, le8, rep8⟩ := t7.frz ry
                  have r8 := r6.keep t6' t8
                  have t8' := t6'.comp t8
                  obtain ⟨b, vs, eb, q1, q2, q3, q4, q5, q6⟩ := id r8
                  cases eb
                  split at fin
                  · rename_i hsz
                    obtain ⟨t9, r9, le9⟩ := t8'.updF r8 (l' := acc ++ [yr.frz]) (vs' := vs ++ [yv]) (q2.appE (.cons rep8 .nil))
                    exact ⟨vs, q1, by rw [q2.length]; exact hsz, next t9 (((le4.trans t6.le0).trans t8.le0).trans le9) r9 fin⟩
                  · exact fin.elim
      · have hi4 : i = ws.length := by omega
        refine .inl ⟨it1 i (by omega), ?_⟩
        rw [hi4, List.drop_length] at fin
        simp only [lcLoop] at fin
        have t5 := s2.back t le
        refine fin (.ref D) d3 H3 (s2.comp t5) ?_
        obtain ⟨b, vs, eb, q1, q2, q3, q4, q5, q6⟩ := r
        refine ⟨b, vs, eb, q1, q2, q3, q4, s2.gone q5, fun ⟨j, ⟨l, z⟩, z2⟩ => ?_⟩
        rcases backE_in z with ⟨h1, h2⟩ | ⟨h1, w, h2, _⟩
        · exact q6 ⟨j, ⟨l, h2⟩, by rw [wipe_out h1]; exact z2⟩
        · cases h2
    · exact h.elim
end
end NV
set_option Elab.async false
set_option linter.all false
set_option maxRecDepth 100000
set_option maxHeartbeats 1000000
/-! # Statements -/
namespace NV
open PySem PySem.Spec PyProof.Rows L2
inductive Fl where
  | nx | rt (r : RV) | br | ct
  deriving Inhabited
inductive MS where
  | nil | seq (a b : MS)
  | asg (i : Nat) (e : M)
  | par (is : List Nat) (es : M)
  | tgt (t e : M)
  | put (i : Nat) (ix e : M)
  | expr (e : M)
  | ret (e : M) | mvr (i : Nat) | retN
  | ite (t : M) (a b : MS)
  | whl (n : Nat) (t : M) (b : MS)
  | forr (t it : M) (b : MS)
  | brk | cont | pass | dead
  deriving Inhabited
def RV.sv : RV → SV
  | .val w => .val w
  | .fresh l => .own (false, l)
def putRs : Env → List Nat → List RV → Option Env
  | ρ, [], [] => some ρ
  | ρ, i :: is, r :: rs => match putT ρ i r.sv with
    | some ρ1 => putRs ρ1 is rs
    | none => none
  | _, _, _ => none
def evR (cf : CallF) : M → Env → Sto → Out (List RV)
  | .nil, ρ, S => .ok [] ρ S
  | .cons a b, ρ, S => (evE cf a ρ S).bind fun x ρ S => (evR cf b ρ S).bind fun r ρ S => .ok (x :: r) ρ S
  | _, _, _ => .stuck
def whileL (g : Env → Sto → Out Bool) (b : Env → Sto → Out Fl) : Nat → Env → Sto → Out Fl
  | 0, _, _ => .stuck
  | n + 1, ρ, S => (g ρ S).bind fun t ρ S => if t then (b ρ S).bind fun f ρ S => match f with
      | .nx => whileL g b n ρ S
      | .ct => whileL g b n ρ S
      | .br => .ok .nx ρ S
      | .rt r => .ok (.rt r) ρ S
    else .ok .nx ρ S
def forL (tgt : W → Env → Option Env) (b : Env → Sto → Out Fl) : List W → Env → Sto → Out Fl
  | [], ρ, S => .ok .nx ρ S
  | w :: r, ρ, S => match tgt w ρ with
    | some ρ1 => (b ρ1 S).bind fun f ρ S => match f with
      | .nx => forL tgt b r ρ S
      | .ct => forL tgt b r ρ S
      | .br => .ok .nx ρ S
      | .rt r => .ok (.rt r) ρ S
    | none => .stuck
def evS (cf : CallF) : MS → Env → Sto → Out Fl
  | .nil, ρ, S => .ok .nx ρ S
  | .pass, ρ, S => .ok .nx ρ S
  | .seq a b, ρ, S => (evS cf a ρ S).bind fun f ρ S => match f with
    | .nx => evS cf b ρ S
    | f => .ok f ρ S
  | .asg i e, ρ, S => (evE cf e ρ S).bind fun r ρ S => match putT ρ i r.sv with
    | some ρ' => .ok .nx ρ' S
    | none => .stuck
  | .par is es, ρ, S => (evR cf es ρ S).bind fun rs ρ S => match putRs ρ is rs with
    | some ρ' => .ok .nx ρ' S
    | none => .stuck
  | .tgt t e, ρ, S => (evE cf e ρ S).bind fun r ρ S => match asgT t r.frz ρ with
    | some ρ' => .ok .nx ρ' S
    | none => .stuck
  | .put i ix e, ρ, S => (evE cf e ρ S).bind fun r ρ S => match sget ρ i with
    | some (.own _) => (evE cf ix ρ S).bind fun q ρ S => match q, sget ρ i with
      | .val (.int n), some (.own xs) => match ixN xs.2.length n with
        | some j => .ok .nx (ρ.set i (some (.own (xs.1, xs.2.set j r.frz)))) S
        | none => .stuck
      | _, _ => .stuck
    | _ => .stuck
  | .expr e, ρ, S => (evE cf e ρ S).bind fun _ ρ S => .ok .nx ρ S
  | .ret e, ρ, S => (evE cf e ρ S).bind fun r ρ S => .ok (.rt r) ρ S
  | .mvr i, ρ, S => match sget ρ i with
    | some (.val w) => .ok (.rt (.val w)) ρ S
    | some (.own l) => if l.1 then .stuck else .ok (.rt (.fresh l.2)) (ρ.set i none) S
    | none => .stuck
  | .retN, ρ, S => .ok (.rt (.val .non)) ρ S
  | .ite t a b, ρ, S => (tst (evE cf t) ρ S).bind fun t ρ S => if t then evS cf a ρ S else evS cf b ρ S
  | .whl n t b, ρ, S => whileL (tst (evE cf t)) (evS cf b) n ρ S
  | .forr t it b, ρ, S => (evI cf it ρ S).bind fun ws ρ S => forL (asgT t) (evS cf b) ws ρ S
  | .brk, ρ, S => .ok .br ρ S
  | .cont, ρ, S => .ok .ct ρ S
  | .dead, _, _ => .stuck

section
variable {c : Cn} {k : Ck} {ex exB : EX} {cf : CallF} {X : Cx}
variable {e : Ent} {d d' : Wd} {ρ ρ' : Env} {S S' : Sto} {σ : L2.St} {H H' : Hp} {tg : Expr} {D : Ends}
def FlP (c : Cn) (ex : EX) (e : Ent) (D : Ends) (d : Wd) (H : Hp) : Out Fl → Prop
  | .ok .nx ρ' S' => ∀ σ' d' H', Sim c e d' ρ' S' σ' H' → Le d H d' H' → D.nx σ' H'
  | .ok (.rt r) ρ' S' => ∀ v σ' d' H', Sim c e d' ρ' S' σ' H' → Le d H d' H' → RvR c e d' ρ' σ' H' r v → D.rt v H'
  | .ok .br ρ' S' => ∀ σ' d' H', Sim c e d' ρ' S' σ' H' → Le d H d' H' → D.bk σ' H'
  | .ok .ct ρ' S' => ∀ σ' d' H', Sim c e d' ρ' S' σ' H' → Le d H d' H' → D.ct σ' H'
  | .exn k w ρ' S' => ∀ σ' d' H', Sim c e d' ρ' S' σ' H' → Le d H d' H' → ex k w d' σ' H'
  | .stuck => False
def TSt (c : Cn) (ex : EX) (e : Ent) (g : Env → Sto → Out Fl) : TS := fun D σ H => ∃ d ρ S, Sim c e d ρ S σ H ∧ FlP c ex e D d H (g ρ S)
theorem FlP.from {o : Out Fl} (h : FlP c ex e D d H o) (l : Le d H d' H') : FlP c ex e D d' H' o := by
  cases o with
  | ok f ρ1 S1 => cases f with
    | nx => exact fun σ' d1 H1 s l1 => h σ' d1 H1 s (l.trans l1)
    | rt r => exact fun v σ' d1 H1 s l1 => h v σ' d1 H1 s (l.trans l1)
    | br => exact fun σ' d1 H1 s l1 => h σ' d1 H1 s (l.trans l1)
    | ct => exact fun σ' d1 H1 s l1 => h σ' d1 H1 s (l.trans l1)
  | exn => exact fun σ' d1 H1 s l1 => h σ' d1 H1 s (l.trans l1)
  | stuck => exact h
theorem ps_imp {s : Stmt} {t t' : TS} (h : PS X s t) (k : ∀ D σ H, t' D σ H → t D σ H) : PS X s t' := ⟨fun pins s σ H D I q => h.run pins s σ H D I (k D σ H q)⟩
theorem pss_imp {s : List Stmt} {t t' : TS} (h : PSs X s t) (k : ∀ D σ H, t' D σ H → t D σ H) : PSs X s t' := ⟨fun pins s σ H D I q => h.run pins s σ H D I (k D σ H q)⟩
/-- an expression at the head of a statement -/
theorem Sim.tpS {α β : Type} {R' : Ent → Wd → Env → L2.St → Hp → α → β → Prop} (s : Sim c e d ρ S σ H) {g : Env → Sto → Out α} {f : α → Env → Sto → Out Fl} {Q : β → Hp → Prop} (h : FlP c ex e D d H ((g ρ S).bind f))
    (k : ∀ a ρ1 S1 b d1 H1, Sim c (NV.rb e d H ρ σ) d1 ρ1 S1 σ H1 → R' (NV.rb e d H ρ σ) d1 ρ1 σ H1 a b → FlP c ex e D d1 H1 (f a ρ1 S1) → Q b H1) : TP c ex R' g σ H Q := by
  refine ⟨_, d, ρ, S, s.rb, ?_⟩
  cases q : g ρ S with
  | ok a ρ1 S1 =>
    rw [q, Out.bind_ok] at h
    exact fun b d1 H1 s1 r1 => k a ρ1 S1 b d1 H1 s1 r1 (h.from s1.le0)
  | exn n w ρ1 S1 =>
    rw [q, Out.bind_exn] at h
    exact fun d1 H1 s1 => h σ d1 H1 (s.comp s1) s1.le0
  | stuck => rw [q] at h; exact h
theorem s_nil : PSs X [] (TSt c ex e (evS cf .nil)) := pss_imp pss_nil fun D σ H ⟨d, ρ, S, s, h⟩ => by
  simp only [evS] at h
  exact h σ d H s .refl
theorem s_seq {st : Stmt} {sts : List Stmt} {a b : MS} (ha : PS X st (TSt c ex e (evS cf a))) (hb : PSs X sts (TSt c ex e (evS cf b))) : PSs X (st :: sts) (TSt c ex e (evS cf (.seq a b))) := pss_imp (pss_cons ha hb) fun D σ H ⟨d, ρ, S, s, h⟩ => by
  refine ⟨d, ρ, S, s, ?_⟩
  simp only [evS] at h
  cases q : evS cf a ρ S with
  | ok f ρ1 S1 =>
    rw [q, Out.bind_ok] at h
    cases f with
    | nx => exact fun σ' d' H' s1 l => ⟨d', ρ1, S1, s1, h.from l⟩
    | rt r => exact h
    | br => exact h
    | ct => exact h
  | exn n w ρ1 S1 => rw [q] at h; exact h
  | stuck => rw [q] at h; exact h
theorem s_one {st : Stmt} {a : MS} (ha : PS X st (TSt c ex e (evS cf a))) : PSs X [st] (TSt c ex e (evS cf a)) := pss_imp (pss_cons ha pss_nil) fun D σ H h => h
theorem s_pass {pos : Pos} : PS X (.Pass pos) (TSt c ex e (evS cf .pass)) := ps_imp ps_pass fun D σ H ⟨d, ρ, S, s, h⟩ => by
  simp only [evS] at h
  exact h σ d H s .refl
theorem s_brk {pos : Pos} : PS X (.Break pos) (TSt c ex e (evS cf .brk)) := ps_imp ps_break fun D σ H ⟨d, ρ, S, s, h⟩ => by
  simp only [evS] at h
  exact h σ d H s .refl
theorem s_cont {pos : Pos} : PS X (.Continue pos) (TSt c ex e (evS cf .cont)) := ps_imp ps_continue fun D σ H ⟨d, ρ, S, s, h⟩ => by
  simp only [evS] at h
  exact h σ d H s .refl
theorem s_dead {st : Stmt} : PS X st (TSt c ex e (evS cf .dead)) := ps_imp ps_never fun D σ H ⟨d, ρ, S, s, h⟩ => by
  simp only [evS] at h
  exact h
theorem s_deads {st : List Stmt} : PSs X st (TSt c ex e (evS cf .dead)) := pss_imp pss_never fun D σ H ⟨d, ρ, S, s, h⟩ => by
  simp only [evS] at h
  exact h
theorem Sim.putR (s : Sim c e d ρ S σ H) {i : Nat} {r : RV} {v : V} (hv : RvR c e d ρ σ H r v) (h : putT ρ i r.sv = some ρ') : Sim c e d ρ' S (σ.set i (some v)) H := by
  unfold putT at h
  split at h
  · rename_i hf
    cases h
    cases r with
    | val w => exact (s.putV hf hv).1
    | fresh l =>
      obtain ⟨a, vs, rfl, h1, h2, h3, h4, h5, h6⟩ := hv
      exact s.put (sv := .own (false, l)) hf ⟨a, vs, rfl, h1, h2, h3, h4⟩ fun l' _ b hb => by cases hb; exact ⟨.inr h5, h6⟩
  · cases h
/-! ### assignments -/
def swB (st : Scope) (e : Expr) (x : Str) (py : Pos) : Bool := match e with
  | .ListComp _ _ _ _ => false
  | .SetComp _ _ _ _ => false
  | .DictComp _ _ _ _ _ => false
  | _ => true
theorem sw_of {e : Expr} {x : Str} {py : Pos} {st : Scope} {l : Nat} {env : PySem.Env} (h : swB st e x py = true) (t : Option Expr) : swapsWith e t l env = pure false := by
  cases e <;> first | rfl | cases h
theorem asg_key (o : CxOk c k ex cf X) {i : Nat} {m : M} {te : TE} (ht : ∀ σ H Q, TV c ex (evE cf m) σ H Q → te σ H Q) : ∀ D σ H, TSt c ex e (evS cf (.asg i m)) D σ H → tAsg te (gName i) D σ H := fun D σ H ⟨d, ρ, S, s, h⟩ => by
  simp only [evS] at h
  refine ht _ _ _ (s.tpS h fun r ρ1 S1 v d1 H1 s1 r1 h1 => ?_)
  split at h1
  · rename_i ρ2 q
    exact h1 _ d1 H1 ((s.comp s1).putR (r1.up s) q) .refl
  · exact h1.elim
theorem s_asg (o : CxOk c k ex cf X) {i : Nat} {x : Str} {a : Expr} {m : M} {py pos : Pos} (h : asgB k i x = true) (ha : EOk c ex X a (evE cf m)) (hs : swB k.sc a x py = true) : PS X (.Assign [.Name x py] a pos) (TSt c ex e (evS cf (.asg i m))) := by
  obtain ⟨h1, h2, h3⟩ := asg_loc o h
  exact ps_imp (ps_set o.nd h1 h2 ha.pe (sw_of hs _) h3) (asg_key o fun _ _ _ q => q)
theorem s_expr (o : CxOk c k ex cf X) {a : Expr} {m : M} {pos : Pos} (ha : EOk c ex X a (evE cf m)) (hs : swB k.sc a "" pos = true) : PS X (.Expr a pos) (TSt c ex e (evS cf (.expr m))) := ps_imp (ps_expr ha.pe (sw_of hs _)) fun D σ H ⟨d, ρ, S, s, h⟩ => by
  simp only [evS] at h
  exact s.tpS (R' := RvR c) h fun r ρ1 S1 v d1 H1 s1 r1 h1 => h1 σ d1 H1 (s.comp s1) .refl
theorem s_ret {a : Expr} {m : M} {pos : Pos} (ha : EOk c ex X a (evE cf m)) : PS X (.Return (some a) pos) (TSt c ex e (evS cf (.ret m))) := ps_imp (ps_ret ha.pe) fun D σ H ⟨d, ρ, S, s, h⟩ => by
  simp only [evS] at h
  exact s.tpS (R' := RvR c) h fun r ρ1 S1 v d1 H1 s1 r1 h1 => h1 v σ d1 H1 (s.comp s1) .refl (r1.up s)
theorem s_retN {pos : Pos} : PS X (.Return none pos) (TSt c ex e (evS cf .retN)) := ps_imp ps_retN fun D σ H ⟨d, ρ, S, s, h⟩ => by
  simp only [evS] at h
  exact h .non σ d H s .refl (by show Rep c d H .non .non; simp only [Rep])
theorem s_mvr (o : CxOk c k ex cf X) (hB : ∀ a, e.B a → ∃ j, (j, a) ∈ e.P) {i : Nat} {x : Str} {py pos : Pos} (h : visB k i x = true) : PS X (.Return (some (.Name x py)) pos) (TSt c ex e (evS cf (.mvr i))) := ps_imp (ps_ret (vis_pe o h)) fun D σ H ⟨d, ρ, S, s, h⟩ => by
  simp only [evS] at h
  split at h
  · rename_i w q
    obtain ⟨v, q1, q2⟩ := s.slot i _ (sget_iff.mp q)
    exact ⟨v, q1, h v σ d H s .refl q2⟩
  · rename_i l q
    split at h; · exact h.elim
    rename_i hl
    have q := sget_iff.mp q
    obtain ⟨v, q1, a, vs, rfl, r1, r2, r3, r4⟩ := s.slot i _ q
    have hi : i < ρ.length := (List.getElem?_eq_some_iff.mp q).1
    have oa : ownAt ρ σ i a := ⟨⟨l, q⟩, q1⟩
    have back : ∀ j b, ownAt (ρ.set i none) σ j b → j ≠ i ∧ ownAt ρ σ j b := fun j b ⟨⟨k, z⟩, z2⟩ => by
      by_cases hj : j = i
      · subst hj; rw [List.getElem?_set_self hi] at z; cases z
      · rw [List.getElem?_set_ne (Ne.symm hj)] at z; exact ⟨hj, ⟨k, z⟩, z2⟩
    have s2 : Sim c e (d.more fun _ => False) (ρ.set i none) S σ H := s.ren (fun _ z => z.elim) (fun _ z => z.elim) (fun _ z => z.elim) (fun _ z => z.elim) (List.length_set ..) (fun j b z => (back j b z).2)
      (fun j sv z => by
        by_cases hj : j = i
        · subst hj; rw [List.getElem?_set_self hi] at z; cases z
        · rw [List.getElem?_set_ne (Ne.symm hj)] at z; exact .inl z)
      (fun p hp => by
        obtain ⟨p1, l2, p2⟩ := s.par p hp
        have hj : p.1 ≠ i := fun hj => by
          rw [hj, q] at p2; cases p2
          exact hl rfl
        exact ⟨l2, by rw [List.getElem?_set_ne (Ne.symm hj)]; exact p2⟩)
    refine ⟨.ref a, q1, h (.ref a) σ _ H s2 .more ?_⟩
    refine ⟨a, vs, rfl, r1, RepL.mono .more r2, fun z => z.elim r3 id, r4, ?_, fun ⟨j, z⟩ => ?_⟩
    · rcases s.own i a oa with z | z
      · obtain ⟨j, hj⟩ := hB a z
        obtain ⟨p1, l2, p2⟩ := s.par _ hj
        have := s.inj i j a oa ⟨⟨_, p2⟩, p1⟩
        subst this
        rw [q] at p2; cases p2
        exact absurd rfl hl
      · exact z
    · obtain ⟨n1, n2⟩ := back j a z
      exact n1 (s.inj j i a n2 oa)
  · exact h.elim
theorem s_ite {t : Expr} {A B : List Stmt} {mt : M} {ma mb : MS} {pos : Pos} (ht : EOk c ex X t (evE cf mt)) (ha : PSs X A (TSt c ex e (evS cf ma))) (hb : PSs X B (TSt c ex e (evS cf mb))) : PS X (.If t A B pos) (TSt c ex e (evS cf (.ite mt ma mb))) := ps_imp (ps_if ht.pt ha hb) fun D σ H ⟨d, ρ, S, s, h⟩ => by
  simp only [evS] at h
  refine s.tpS (R' := fun _ _ _ _ _ a b => b = a) h fun r ρ1 S1 v d1 H1 s1 r1 h1 => ?_
  have r1 : v = r := r1
  subst r1
  cases v with
  | true => exact ⟨d1, ρ1, S1, s.comp s1, h1⟩
  | false => exact ⟨d1, ρ1, S1, s.comp s1, h1⟩
/-- target = value -/
theorem s_tgt (o : CxOk c k ex cf X) {tg a : Expr} {mt m : M} {pos : Pos} (hg : PG X tg (TGt c mt)) (ha : EOk c ex X a (evE cf m)) (hs : swB k.sc a "" pos = true) (ht : isTgt tg = true) (hw : swappedStores [tg] a X.env = pure none) : PS X (.Assign [tg] a pos) (TSt c ex e (evS cf (.tgt mt m))) := by
  refine ps_imp (ps_asg ha.pe hg (sw_of hs _) hw (by rw [asgEach ht]; rfl)) fun D σ H ⟨d, ρ, S, s, h⟩ => ?_
  simp only [evS] at h
  refine s.tpS (R' := RvR c) h fun r ρ1 S1 v d1 H1 s1 r1 h1 => ?_
  obtain ⟨d2, s2, le, r2⟩ := (s.comp s1).frz (r1.up s)
  split at h1
  · rename_i ρ2 q
    exact ⟨e, d2, ρ1, S1, _, s2, r2, ρ2, q, fun σ' s3 _ _ => h1 σ' d2 H1 s3 le⟩
  · exact h1.elim
theorem s_put (o : CxOk c k ex cf X) {i : Nat} {x : Str} {ix a : Expr} {mi m : M} {p p2 pos : Pos} (hv : visB k i x = true) (hi : EOk c ex X ix (evE cf mi)) (ha : EOk c ex X a (evE cf m)) (hs : swB k.sc a "" pos = true) (hix : noSlice ix = true) :
    PS X (.Assign [.Subscript (.Name x p) ix p2] a pos) (TSt c ex e (evS cf (.put i mi m))) := by
  refine ps_imp (ps_asg ha.pe (pg_sub (vis_pe o hv) hi.pe set_list (fun _ => ?_)) (show swapsWith a (some (.Subscript (.Name x p) ix p2)) pos.line X.env = pure false from sw_of (x := "") (py := pos) (st := k.sc) hs _) ?_) fun D σ H ⟨d, ρ, S, s, h⟩ => ?_
  · cases ix <;> first | rfl | cases hix
  · rfl
  · simp only [evS] at h
    refine s.tpS (R' := RvR c) h fun r ρ1 S1 v d1 H1 s1 r1 h1 => ?_
    obtain ⟨d2, s2, le, r2⟩ := (s.comp s1).frz (r1.up s)
    have h1 := h1.from le
    split at h1
    rotate_left
    · exact h1.elim
    rename_i l0 q0
    obtain ⟨v0, p1, _⟩ := s2.slot i _ (sget_iff.mp q0)
    have out : ∀ u, σ[i]? = some (some u) → gSub (tVar i) (TV c ex (evE cf mi)) rSetL v σ H1 D.nx := fun u hu => by
      refine ⟨u, hu, ?_⟩
      refine s2.tpS (R' := RvR c) h1 fun q ρ3 S3 y d3 H3 s3 r3 h3 => ?_
      split at h3
      · rename_i n xs hq
        split at h3
        · rename_i j hj
          have hq := sget_iff.mp hq
          obtain ⟨w, q1, b, vs, e1, t1, t2, t3, t4⟩ := (s2.comp s3).slot i _ hq
          rw [hu] at q1; cases q1
          subst e1
          have r3 : y = .int n := by simpa only [RvR, Rep] using r3
          subst r3
          refine ⟨b, vs, n, j, rfl, rfl, t1, by rw [t2.length]; exact hj, ?_⟩
          have hr : RepL c d3 H3 (xs.2.set j r.frz) (vs.set j v) := by
            have : ∀ {l : List W} {us : List V} {j : Nat} {w : W} {v : V}, RepL c d3 H3 l us → Rep c d3 H3 w v → RepL c d3 H3 (l.set j w) (us.set j v) := fun {l} => by
              induction l with
              | nil => intro us j w v h _; have h : us = [] := h; subst h; exact .nil
              | cons a l ih =>
                intro us j w v ⟨x, t, e, h1, h2⟩ h
                subst e
                cases j with
                | zero => exact .cons h h2
                | succ j => exact .cons h1 (ih h2 h)
            exact this t2 (Rep.mono s3.le0 r2)
          exact h3 σ d3 _ ((s2.comp s3).mutOwn hq hu hr) (.upd t3)
        · exact h3.elim
      · exact h3.elim
    exact out v0 p1
end
end NV
set_option Elab.async false
set_option linter.all false
set_option maxRecDepth 100000
set_option maxHeartbeats 1000000
/-! # Pairs, loops -/
namespace NV
open PySem PySem.Spec PyProof.Rows L2
section
variable {c : Cn} {k : Ck} {ex exB : EX} {cf : CallF} {X : Cx}
variable {e : Ent} {d d' : Wd} {ρ ρ' : Env} {S S' : Sto} {σ : L2.St} {H H' : Hp} {tg : Expr} {D : Ends}
def frV : List RV → List V → List V
  | .fresh _ :: r, v :: t => v :: frV r t
  | .val _ :: r, _ :: t => frV r t
  | _, _ => []
def RvsR (c : Cn) (e : Ent) (d : Wd) (ρ : Env) (σ : L2.St) (H : Hp) : List RV → List V → Prop
  | [], vs => vs = []
  | r :: rs, vs => ∃ v t, vs = v :: t ∧ RvR c e d ρ σ H r v ∧ RvsR c e d ρ σ H rs t ∧ ((∃ l, r = .fresh l) → v ∉ frV rs t)
theorem RvsR.up {e : Ent} {d d' : Wd} {ρ ρ' : Env} {S : Sto} {σ : L2.St} {H H' : Hp} (s : Sim c e d ρ S σ H) : ∀ {rs : List RV} {vs : List V}, RvsR c (NV.rb e d H ρ σ) d' ρ' σ H' rs vs → RvsR c e d' ρ' σ H' rs vs
  | [], _, h => h
  | _ :: _, _, ⟨v, t, e1, h1, h2, h3⟩ => ⟨v, t, e1, h1.up s, RvsR.up s h2, h3⟩
theorem RvsR.fr : ∀ {rs : List RV} {vs : List V} {v : V}, RvsR c e d ρ σ H rs vs → v ∈ frV rs vs → ∃ a, v = .ref a ∧ e.H a = none
  | [], vs, v, h, m => by
    have h : vs = [] := h
    subst h; cases m
  | .val _ :: rs, _, v, ⟨v1, t, e1, h1, h2, h3⟩, m => by subst e1; exact RvsR.fr h2 m
  | .fresh _ :: rs, _, v, ⟨v1, t, e1, h1, h2, h3⟩, m => by
    subst e1
    rcases List.mem_cons.mp m with z | z
    · subst z
      obtain ⟨a, _, ea, _, _, _, _, h5, _⟩ := h1
      exact ⟨a, ea, h5⟩
    · exact RvsR.fr h2 z
abbrev TRs (c : Cn) (ex : EX) (g : Env → Sto → Out (List RV)) : TA := TP c ex (RvsR c) g
theorem rs_nil : PA X [] (TRs c ex (evR cf .nil)) := pa_imp pa_nil fun σ H Q ⟨e, d, ρ, S, s, h⟩ => by
  simp only [evR] at h
  exact h [] d H s rfl
theorem rs_cons {a b : M} {e : Expr} {es : List Expr} (ha : EOk c ex X e (evE cf a)) (hb : PA X es (TRs c ex (evR cf b))) (hs : noStar e = true) : PA X (e :: es) (TRs c ex (evR cf (.cons a b))) :=
  pa_imp (pa_cons ha.pe hb (star_of hs)) fun σ H Q ⟨e, d, ρ, S, s, h⟩ => by
    simp only [evR] at h
    refine s.tp h fun x ρ1 S1 v d1 H1 s1 r1 h1 => (s.comp s1).tp h1 fun xs ρ2 S2 vs d2 H2 s2 r2 h2 => ?_
    refine h2 _ d2 H2 ((s.comp s1).comp s2) ⟨v, vs, rfl, (r1.up s).keep (s.comp s1) s2, r2.up (s.comp s1), fun ⟨l, hl⟩ m => ?_⟩
    subst hl
    obtain ⟨a, ea, h5⟩ := r2.fr m
    obtain ⟨b, _, eb, q1, _⟩ := r1
    rw [ea] at eb; cases eb
    have h5 : H1 a = none := h5
    rw [h5] at q1; cases q1
def setL : L2.St → List Nat → List V → L2.St
  | σ, i :: is, v :: vs => setL (σ.set i (some v)) is vs
  | σ, _, _ => σ
theorem Sim.putRs : ∀ {is : List Nat} {rs : List RV} {vs : List V} {ρ ρ' : Env} {σ : L2.St}, Sim c e d ρ S σ H → RvsR c e d ρ σ H rs vs → NV.putRs ρ is rs = some ρ' → Sim c e d ρ' S (setL σ is vs) H
  | [], [], _, ρ, ρ', σ, s, _, q => by cases q; exact s
  | i :: is, r :: rs, _, ρ, ρ', σ, s, ⟨v, t, e1, h1, h2, h3⟩, q => by
    simp only [NV.putRs] at q
    split at q
    · rename_i ρ1 q1
      subst e1
      have s1 := s.putR h1 q1
      refine Sim.putRs (is := is) s1 ?_ q
      have hf : freeS ρ i = true ∧ ρ1 = ρ.set i (some r.sv) := by
        unfold putT at q1
        split at q1
        · rename_i hf; cases q1; exact ⟨hf, rfl⟩
        · cases q1
      obtain ⟨hf, e1⟩ := hf
      have hi := freeS_len hf
      have hi2 : i < σ.length := by rw [← s.len]; exact hi
      have ow : ∀ a, owns ρ1 (σ.set i (some v)) a → owns ρ σ a ∨ ((∃ l, r = .fresh l) ∧ v = .ref a) := fun a ⟨j, ⟨l, z⟩, z2⟩ => by
        rw [e1] at z
        by_cases hj : j = i
        · subst hj
          rw [List.getElem?_set_self hi] at z
          rw [List.getElem?_set_self hi2] at z2
          cases z2
          cases r with
          | val w => cases z
          | fresh l => exact .inr ⟨⟨l, rfl⟩, rfl⟩
        · rw [List.getElem?_set_ne (Ne.symm hj)] at z z2
          exact .inl ⟨j, ⟨l, z⟩, z2⟩
      have : ∀ {rs : List RV} {t : List V}, RvsR c e d ρ σ H rs t → ((∃ l, r = .fresh l) → v ∉ frV rs t) → RvsR c e d ρ1 (σ.set i (some v)) H rs t := fun {rs} => by
        induction rs with
        | nil => intro t h _; exact h
        | cons r2 rs ih =>
          intro t ⟨v2, t2, e2, k1, k2, k3⟩ hn
          subst e2
          refine ⟨v2, t2, rfl, ?_, ih k2 fun z m => hn z ?_, k3⟩
          · cases r2 with
            | val w => exact k1
            | fresh l =>
              obtain ⟨a, us, ea, m1, m2, m3, m4, m5, m6⟩ := k1
              refine ⟨a, us, ea, m1, m2, m3, m4, m5, fun z => ?_⟩
              rcases ow a z with z | ⟨z1, z2⟩
              · exact m6 z
              · refine hn z1 ?_
                rw [z2, ea]
                exact List.mem_cons_self ..
          · cases r2 with
            | val w => exact m
            | fresh l => exact List.mem_cons_of_mem _ m
      exact this h2 h3
    · cases q
  | [], _ :: _, _, _, _, _, _, _, q => by cases q
  | _ :: _, [], _, _, _, _, _, _, q => by cases q
/-- both sides written -/
def locB (k : Ck) (i : Nat) (x : Str) : Bool := decide (k.N[i]? = some x) && decide (k.sc.names.lookup x = some .local)
theorem loc_of (o : CxOk c k ex cf X) {i : Nat} {x : Str} (h : locB k i x = true) : X.N[i]? = some x ∧ X.env.scope.names.lookup x = some .local := by
  unfold locB at h
  rw [Bool.and_eq_true, decide_eq_true_eq, decide_eq_true_eq] at h
  rw [o.N, o.sc]; exact h
theorem sw_none {t e : Expr} {l : Nat} {env : PySem.Env} {es : List Expr} {j : Nat} {p : Pos} : swapsWith (.Tuple es j p) (some t) l env = pure false := rfl
theorem sw_two {x y : Str} {px py pt p2 : Pos} {a b : Expr} {kt k2 : Nat} {env : PySem.Env} (hk : env.scope.kind = .function) (hx : env.scope.names.lookup x = some .local) (hy : env.scope.names.lookup y = some .local) (hl : (py.line == px.line) = true) (hn : x ≠ y)
    (hs : noStar a = true) (hs2 : noStar b = true) (hf : ([a, b].all (foldedForSure 8)) = false) (hc : ([a, b].all (constantsAlone 8)) = false) :
    swappedStores [.Tuple [.Name x px, .Name y py] kt pt] (.Tuple [a, b] k2 p2) env = pure (some [x, y]) := by
  have hb : env.blockKind = .function := by unfold Env.blockKind; rw [hk]; rfl
  have kx : env.kindOf x = some .local := hx
  have ky : env.kindOf y = some .local := hy
  have e2 : ([x, y] : List Str).eraseDups = [x, y] := by
    have : (y == x) = false := by rw [beq_eq_false_iff_ne]; exact hn.symm
    simp [List.eraseDups, List.eraseDupsBy, List.eraseDupsBy.loop, this]
  have f1 : (foldedForSure 8 a && foldedForSure 8 b) = false := by simpa using hf
  have f2 : (constantsAlone 8 a && constantsAlone 8 b) = false := by simpa using hc
  unfold swappedStores
  simp only [hb, Expr.pos, kx, ky, eq_of_beq hl, List.filterMap_cons, List.filterMap_nil, List.head?_cons, Option.map_some, Option.getD_some, beq_self_eq_true, Bool.and_self, if_true, e2, List.length_cons, List.length_nil, List.all_cons, List.all_nil, Bool.and_true, f1, f2, List.any_cons, List.any_nil, Bool.or_false]
  split
  · rename_i h
    simp at h
  · split
    · cases hs
    · split
      · cases hs2
      · rfl
/-- three -/
theorem sw_three {x y z : Str} {px py pz pt p2 : Pos} {a b q : Expr} {kt k2 : Nat} {env : PySem.Env} (hk : env.scope.kind = .function) (hx : env.scope.names.lookup x = some .local) (hy : env.scope.names.lookup y = some .local) (hz : env.scope.names.lookup z = some .local) (hl : (py.line == px.line) = true) (hl2 : (pz.line == px.line) = true) (hn : x ≠ y) (hn2 : x ≠ z) (hn3 : y ≠ z)
    (hs : noStar a = true) (hs2 : noStar b = true) (hs3 : noStar q = true) (hf : ([a, b, q].all (foldedForSure 8)) = false) (hc : ([a, b, q].all (constantsAlone 8)) = false) :
    swappedStores [.Tuple [.Name x px, .Name y py, .Name z pz] kt pt] (.Tuple [a, b, q] k2 p2) env = pure (some [x, y, z]) := by
  have hb : env.blockKind = .function := by unfold Env.blockKind; rw [hk]; rfl
  have kx : env.kindOf x = some .local := hx
  have ky : env.kindOf y = some .local := hy
  have kz : env.kindOf z = some .local := hz
  have e2 : ([x, y, z] : List Str).eraseDups = [x, y, z] := by
    have h1 : (y == x) = false := by rw [beq_eq_false_iff_ne]; exact hn.symm
    have h2 : (z == x) = false := by rw [beq_eq_false_iff_ne]; exact hn2.symm
    have h3 : (z == y) = false := by rw [beq_eq_false_iff_ne]; exact hn3.symm
    simp [List.eraseDups, List.eraseDupsBy, List.eraseDupsBy.loop, h1, h2, h3]
  have f1 : (foldedForSure 8 a && (foldedForSure 8 b && foldedForSure 8 q)) = false := by simpa using hf
  have f2 : (constantsAlone 8 a && (constantsAlone 8 b && constantsAlone 8 q)) = false := by simpa using hc
  unfold swappedStores
  simp only [hb, Expr.pos, kx, ky, kz, eq_of_beq hl, eq_of_beq hl2, List.filterMap_cons, List.filterMap_nil, List.head?_cons, Option.map_some, Option.getD_some, beq_self_eq_true, Bool.and_self, if_true, e2, List.length_cons, List.length_nil, List.all_cons, List.all_nil, Bool.and_true, f1, f2, List.any_cons, List.any_nil, Bool.or_false]
  split
  · rename_i h
    simp at h
  · split
    · cases hs
    · split
      · cases hs2
      · split
        · cases hs3
        · rfl
def sw2B (px py : Pos) (x y : Str) (a b : Expr) : Bool := ((py.line == px.line) && decide (x ≠ y)) && ((noStar a && noStar b) && (!([a, b].all (foldedForSure 8)) && !([a, b].all (constantsAlone 8))))
theorem s_par2 (o : CxOk c k ex cf X) (hk : X.env.scope.kind = .function) {i j : Nat} {x y : Str} {a b : Expr} {m : M} {px py pt p2 pos : Pos} {kt k2 : Nat} (h1 : locB k i x = true) (h2 : locB k j y = true) (hij : i ≠ j) (hx : PA X [a, b] (TRs c ex (evR cf m))) (hw : sw2B px py x y a b = true) (hm : lenM m = 2) :
    PS X (.Assign [.Tuple [.Name x px, .Name y py] kt pt] (.Tuple [a, b] k2 p2) pos) (TSt c ex e (evS cf (.par [i, j] m))) := by
  obtain ⟨n1, l1⟩ := loc_of o h1
  obtain ⟨n2, l2⟩ := loc_of o h2
  unfold sw2B at hw
  simp only [Bool.and_eq_true, Bool.not_eq_true', decide_eq_true_eq] at hw
  obtain ⟨⟨w1, w2⟩, ⟨w3, w4⟩, w5, w6⟩ := hw
  refine ps_imp (ps_par o.calm o.nd n1 n2 hij l1 l2 hx (sw_two hk l1 l2 w1 w2 w3 w4 w5 w6)) fun D σ H ⟨d, ρ, S, s, h⟩ => ?_
  simp only [evS] at h
  refine s.tpS (R' := RvsR c) h fun rs ρ1 S1 vs d1 H1 s1 r1 hh => ?_
  split at hh
  · rename_i ρ2 q
    have s2 := Sim.putRs (s.comp s1) (r1.up s) q
    have : ∃ u v, vs = [u, v] := by
      match rs, q, r1 with
      | [a, b], q, ⟨u, _, e1, _, ⟨v, _, e2, _, e3, _⟩, _⟩ =>
        have e3 : _ = [] := e3
        exact ⟨u, v, by rw [e1, e2, e3]⟩
      | [], q, _ => cases q
      | [a], q, _ => simp only [NV.putRs] at q; split at q <;> cases q
      | _ :: _ :: _ :: _, q, _ =>
        simp only [NV.putRs] at q
        split at q
        · split at q <;> cases q
        · cases q
    obtain ⟨u, v, rfl⟩ := this
    exact ⟨u, v, rfl, hh _ d1 H1 s2 .refl⟩
  · exact hh.elim
theorem s_par3 (o : CxOk c k ex cf X) (hk : X.env.scope.kind = .function) {i j l : Nat} {x y z : Str} {a b q : Expr} {m : M} {px py pz pt p2 pos : Pos} {kt k2 : Nat} (h1 : locB k i x = true) (h2 : locB k j y = true) (h3 : locB k l z = true) (hij : i ≠ j) (hil : i ≠ l) (hjl : j ≠ l) (hx : PA X [a, b, q] (TRs c ex (evR cf m)))
    (hl : (py.line == px.line) = true) (hl2 : (pz.line == px.line) = true) (hn : x ≠ y) (hn2 : x ≠ z) (hn3 : y ≠ z) (hs : noStar a = true) (hs2 : noStar b = true) (hs3 : noStar q = true) (hf : ([a, b, q].all (foldedForSure 8)) = false) (hc : ([a, b, q].all (constantsAlone 8)) = false) :
    PS X (.Assign [.Tuple [.Name x px, .Name y py, .Name z pz] kt pt] (.Tuple [a, b, q] k2 p2) pos) (TSt c ex e (evS cf (.par [i, j, l] m))) := by
  obtain ⟨n1, l1⟩ := loc_of o h1
  obtain ⟨n2, l2⟩ := loc_of o h2
  obtain ⟨n3, l3⟩ := loc_of o h3
  refine ps_imp (ps_par3 o.calm o.nd n1 n2 n3 hij hil hjl l1 l2 l3 hx (sw_three hk l1 l2 l3 hl hl2 hn hn2 hn3 hs hs2 hs3 hf hc)) fun D σ H ⟨d, ρ, S, s, h⟩ => ?_
  simp only [evS] at h
  refine s.tpS (R' := RvsR c) h fun rs ρ1 S1 vs d1 H1 s1 r1 hh => ?_
  split at hh
  · rename_i ρ2 q
    have s2 := Sim.putRs (s.comp s1) (r1.up s) q
    have : ∃ u v w, vs = [u, v, w] := by
      match rs, q, r1 with
      | [a, b, z], q, ⟨u, _, e1, _, ⟨v, _, e2, _, ⟨w, _, e3, _, e4, _⟩, _⟩, _⟩ =>
        have e4 : _ = [] := e4
        exact ⟨u, v, w, by rw [e1, e2, e3, e4]⟩
      | [], q, _ => cases q
      | [a], q, _ => simp only [NV.putRs] at q; split at q <;> cases q
      | [a, b], q, _ =>
        simp only [NV.putRs] at q
        split at q
        · split at q <;> cases q
        · cases q
      | _ :: _ :: _ :: _ :: _, q, _ =>
        simp only [NV.putRs] at q
        split at q
        · split at q
          · split at q <;> cases q
          · cases q
        · cases q
    obtain ⟨u, v, w, rfl⟩ := this
    exact ⟨u, v, w, rfl, hh _ d1 H1 s2 .refl⟩
  · exact hh.elim
/-! ### loops -/
theorem s_whl (o : CxOk c k ex cf X) (hp : PassesOwn (model X.prog X.w) X.A X.env X.xe) {t : Expr} {B : List Stmt} {mt : M} {mb : MS} {n : Nat} {pos : Pos} (ht : EOk c ex X t (evE cf mt)) (hb : PSs X B (TSt c ex e (evS cf mb))) : PS X (.While t B [] pos) (TSt c ex e (evS cf (.whl n mt mb))) := ps_imp (ps_while hp ht.pt hb) fun D σ H ⟨d, ρ, S, s, h⟩ => by
  simp only [evS] at h
  refine ⟨fun m σ1 H1 => ∃ d1 ρ1 S1, Sim c e d1 ρ1 S1 σ1 H1 ∧ FlP c ex e D d1 H1 (whileL (tst (evE cf mt)) (evS cf mb) m ρ1 S1), ⟨n, d, ρ, S, s, h⟩, ?_⟩
  rintro m σ1 H1 ⟨d1, ρ1, S1, s1, h1⟩
  cases m with
  | zero => exact h1.elim
  | succ m =>
    simp only [whileL] at h1
    refine s1.tpS (R' := fun _ _ _ _ _ a b => b = a) h1 fun b ρ2 S2 b' d2 H2 s2 eb h2 => ?_
    have eb : b' = b := eb
    subst eb
    have s3 := s1.comp s2
    cases b' with
    | false => exact h2 σ1 d2 H2 s3 .refl
    | true =>
      rw [if_pos rfl]
      rw [if_pos rfl] at h2
      refine ⟨fun σ' H' => ∃ d1 ρ1 S1, Sim c e d1 ρ1 S1 σ' H' ∧ FlP c ex e D d1 H' (whileL (tst (evE cf mt)) (evS cf mb) m ρ1 S1), fun σ' H' w => ⟨m, Nat.lt_succ_self _, w⟩, d2, ρ2, S2, s3, ?_⟩
      cases q : evS cf mb ρ2 S2 with
      | stuck => rw [q] at h2; exact h2
      | exn n w ρ3 S3 => rw [q] at h2; exact h2
      | ok f ρ3 S3 =>
        rw [q, Out.bind_ok] at h2
        cases f with
        | nx => exact fun σ' d' H' s4 l => ⟨d', ρ3, S3, s4, h2.from l⟩
        | ct => exact fun σ' d' H' s4 l => ⟨d', ρ3, S3, s4, h2.from l⟩
        | br => exact h2
        | rt r => exact h2
theorem s_for (o : CxOk c k ex cf X) (hp : PassesOwn (model X.prog X.w) X.A X.env X.xe) {tg it : Expr} {B : List Stmt} {mg mi : M} {mb : MS} {pos : Pos} (hi : PI X tg it (TIt c ex (evI cf mi))) (hg : PG X tg (TGt c mg)) (hb : PSs X B (TSt c ex e (evS cf mb))) (hs : ∀ x, foldedSetIterable it X.env x = pure x) :
    PS X (.For tg it B [] pos) (TSt c ex e (evS cf (.forr mg mi mb))) := ps_imp (ps_for hp o.calm hi hg hb hs) fun D σ H ⟨d, ρ, S, s, h⟩ => by
  simp only [evS] at h
  refine ⟨_, d, ρ, S, s.rb, ?_⟩
  cases q : evI cf mi ρ S with
  | stuck => rw [q] at h; exact h
  | exn n w ρ1 S1 => rw [q] at h; exact fun d1 H1 s1 => h σ d1 H1 (s.comp s1) s1.le0
  | ok ws ρ1 S1 =>
    rw [q, Out.bind_ok] at h
    intro J d1 H1 s1 itr
    have h := h.from s1.le0
    refine ⟨fun i m σ2 H2 => m = ws.length - i ∧ i ≤ ws.length ∧ ∃ d2 ρ2 S2, Sim c e d2 ρ2 S2 σ2 H2 ∧ Le d1 H1 d2 H2 ∧ FlP c ex e D d2 H2 (forL (asgT mg) (evS cf mb) (ws.drop i) ρ2 S2), ⟨ws.length, by simp, Nat.zero_le _, d1, ρ1, S1, s.comp s1, .refl, h⟩, ?_⟩
    rintro i m σ2 H2 ⟨rfl, hi3, d2, ρ2, S2, s2, le, h2⟩
    obtain ⟨it1, it2⟩ := itr d2 H2 le s2.dom
    by_cases hlt : i < ws.length
    · refine .inr ?_
      have hw : ws[i]? = some ws[i] := List.getElem?_eq_getElem hlt
      obtain ⟨go, it3⟩ := it2 i _ hw
      refine ⟨go, fun σ3 H3 => ∃ d2 ρ2 S2, Sim c e d2 ρ2 S2 σ3 H3 ∧ Le d1 H1 d2 H3 ∧ FlP c ex e D d2 H3 (forL (asgT mg) (evS cf mb) (ws.drop (i + 1)) ρ2 S2), fun σ3 H3 p => ⟨ws.length - (i + 1), by omega, rfl, hlt, p⟩, fun x H4 y => ?_⟩
      obtain ⟨N, g, rep⟩ := it3 x H4 y
      have t4 := s2.grow g
      have le4 := le.trans (g.le s2.dom)
      rw [List.drop_eq_getElem_cons hlt] at h2
      simp only [forL] at h2
      cases ha : asgT mg ws[i] ρ2 with
      | none => rw [ha] at h2; exact h2.elim
      | some ρ4 =>
        rw [ha] at h2
        have h2 := h2.from (g.le s2.dom)
        refine ⟨_, _, ρ2, S2, ws[i], t4, rep, ρ4, ha, fun σ5 t5 _ _ => ?_⟩
        refine ⟨_, ρ4, S2, t5, ?_⟩
        simp only at h2
        cases q : evS cf mb ρ4 S2 with
        | stuck => rw [q] at h2; exact h2
        | exn n w ρ3 S3 => rw [q] at h2; exact h2
        | ok f ρ3 S3 =>
          rw [q, Out.bind_ok] at h2
          cases f with
          | nx => exact fun σ' d' H' s4 l => ⟨d', ρ3, S3, s4, le4.trans l, h2.from l⟩
          | ct => exact fun σ' d' H' s4 l => ⟨d', ρ3, S3, s4, le4.trans l, h2.from l⟩
          | br => exact h2
          | rt r => exact h2
    · have hi4 : i = ws.length := by omega
      rw [hi4, List.drop_length] at h2
      simp only [forL] at h2
      exact .inl ⟨it1 i (by omega), h2 σ2 d2 H2 s2 .refl⟩
end
end NV
set_option Elab.async false
set_option linter.all false
set_option maxRecDepth 100000
set_option maxHeartbeats 1000000
/-! # Comprehensions as values; defs -/
namespace NV
open PySem PySem.Spec PyProof.Rows L2
section
variable {c : Cn} {k : Ck} {ex exB : EX} {cf : CallF} {X : Cx}
variable {e : Ent} {d d' : Wd} {ρ ρ' : Env} {S S' : Sto} {σ : L2.St} {H H' : Hp} {tg : Expr} {D : Ends}
theorem ok_edict {pos : Pos} : EOk c ex X (.Dict [] [] pos) (evE cf .edict) := by
  refine .of_plain (pe_imp pe_dnewK fun σ H Q ⟨e, d, ρ, S, s, h⟩ p hp => ?_) (fun _ => rfl) (fun _ _ _ z => by cases z)
  simp only [evE] at h
  refine s.fin h ⟨(· = p), .one hp, ?_⟩
  show Rep c (d.more (· = p)) (upd H p (.dK [])) (.dct [] []) (.ref p)
  simp only [Rep]
  exact ⟨p, [], rfl, .inr rfl, upd_same, .nil, .nil⟩
theorem EOk.lc {elt tg iter : Expr} {ifs : List Expr} {scope : Scope} {own : List (Str × Nat)} {pos : Pos} {src tgt cond me : M} (o : CxOk c k ex cf X) (ok : BlkOk X.N X.env.scope scope own)
    (hi : PI X tg iter (TIt c ex (evI cf src)))
    (hg : ∀ (s : Shared) (H : Hp) (C : Addr) (cl : List (Str × Addr)) (fp : List Addr), PG (X.blk s H scope (compEnvC scope cl C X.env) fp) tg (TGt c tgt))
    (ht : ∀ (s : Shared) (H : Hp) (C : Addr) (cl : List (Str × Addr)) (fp : List Addr), PTs (X.blk s H scope (compEnvC scope cl C X.env) fp) ifs (TBo c exB (tst (evE cf cond))))
    (he : ∀ (s : Shared) (H : Hp) (C : Addr) (cl : List (Str × Addr)) (fp : List Addr), PE (X.blk s H scope (compEnvC scope cl C X.env) fp) elt (TV c exB (evE cf me)))
    (hs : ∀ x, foldedSetIterable iter X.env x = pure x) (hsl : ∀ i ∈ slotsT tgt, i ∈ own.map (·.2)) : EOk c ex X (.ListComp elt [⟨tg, iter, ifs, 0⟩] scope pos) (evE cf (.lc (own.map (·.2)) src tgt cond me)) :=
  .of_plain (pe_imp (pe_lc o.calm o.nd hi ok hg ht he hs) (g_lc o (pos := pos) ok hi hg ht he hs hsl)) (fun _ => rfl) (fun _ _ _ z => by cases z)
def swLc (k : Ck) (y : Str) (py pos : Pos) (scope : Scope) : Bool := (decide (k.sc.names.lookup y = some .local) && (py.line == pos.line)) && !(scope.names.any fun (n, k) => n == y && (k == .local || k == .cell))
theorem s_asgLc {elt tg iter : Expr} {ifs : List Expr} {scope : Scope} {own : List (Str × Nat)} {pos spos py : Pos} {src tgt cond me : M} {i : Nat} {y : Str} (o : CxOk c k ex cf X) (hk : X.env.scope.kind = .function) (ha : asgB k i y = true) (ok : BlkOk X.N X.env.scope scope own)
    (hi : PI X tg iter (TIt c ex (evI cf src)))
    (hg : ∀ (s : Shared) (H : Hp) (C : Addr) (cl : List (Str × Addr)) (fp : List Addr), PG (X.blk s H scope (compEnvC scope cl C X.env) fp) tg (TGt c tgt))
    (ht : ∀ (s : Shared) (H : Hp) (C : Addr) (cl : List (Str × Addr)) (fp : List Addr), PTs (X.blk s H scope (compEnvC scope cl C X.env) fp) ifs (TBo c exB (tst (evE cf cond))))
    (he : ∀ (s : Shared) (H : Hp) (C : Addr) (cl : List (Str × Addr)) (fp : List Addr), PE (X.blk s H scope (compEnvC scope cl C X.env) fp) elt (TV c exB (evE cf me)))
    (hs : ∀ x, foldedSetIterable iter X.env x = pure x) (hsl : ∀ i ∈ slotsT tgt, i ∈ own.map (·.2)) : PS X (.Assign [.Name y py] (.ListComp elt [⟨tg, iter, ifs, 0⟩] scope pos) spos) (TSt c ex e (evS cf (.asg i (.lc (own.map (·.2)) src tgt cond me)))) := by
  obtain ⟨h1, h2, h3⟩ := asg_loc o ha
  have key := asg_key (e := e) (i := i) o (g_lc o (pos := pos) ok hi hg ht he hs hsl)
  cases hsw : swLc k y py pos scope with
  | true =>
    unfold swLc at hsw
    simp only [Bool.and_eq_true, Bool.not_eq_true', decide_eq_true_eq] at hsw
    have hl : X.env.scope.names.lookup y = some .local := by rw [o.sc]; exact hsw.1.1
    exact ps_imp (ps_setLc o.calm o.nd h1 hl (sw_true hk hl hsw.1.2 hsw.2) hi ok hg ht he hs) key
  | false =>
    refine ps_imp (ps_set o.nd h1 h2 (pe_lc o.calm o.nd hi ok hg ht he hs) ?_ h3) key
    have hb : X.env.blockKind = .function := by unfold Env.blockKind; rw [hk]; rfl
    have ky : X.env.kindOf y = k.sc.names.lookup y := by show X.env.scope.names.lookup y = _; rw [o.sc]
    unfold swLc at hsw
    unfold swapsWith
    simp only [hb, ky, Expr.pos]
    have e1 : (some NameKind.local == some NameKind.local) = true := rfl
    have : (k.sc.names.lookup y == some .local) = decide (k.sc.names.lookup y = some .local) := by
      by_cases z : k.sc.names.lookup y = some .local
      · rw [z]; rfl
      · rw [decide_eq_false z, beq_eq_false_iff_ne]; exact z
    rw [this]
    rw [show (ScopeKind.function == ScopeKind.function) = true from rfl, Bool.true_and]
    rw [hsw]
/-! ### defs -/
theorem Sim.ext (s : Sim c e d ρ S σ H) (n : Nat) : Sim c e d (ρ ++ List.replicate n none) S (σ ++ List.replicate n none) H := by
  have getE : ∀ {i : Nat} {sv : SV}, (ρ ++ List.replicate n none)[i]? = some (some sv) → ρ[i]? = some (some sv) := fun {i sv} z => by
    by_cases hi : i < ρ.length
    · rwa [List.getElem?_append_left hi] at z
    · rw [List.getElem?_append_right (by omega), List.getElem?_replicate] at z
      split at z <;> cases z
  have getS : ∀ {i : Nat} {v : V}, (σ ++ List.replicate n none)[i]? = some (some v) → σ[i]? = some (some v) := fun {i v} z => by
    by_cases hi : i < σ.length
    · rwa [List.getElem?_append_left hi] at z
    · rw [List.getElem?_append_right (by omega), List.getElem?_replicate] at z
      split at z <;> cases z
  have putE : ∀ {i : Nat} {sv : SV}, ρ[i]? = some (some sv) → (ρ ++ List.replicate n none)[i]? = some (some sv) := fun {i sv} z => by
    rw [List.getElem?_append_left (List.getElem?_eq_some_iff.mp z).1]; exact z
  have putS : ∀ {i : Nat} {v : V}, σ[i]? = some (some v) → (σ ++ List.replicate n none)[i]? = some (some v) := fun {i v} z => by
    rw [List.getElem?_append_left (List.getElem?_eq_some_iff.mp z).1]; exact z
  have back : ∀ j b, ownAt (ρ ++ List.replicate n none) (σ ++ List.replicate n none) j b → ownAt ρ σ j b := fun j b ⟨⟨l, z⟩, z2⟩ => ⟨⟨l, getE z⟩, getS z2⟩
  exact {
    le0 := s.le0
    dom := s.dom
    fr := s.fr
    new := s.new
    mun := s.mun
    dm := s.dm
    mlen := s.mlen
    nodup := s.nodup
    cell := s.cell
    len := by rw [List.length_append, List.length_append, s.len, List.length_replicate, List.length_replicate]
    slot := fun j sv q => by
      obtain ⟨v, q1, q2⟩ := s.slot j sv (getE q)
      exact ⟨v, putS q1, q2⟩
    own := fun j b hb => s.own j b (back j b hb)
    inj := fun j j' b h1 h2 => s.inj j j' b (back _ _ h1) (back _ _ h2)
    par := fun p hp => by
      obtain ⟨q1, l, q2⟩ := s.par p hp
      exact ⟨putS q1, l, putE q2⟩ }
/-- the parameters, behind the body -/
def backP : List SV → Env → Env
  | [], _ => []
  | .val w :: r, _ :: t => some (.val w) :: backP r t
  | .own _ :: r, s :: t => s :: backP r t
  | .val w :: r, [] => some (.val w) :: backP r []
  | .own _ :: r, [] => none :: backP r []
theorem backP_len : ∀ {args : List SV} {ρ : Env}, (backP args ρ).length = args.length
  | [], _ => rfl
  | .val _ :: r, _ :: t => congrArg Nat.succ (backP_len (args := r) (ρ := t))
  | .own _ :: r, _ :: t => congrArg Nat.succ (backP_len (args := r) (ρ := t))
  | .val _ :: r, [] => congrArg Nat.succ (backP_len (args := r) (ρ := []))
  | .own _ :: r, [] => congrArg Nat.succ (backP_len (args := r) (ρ := []))
theorem backP_at : ∀ {args : List SV} {ρ : Env} {j : Nat} {sv : SV}, (backP args ρ)[j]? = some (some sv) → (∃ w, args[j]? = some (.val w) ∧ sv = .val w) ∨ (∃ l, args[j]? = some (.own l) ∧ ρ[j]? = some (some sv))
  | .val w :: r, _ :: t, 0, sv, h => by cases h; exact .inl ⟨w, rfl, rfl⟩
  | .own l :: r, s :: t, 0, sv, h => by
    have h : s = some sv := by simpa [backP] using h
    exact .inr ⟨l, rfl, by rw [h]; rfl⟩
  | .val w :: r, [], 0, sv, h => by cases h; exact .inl ⟨w, rfl, rfl⟩
  | .own l :: r, [], 0, sv, h => by cases h
  | .val w :: r, _ :: t, j + 1, sv, h => by simpa using backP_at (args := r) (ρ := t) (j := j) (by simpa [backP] using h)
  | .own l :: r, s :: t, j + 1, sv, h => by simpa using backP_at (args := r) (ρ := t) (j := j) (by simpa [backP] using h)
  | .val w :: r, [], j + 1, sv, h => by simpa using backP_at (args := r) (ρ := []) (j := j) (by simpa [backP] using h)
  | .own l :: r, [], j + 1, sv, h => by simpa using backP_at (args := r) (ρ := []) (j := j) (by simpa [backP] using h)
theorem backP_own : ∀ {args : List SV} {ρ : Env} {j : Nat} {l : Bool × List W} {sv : SV}, args[j]? = some (.own l) → ρ[j]? = some (some sv) → (backP args ρ)[j]? = some (some sv)
  | .own l :: r, s :: t, 0, _, sv, h, h2 => by simpa [backP] using h2
  | .val w :: r, _ :: t, j + 1, _, sv, h, h2 => by simpa [backP] using backP_own (args := r) (ρ := t) (j := j) (by simpa using h) (by simpa using h2)
  | .own l :: r, s :: t, j + 1, _, sv, h, h2 => by simpa [backP] using backP_own (args := r) (ρ := t) (j := j) (by simpa using h) (by simpa using h2)
theorem Sim.params {args : List SV} {vs : List V} (s : Sim c e d (args.map some) S (vs.map some) H) (hP : ∀ i a, ownAt (args.map some) (vs.map some) i a → (i, a) ∈ e.P) (t : Sim c e d' ρ' S' σ H') (le : Le d H d' H') :
    Sim c e d' (backP args ρ') S' (vs.map some) H' ∧ ∀ r v, RvR c e d' ρ' σ H' r v → RvR c e d' (backP args ρ') (vs.map some) H' r v := by
  have getV : ∀ {j : Nat} {v : V}, (vs.map some)[j]? = some (some v) → vs[j]? = some v := fun {j v} z => by
    rw [List.getElem?_map] at z
    cases q : vs[j]? with
    | none => rw [q] at z; cases z
    | some x => rw [q] at z; cases z; rfl
  have putA : ∀ {j : Nat} {v : SV}, args[j]? = some v → (args.map some)[j]? = some (some v) := fun {j v} z => by rw [List.getElem?_map, z]; rfl
  /- an own parameter's slot -/
  have slotO : ∀ {j : Nat} {l : Bool × List W}, args[j]? = some (.own l) → ∃ a, (vs.map some)[j]? = some (some (V.ref a)) ∧ (j, a) ∈ e.P ∧ σ[j]? = some (some (V.ref a)) := fun {j l} h => by
    obtain ⟨v, q1, a, us, e1, _⟩ := s.slot j _ (putA h)
    subst e1
    have oa : ownAt (args.map some) (vs.map some) j a := ⟨⟨l, putA h⟩, q1⟩
    have hp := hP j a oa
    exact ⟨a, q1, hp, (t.par _ hp).1⟩
  have back : ∀ j b, ownAt (backP args ρ') (vs.map some) j b → ownAt ρ' σ j b := fun j b ⟨⟨l, z⟩, z2⟩ => by
    rcases backP_at z with ⟨w, _, h2⟩ | ⟨l2, h1, h2⟩
    · cases h2
    · obtain ⟨a, q1, q2, q3⟩ := slotO h1
      rw [z2] at q1; cases q1
      exact ⟨⟨l, h2⟩, q3⟩
  have main : Sim c e d' (backP args ρ') S' (vs.map some) H' := {
    le0 := t.le0
    dom := t.dom
    fr := t.fr
    new := t.new
    mun := t.mun
    dm := t.dm
    mlen := t.mlen
    nodup := t.nodup
    cell := t.cell
    len := by
      have := s.len
      rw [List.length_map] at this
      rw [backP_len, ← this]
    slot := fun j sv z => by
      rcases backP_at z with ⟨w, h1, h2⟩ | ⟨l2, h1, h2⟩
      · subst h2
        obtain ⟨v, q1, q2⟩ := s.slot j _ (putA h1)
        exact ⟨v, q1, Rep.mono le q2⟩
      · obtain ⟨a, q1, q2, q3⟩ := slotO h1
        obtain ⟨v, q4, q5⟩ := t.slot j sv h2
        rw [q3] at q4; cases q4
        exact ⟨_, q1, q5⟩
    own := fun j b hb => t.own j b (back j b hb)
    inj := fun j j' b h1 h2 => t.inj j j' b (back _ _ h1) (back _ _ h2)
    par := fun p hp => by
      obtain ⟨q1, l, q2⟩ := s.par p hp
      obtain ⟨q3, l2, q4⟩ := t.par p hp
      refine ⟨q1, l2, ?_⟩
      rw [List.getElem?_map] at q2
      cases q : args[p.1]? with
      | none => rw [q] at q2; cases q2
      | some x =>
        rw [q] at q2; cases q2
        exact backP_own q q4 }
  refine ⟨main, fun r v hr => ?_⟩
  cases r with
  | val w => exact hr
  | fresh x =>
    obtain ⟨a, us, e1, r1, r2, r3, r4, r5, r6⟩ := hr
    exact ⟨a, us, e1, r1, r2, r3, r4, r5, fun ⟨j, z⟩ => r6 ⟨j, back j a z⟩⟩
/-- a def run -/
def runF (cf : CallF) (ar ns : Nat) (b : MS) (args : List SV) (S : Sto) : Out RV := if args.length = ar then
    match evS cf b (args.map some ++ List.replicate (ns - ar) none) S with
    | .ok (.rt r) ρ S' => .ok r (backP args ρ) S'
    | .ok .nx ρ S' => .ok (.val .non) (backP args ρ) S'
    | .exn k w ρ S' => .exn k w (backP args ρ) S'
    | _ => .stuck
  else .stuck
theorem FnG.of {CX : CXT} {P : Program} {w : World} {K : PySem.W.Frag} {mg : Str → Option Value} {base : Heap} {k : Nat} {f : Addr} {name qual : Str} {params : Arguments} {body : List Stmt} {scope : Scope} {dV kV doc pm cdv ct oc : Value} {an od : Option Addr}
    {osl : Array (Option Value)} {N ps : List Str} {sp : Sp} (lk : K.lookup f = some ⟨oc, od, .func (PySem.W.fnOf name qual params body scope dV kV doc pm an cdv ct), osl⟩) (hcd : PySem.W.codeIn K cdv qual = true) (S : FnScope N ps scope)
    (len : ∀ vs H Q E, sp vs H Q E → vs.length = ps.length)
    (hbody : ∀ (A : Around) (outer : List PySem.Env) (s : Shared) (H : Hp) (vs : List V) (Q : VK) (E : XK), Room k (A.deeper (envOfC qual scope s.heap.objs.size f cdv)) → A.guards = some [] → sp vs H Q E →
      ∃ t, PSs (cxOf CX P w K mg base N qual scope f cdv A outer s H E) body t ∧ t { nx := fun _ H' => Q .non H', rt := Q } (start N vs) H) :
    FnG P w K mg base CX (k + 1) f (PySem.W.fnOf name qual params body scope dV kV doc pm an cdv ct) ps sp := by
  refine ⟨len, fun A outer s H args us vs Q E hr hg e0 hb r hsp => ?_⟩
  have hl := len _ _ _ _ hsp
  have KX : K.In s.heap := e0.mod.kin.keeps fun b o e => (e0.bs b o e).1
  have lim : s.heap.NoLimit := e0.mod.nolimit.keeps fun b o e => (e0.bs b o e).1
  have hkind : ∀ y ∈ ps.zip us, scope.names.lookup y.1 = some .local ∨ (scope.names.lookup y.1 = some .cell ∧ ((cellsFrom (s.heap.objs.size + 1) scope.names []).lookup y.1).isSome = true) := fun ⟨n, v⟩ hy => by
    rcases S.par n (List.of_mem_zip hy).1 with q | q
    · exact .inl q
    · exact .inr ⟨q, PySem.W.cellsFrom_some _ _ _ (.inl q)⟩
  refine codeAny_call_function hr.depth (KX _ _ lk) rfl S.co S.gen rfl (PySem.W.codeRec_of KX hcd) (hb _ _ _ _ ?_)
  refine wpAny_newFunctionEnv_cells S.kind hkind fun env he s1 x => ?_
  subst he
  refine ⟨lim.keeps x.toInCall.keep, codeAny_func ?_⟩
  obtain ⟨t, ht, hq⟩ := hbody A outer s H vs Q E (hr.deeper _) hg hsp
  have I : Inv (cxOf CX P w K mg base N qual scope f cdv A outer s H E) [] (start N vs) H s1 := inv_start S hr.hd e0 hl r x
  refine wpAny_mono (ht.run [] s1 (start N vs) H _ I hq) (fun fl s' hs => ?_) fun e s' hs => hs
  have fin : ∀ {σ' : L2.St} {H' : Hp} {v : V} {u : Value}, Inv (cxOf CX P w K mg base N qual scope f cdv A outer s H E) [] σ' H' s' → RelV v u → Q v H' → CE outer P w H s Q u s' :=
    fun {σ' H' v u} J rv q => ⟨v, H', J.os, J.bare, J.base, J.hok, rv, q⟩
  cases fl with
  | ret u =>
    obtain ⟨v, σ', H', J, rv, q⟩ := hs
    exact fin J rv q
  | next =>
    obtain ⟨σ', H', J, q⟩ := hs
    exact fin (v := V.non) (u := Value.none) J rfl q
  | brk =>
    obtain ⟨_, _, _, q⟩ := hs
    exact False.elim q
  | cont =>
    obtain ⟨_, _, _, q⟩ := hs
    exact False.elim q
end
end NV
set_option Elab.async false
set_option linter.all false
set_option maxRecDepth 100000
set_option maxHeartbeats 4000000
/-! # This text is that little text -/
namespace NV
open PySem PySem.Spec PyProof.Rows L2
mutual
def W.beq : W → W → Bool
  | .non, .non => true
  | .bl a, .bl b => a == b
  | .int a, .int b => decide (a = b)
  | .str a, .str b => decide (a = b)
  | .tup a, .tup b => W.beqs a b
  | .lst a, .lst b => W.beqs a b
  | .flst a, .flst b => W.beqs a b
  | .dct a b, .dct a' b' => W.beqs a a' && W.beqs b b'
  | .fn a, .fn b => decide (a = b)
  | _, _ => false
def W.beqs : List W → List W → Bool
  | [], [] => true
  | a :: r, b :: t => W.beq a b && W.beqs r t
  | _, _ => false
end
mutual
theorem W.beq_eq : ∀ {a b : W}, W.beq a b = true → a = b
  | .non, b, h => by cases b <;> first | rfl | (simp only [W.beq] at h; cases h)
  | .bl a, b, h => by cases b <;> first | (simp only [W.beq] at h; rw [eq_of_beq h]) | (simp only [W.beq] at h; cases h)
  | .int a, b, h => by cases b <;> first | (simp only [W.beq] at h; rw [of_decide_eq_true h]) | (simp only [W.beq] at h; cases h)
  | .str a, b, h => by cases b <;> first | (simp only [W.beq] at h; rw [of_decide_eq_true h]) | (simp only [W.beq] at h; cases h)
  | .tup a, b, h => by cases b <;> first | (simp only [W.beq] at h; rw [W.beqs_eq h]) | (simp only [W.beq] at h; cases h)
  | .lst a, b, h => by cases b <;> first | (simp only [W.beq] at h; rw [W.beqs_eq h]) | (simp only [W.beq] at h; cases h)
  | .flst a, b, h => by cases b <;> first | (simp only [W.beq] at h; rw [W.beqs_eq h]) | (simp only [W.beq] at h; cases h)
  | .dct a a', b, h => by
    cases b <;> first | (simp only [W.beq, Bool.and_eq_true] at h; rw [W.beqs_eq h.1, W.beqs_eq h.2]) | (simp only [W.beq] at h; cases h)
  | .fn a, b, h => by cases b <;> first | (simp only [W.beq] at h; rw [of_decide_eq_true h]) | (simp only [W.beq] at h; cases h)
  | .ref a, b, h => by cases b <;> (simp only [W.beq] at h; cases h)
  | .exc a w, b, h => by cases b <;> (simp only [W.beq] at h; cases h)
theorem W.beqs_eq : ∀ {a b : List W}, W.beqs a b = true → a = b
  | [], b, h => by cases b <;> first | rfl | (simp only [W.beqs] at h; cases h)
  | x :: r, b, h => by
    cases b <;> first | (simp only [W.beqs, Bool.and_eq_true] at h; rw [W.beq_eq h.1, W.beqs_eq h.2]) | (simp only [W.beqs] at h; cases h)
end
def hasGc (k : Ck) (x : Str) (w : W) : Bool := k.gcs.any fun p => decide (p.1 = x) && W.beq p.2 w
theorem hasGc_mem {k : Ck} {x : Str} {w : W} (h : hasGc k x w = true) : (x, w) ∈ k.gcs := by
  unfold hasGc at h
  rw [List.any_eq_true] at h
  obtain ⟨p, h1, h2⟩ := h
  rw [Bool.and_eq_true, decide_eq_true_eq] at h2
  rw [← h2.1, ← W.beq_eq h2.2]; exact h1
def hasGd (k : Ck) (x : Str) (ks vs : List W) : Bool := k.gds.any fun p => decide (p.1 = x) && (W.beqs p.2.1 ks && W.beqs p.2.2 vs)
theorem hasGd_mem {k : Ck} {x : Str} {ks vs : List W} (h : hasGd k x ks vs = true) : (x, ks, vs) ∈ k.gds := by
  unfold hasGd at h
  rw [List.any_eq_true] at h
  obtain ⟨p, h1, h2⟩ := h
  simp only [Bool.and_eq_true, decide_eq_true_eq] at h2
  rw [← h2.1, ← W.beqs_eq h2.2.1, ← W.beqs_eq h2.2.2]; exact h1
def isNilM : M → Bool
  | .nil => true
  | _ => false
theorem isNil_eq {m : M} (h : isNilM m = true) : m = .nil := by cases m <;> first | rfl | cases h
def isYes : M → Bool
  | .cst (.bl true) => true
  | _ => false
theorem isYes_eq {m : M} (h : isYes m = true) : m = .cst (.bl true) := by
  unfold isYes at h
  split at h
  · rfl
  · cases h
def noSet : Expr → Bool
  | .Set _ _ _ => false
  | _ => true
theorem noSet_of {e : Expr} {env : PySem.Env} (h : noSet e = true) (x : Value) : foldedSetIterable e env x = pure x := by
  cases e <;> first | rfl | cases h
def few1 : List Expr → Bool
  | [] => true
  | [e] => noStar e
  | _ => false
def isTupE : Expr → Bool
  | .Tuple _ _ _ => true
  | _ => false
/-- a comprehension's own names -/
def ownN (k : Ck) (own : List Nat) : List (Str × Nat) := own.map fun i => ((k.N[i]?).getD "", i)
theorem ownN_snd {k : Ck} {own : List Nat} : (ownN k own).map (·.2) = own := by
  unfold ownN
  rw [List.map_map]
  exact List.map_id _
def argC (k : Ck) (f : Expr → Bool) : M → Expr → Bool
  | .pk i, e => match e with
    | .Name x _ => visB k i x
    | _ => false
  | _, e => f e
def optC (f : Expr → Bool) : M → Option Expr → Bool
  | .nil, e => e.isNone
  | _, e => match e with
    | some x => f x
    | none => false
mutual
def chkT (k : Ck) : M → Expr → Bool
  | .tnm i, e => match e with
    | .Name x _ => asgB k i x
    | _ => false
  | .ttup ts, e => match e with
    | .Tuple es _ _ => chkTs k ts es
    | _ => false
  | _, _ => false
def chkTs (k : Ck) : M → List Expr → Bool
  | .nil, es => es.isEmpty
  | .cons a b, es => match es with
    | e :: r => (chkT k a e && isTgt e) && chkTs k b r
    | [] => false
  | _, _ => false
end
mutual
def chkE (k : Ck) : M → Expr → Bool
  | .cst w, e => match e with
    | .Constant c _ _ => constEq c w
    | _ => false
  | .nm i, e => match e with
    | .Name x _ => visB k i x
    | _ => false
  | .gf f, e => match e with
    | .Name x _ => glB k x && decide (k.fns[f]? = some x)
    | _ => false
  | .gc y w, e => match e with
    | .Name x _ => decide (x = y) && (glB k y && hasGc k y w)
    | _ => false
  | .gd y ks vs m, e => match e with
    | .Subscript (.Name x _) a _ => decide (x = y) && ((glB k y && hasGd k y ks vs) && (chkE k m a && noSlice a))
    | _ => false
  | .tup m, e => match e with
    | .Tuple es _ _ => chkA k m es
    | _ => false
  | .lst m, e => match e with
    | .List es _ => chkA k m es
    | _ => false
  | .op2 p a b, e => match p, e with
    | .bin o, .BinOp x o' y _ => decide (o = o') && (argC k (chkE k a) a x && argC k (chkE k b) b y)
    | .cmp o, .Compare x [o'] [y] _ => (decide (o = o') && !(behindInMarks o y)) && (argC k (chkE k a) a x && argC k (chkE k b) b y)
    | .ix, .Subscript x y _ => noSlice y && (argC k (chkE k a) a x && argC k (chkE k b) b y)
    | _, _ => false
  | .neg a, e => match e with
    | .UnaryOp .USub x _ => chkE k a x
    | _ => false
  | .sl a lo hi, e => match e with
    | .Subscript x (.Slice l h none _) _ => argC k (chkE k a) a x && (optC (chkE k lo) lo l && optC (chkE k hi) hi h)
    | _ => false
  | .bi b m, e => match e with
    | .Call (.Name x _) (y :: es) [] _ => (decide (x = biN b) && (glB k (biN b) && decide (biN b ∈ k.free))) && (chkA k m (y :: es) && (noStar y && es.all noStar))
    | _ => false
  | .me me m ma, e => match e with
    | .Call (.Attribute a n apos) [] [] pos => (decide (me = .bitLength) && decide (n = "bit_length")) && ((argC k (chkE k m) m a && isNilM ma) && (baseB a && (apos.endLine == pos.line)))
    | .Call (.Attribute a n apos) [x] [] pos => ((decide (me = .join) || decide (me = .count)) && decide (n = meN me)) && ((argC k (chkE k m) m a && (chkA k ma [x] && noStar x)) && (baseB a && (apos.endLine == pos.line)))
    | _ => false
  | .isi a ts, e => match e with
    | .Call (.Name x _) [y, t] [] _ => (decide (x = "isinstance") && (glB k "isinstance" && decide (("isinstance" : Str) ∈ k.free))) && (argC k (chkE k a) a y && (noStar y && isiB k ts t))
    | _ => false
  | .and a b, e => match e with
    | .BoolOp .And [x, y] _ => chkE k a x && chkE k b y
    | .BoolOp .And (x :: y :: z :: r) pos => chkE k a x && chkE k b (.BoolOp .And (y :: z :: r) pos)
    | _ => false
  | .or a b, e => match e with
    | .BoolOp .Or [x, y] _ => chkE k a x && chkE k b y
    | .BoolOp .Or (x :: y :: z :: r) pos => chkE k a x && chkE k b (.BoolOp .Or (y :: z :: r) pos)
    | _ => false
  | .not a, e => match e with
    | .UnaryOp .Not x _ => chkE k a x
    | _ => false
  | .ite t a b, e => match e with
    | .IfExp x y z _ => chkE k t x && (chkE k a y && chkE k b z)
    | _ => false
  | .chain o1 o2 a b c, e => match e with
    | .Compare x [p, q] [y, z] _ => ((decide (o1 = p) && decide (o2 = q)) && !(lastMarks [p, q] [y, z])) && (chkE k a x && (chkE k b y && chkE k c z))
    | _ => false
  | .call f m, e => match e with
    | .Call (.Name x _) es [] _ => (glB k x && decide (k.fns[f]? = some x)) && (match k.pars[f]? with
      | some ps => (decide ps.Nodup && decide (lenM m = ps.length)) && ((chkA k m es && es.all noStar) && (!es.isEmpty || isNilM m))
      | none => false)
    | _ => false
  | .callk f perm m mk, e => match e with
    | .Call (.Name x _) es kws _ => (glB k x && decide (k.fns[f]? = some x)) && (match k.pars[f]?, kwN kws with
      | some ps, some ks => (kwB ps ks perm (lenM m) && decide (lenM mk = ks.length)) && ((chkA k m es && (chkK k mk kws && es.all noStar)) && (!es.isEmpty || isNilM m))
      | _, _ => false)
    | _ => false
  | .mut me i m, e => match e with
    | .Call (.Attribute (.Name x _) n apos) es [] pos => (decide (n = muN me) && visB k i x) && ((chkA k m es && few1 es) && ((apos.endLine == pos.line) && (!es.isEmpty || (decide (me = .pop) && isNilM m))))
    | _ => false
  | .hmut me a m, e => match e with
    | .Call (.Attribute x n apos) es [] pos => (decide (n = muN me) && (argC k (chkE k a) a x && baseB x)) && ((chkA k m es && few1 es) && ((apos.endLine == pos.line) && (!es.isEmpty || (decide (me = .pop) && isNilM m))))
    | _ => false
  | .heap a, e => chkE k a e
  | .edict, e => match e with
    | .Dict [] [] _ => true
    | _ => false
  | .lc own src tgt cond elt, e => match e with
    | .ListComp el [⟨tg, it, ifs, 0⟩] scope _ => (blkC k.N k.sc scope (ownN k own) && (noSet it && (slotsT tgt).all fun i => decide (i ∈ own))) &&
        ((chkI k src tg it && chkT (k.blk scope) tgt tg) && ((match ifs with
          | [] => isYes cond
          | [x] => chkE (k.blk scope) cond x
          | _ => false) && chkE (k.blk scope) elt el))
    | _ => false
  | _, _ => false
def chkA (k : Ck) : M → List Expr → Bool
  | .nil, es => es.isEmpty
  | .cons a b, es => match es with
    | e :: r => (argC k (chkE k a) a e && noStar e) && chkA k b r
    | [] => false
  | _, _ => false
def chkI (k : Ck) : M → Expr → Expr → Bool
  | .seq a, _, it => chkE k a it
  | .rng m, _, it => match it with
    | .Call (.Name x _) es [] _ => (decide (x = "range") && (glB k "range" && decide (("range" : Str) ∈ k.free))) && ((chkA k m es && es.all noStar) && (decide (lenM m = es.length) && (decide (1 ≤ es.length) && decide (es.length ≤ 3))))
    | _ => false
  | .enum m, tg, it => match it with
    | .Call (.Name x _) es [] _ => (decide (x = "enumerate") && (glB k "enumerate" && decide (("enumerate" : Str) ∈ k.free))) && ((chkA k m es && es.all noStar) && (decide (lenM m = es.length) && (decide (es.length = 1) && isTupE tg)))
    | _ => false
  | .zip m, tg, it => match it with
    | .Call (.Name x _) es [] _ => (decide (x = "zip") && (glB k "zip" && decide (("zip" : Str) ∈ k.free))) && ((chkA k m es && es.all noStar) && (decide (lenM m = es.length) && (decide (es.length = 2) && isTupE tg)))
    | _ => false
  | _, _, _ => false
def chkK (k : Ck) : M → List Keyword → Bool
  | .nil, ks => ks.isEmpty
  | .cons a b, ks => match ks with
    | ⟨_, e, _⟩ :: r => argC k (chkE k a) a e && chkK k b r
    | [] => false
  | _, _ => false
end
section
variable {c : Cn} {cf : CallF}
theorem EOk.heap {ex : EX} {X : Cx} {e : Expr} {m : M} (h : EOk c ex X e (evE cf m)) : EOk c ex X e (evE cf (.heap m)) := by
  have key : ∀ {σ : L2.St} {H : Hp} {Q : Bool → Hp → Prop}, TBo c ex (tst (evE cf (.heap m))) σ H Q → TBo c ex (tst (evE cf m)) σ H Q := fun {σ H Q} ⟨e, d, ρ, S, s, q⟩ => by
    refine ⟨e, d, ρ, S, s, ?_⟩
    unfold tst at q ⊢
    simp only [evE] at q
    cases hm : evE cf m ρ S with
    | stuck => rw [hm] at q; exact q.elim
    | exn n w ρ1 S1 => rw [hm] at q; exact q
    | ok r ρ1 S1 =>
      rw [hm] at q
      simp only [Out.bind_ok] at q
      cases r with
      | val w => exact q.elim
      | fresh l => exact q.elim
  exact ⟨g_heap h, pt_imp h.pt fun _ _ _ => key, fun op vs pos z => pw_imp (h.pw op vs pos z) fun _ _ _ => key⟩
theorem av_of {k : Ck} {ex : EX} {X : Cx} {m : M} {e : Expr} (o : CxOk c k ex cf X) (ih : chkE k m e = true → EOk c ex X e (evE cf m)) (h : argC k (chkE k m) m e = true) : PE X e (TAv c ex (evV cf m)) := by
  cases m <;> first | exact av_val (ih h).pe | skip
  rename_i i
  cases e <;> first | (cases h; done) | exact av_pk o h
theorem op_of {k : Ck} {ex : EX} {X : Cx} {m : M} {e : Option Expr} (ih : ∀ x, chkE k m x = true → EOk c ex X x (evE cf m)) (h : optC (chkE k m) m e = true) : PO X e (TOp c ex (evO cf m)) := by
  cases e with
  | none => cases m <;> first | (cases h; done) | exact o_none
  | some x =>
    cases m <;> first | (cases h; done) | exact o_some (ih x h).pe (fun _ _ => rfl)
theorem tgt_ok {k : Ck} {ex : EX} {X : Cx} (o : CxOk c k ex cf X) : ∀ (m : M), (∀ e, chkT k m e = true → PG X e (TGt c m)) ∧ (∀ es, chkTs k m es = true → PGs X es (TGts c m) ∧ es.all isTgt = true ∧ lenM m = es.length) := by
  intro m
  induction m with
  | tnm i =>
    refine ⟨fun e h => ?_, fun es h => (by cases h)⟩
    cases e <;> first | (cases h; done) | exact tg_nm o h
  | ttup ts ih =>
    refine ⟨fun e h => ?_, fun es h => (by cases h)⟩
    cases e <;> first | (cases h; done) | skip
    obtain ⟨h1, h2, h3⟩ := ih.2 _ h
    exact tg_tup o h1 h2 h3
  | nil =>
    refine ⟨fun e h => (by cases h), fun es h => ?_⟩
    cases es with
    | nil => exact ⟨tgs_nil, rfl, rfl⟩
    | cons e r => cases h
  | cons a b iha ihb =>
    refine ⟨fun e h => (by cases h), fun es h => ?_⟩
    cases es with
    | nil => cases h
    | cons e r =>
      simp only [chkTs, Bool.and_eq_true] at h
      obtain ⟨h1, h2, h3⟩ := ihb.2 _ h.2
      exact ⟨tgs_cons (iha.1 _ h.1.1) h1 h.1.2, by rw [List.all_cons, h.1.2, h2]; rfl, congrArg Nat.succ h3⟩
  | _ => exact ⟨fun e h => (by cases h), fun es h => (by cases h)⟩
def SoundM (c : Cn) (cf : CallF) (m : M) : Prop :=
  (∀ k ex X e, CxOk c k ex cf X → chkE k m e = true → EOk c ex X e (evE cf m)) ∧
  (∀ k ex X es, CxOk c k ex cf X → chkA k m es = true → PA X es (TAs c ex (evA cf m))) ∧
  (∀ k ex X tg it, CxOk c k ex cf X → chkI k m tg it = true → PI X tg it (TIt c ex (evI cf m))) ∧
  (∀ k ex X kws, CxOk c k ex cf X → chkK k m kws = true → PK X kws (TAs c ex (evA cf m)))
theorem few1_ok {es : List Expr} (h : few1 es = true) : ∀ e r, es = e :: r → noStar e = true ∧ r = [] := by
  intro e r z
  subst z
  cases r with
  | nil => exact ⟨h, rfl⟩
  | cons a b => cases h
theorem emp_ok {es : List Expr} {b : Bool} (h : (!es.isEmpty || b) = true) (z : es = []) : b = true := by
  subst z; simpa using h
theorem sound : ∀ m : M, SoundM c cf m := by
  intro m
  induction m with
  | cst w =>
    refine ⟨fun k ex X e o h => ?_, fun k ex X es o h => (by cases h), fun k ex X tg it o h => (by cases h), fun k ex X kws o h => (by cases h)⟩
    cases e <;> first | (cases h; done) | exact ok_cst h
  | nm i =>
    refine ⟨fun k ex X e o h => ?_, fun k ex X es o h => (by cases h), fun k ex X tg it o h => (by cases h), fun k ex X kws o h => (by cases h)⟩
    cases e <;> first | (cases h; done) | exact ok_nm o h
  | gf i =>
    refine ⟨fun k ex X e o h => ?_, fun k ex X es o h => (by cases h), fun k ex X tg it o h => (by cases h), fun k ex X kws o h => (by cases h)⟩
    cases e <;> first | (cases h; done) | exact ok_gf o h
  | gc y w =>
    refine ⟨fun k ex X e o h => ?_, fun k ex X es o h => (by cases h), fun k ex X tg it o h => (by cases h), fun k ex X kws o h => (by cases h)⟩
    cases e <;> first | (cases h; done) | skip
    simp only [chkE, Bool.and_eq_true, decide_eq_true_eq] at h
    obtain ⟨rfl, h1, h2⟩ := h
    exact gc_pe o h1 (hasGc_mem h2)
  | gd y ks vs m ih =>
    refine ⟨fun k ex X e o h => ?_, fun k ex X es o h => (by cases h), fun k ex X tg it o h => (by cases h), fun k ex X kws o h => (by cases h)⟩
    simp only [chkE] at h
    split at h <;> first | (cases h; done) | skip
    simp only [Bool.and_eq_true, decide_eq_true_eq] at h
    obtain ⟨rfl, ⟨h1, h2⟩, h3, h4⟩ := h
    exact g_gd o h1 (hasGd_mem h2) (ih.1 _ _ _ _ o h3) h4
  | tup m ih =>
    refine ⟨fun k ex X e o h => ?_, fun k ex X es o h => (by cases h), fun k ex X tg it o h => (by cases h), fun k ex X kws o h => (by cases h)⟩
    cases e <;> first | (cases h; done) | exact g_tup o (ih.2.1 _ _ _ _ o h)
  | lst m ih =>
    refine ⟨fun k ex X e o h => ?_, fun k ex X es o h => (by cases h), fun k ex X tg it o h => (by cases h), fun k ex X kws o h => (by cases h)⟩
    cases e <;> first | (cases h; done) | exact g_lst o (ih.2.1 _ _ _ _ o h)
  | op2 p a b iha ihb =>
    refine ⟨fun k ex X e o h => ?_, fun k ex X es o h => (by cases h), fun k ex X tg it o h => (by cases h), fun k ex X kws o h => (by cases h)⟩
    simp only [chkE] at h
    split at h <;> first | (cases h; done) | skip
    · simp only [Bool.and_eq_true, decide_eq_true_eq] at h
      obtain ⟨rfl, h1, h2⟩ := h
      exact g_bin o (av_of o (iha.1 _ _ _ _ o) h1) (av_of o (ihb.1 _ _ _ _ o) h2)
    · simp only [Bool.and_eq_true, decide_eq_true_eq, Bool.not_eq_true'] at h
      obtain ⟨⟨rfl, h3⟩, h1, h2⟩ := h
      exact g_cmp o (av_of o (iha.1 _ _ _ _ o) h1) (av_of o (ihb.1 _ _ _ _ o) h2) h3
    · simp only [Bool.and_eq_true] at h
      obtain ⟨h3, h1, h2⟩ := h
      exact g_ix o (av_of o (iha.1 _ _ _ _ o) h1) (av_of o (ihb.1 _ _ _ _ o) h2) h3
  | neg a ih =>
    refine ⟨fun k ex X e o h => ?_, fun k ex X es o h => (by cases h), fun k ex X tg it o h => (by cases h), fun k ex X kws o h => (by cases h)⟩
    simp only [chkE] at h
    split at h <;> first | (cases h; done) | skip
    exact g_neg o (ih.1 _ _ _ _ o h).pe
  | sl a lo hi iha ihl ihh =>
    refine ⟨fun k ex X e o h => ?_, fun k ex X es o h => (by cases h), fun k ex X tg it o h => (by cases h), fun k ex X kws o h => (by cases h)⟩
    simp only [chkE] at h
    split at h <;> first | (cases h; done) | skip
    simp only [Bool.and_eq_true] at h
    obtain ⟨h1, h2, h3⟩ := h
    exact g_sl o (av_of o (iha.1 _ _ _ _ o) h1) (op_of (fun x => ihl.1 _ _ _ _ o) h2) (op_of (fun x => ihh.1 _ _ _ _ o) h3)
  | bi b m ih =>
    refine ⟨fun k ex X e o h => ?_, fun k ex X es o h => (by cases h), fun k ex X tg it o h => (by cases h), fun k ex X kws o h => (by cases h)⟩
    simp only [chkE] at h
    split at h <;> first | (cases h; done) | skip
    simp only [Bool.and_eq_true, decide_eq_true_eq] at h
    obtain ⟨⟨rfl, h1, h2⟩, h3, h4, h5⟩ := h
    exact g_bi o h1 h2 (ih.2.1 _ _ _ _ o h3) h4 h5
  | me me m ma ih ih2 =>
    refine ⟨fun k ex X e o h => ?_, fun k ex X es o h => (by cases h), fun k ex X tg it o h => (by cases h), fun k ex X kws o h => (by cases h)⟩
    simp only [chkE] at h
    split at h <;> first | (cases h; done) | skip
    · simp only [Bool.and_eq_true, decide_eq_true_eq] at h
      obtain ⟨⟨rfl, rfl⟩, ⟨h1, h2⟩, h3, h4⟩ := h
      have := isNil_eq h2
      subst this
      exact g_bits o (av_of o (ih.1 _ _ _ _ o) h1) h3 h4
    · simp only [Bool.and_eq_true, Bool.or_eq_true, decide_eq_true_eq] at h
      obtain ⟨⟨h0, rfl⟩, ⟨h1, h2, h5⟩, h3, h4⟩ := h
      exact g_me1 o h0 (av_of o (ih.1 _ _ _ _ o) h1) (ih2.2.1 _ _ _ _ o h2) h3 h4 h5 rfl
  | isi a ts ih =>
    refine ⟨fun k ex X e o h => ?_, fun k ex X es o h => (by cases h), fun k ex X tg it o h => (by cases h), fun k ex X kws o h => (by cases h)⟩
    simp only [chkE] at h
    split at h <;> first | (cases h; done) | skip
    simp only [Bool.and_eq_true, decide_eq_true_eq] at h
    obtain ⟨⟨rfl, h1, h2⟩, h3, h4, h5⟩ := h
    exact g_isi o h1 h2 (av_of o (ih.1 _ _ _ _ o) h3) h4 h5
  | and a b iha ihb =>
    refine ⟨fun k ex X e o h => ?_, fun k ex X es o h => (by cases h), fun k ex X tg it o h => (by cases h), fun k ex X kws o h => (by cases h)⟩
    simp only [chkE] at h
    split at h <;> first | (cases h; done) | skip
    · simp only [Bool.and_eq_true] at h
      exact g_and o (iha.1 _ _ _ _ o h.1) (g_one .And (ihb.1 _ _ _ _ o h.2))
    · simp only [Bool.and_eq_true] at h
      exact g_and o (iha.1 _ _ _ _ o h.1) (ihb.1 _ _ _ _ o h.2)
  | or a b iha ihb =>
    refine ⟨fun k ex X e o h => ?_, fun k ex X es o h => (by cases h), fun k ex X tg it o h => (by cases h), fun k ex X kws o h => (by cases h)⟩
    simp only [chkE] at h
    split at h <;> first | (cases h; done) | skip
    · simp only [Bool.and_eq_true] at h
      exact g_or o (iha.1 _ _ _ _ o h.1) (g_one .Or (ihb.1 _ _ _ _ o h.2))
    · simp only [Bool.and_eq_true] at h
      exact g_or o (iha.1 _ _ _ _ o h.1) (ihb.1 _ _ _ _ o h.2)
  | not a ih =>
    refine ⟨fun k ex X e o h => ?_, fun k ex X es o h => (by cases h), fun k ex X tg it o h => (by cases h), fun k ex X kws o h => (by cases h)⟩
    simp only [chkE] at h
    split at h <;> first | (cases h; done) | skip
    exact g_not o (ih.1 _ _ _ _ o h)
  | ite t a b iht iha ihb =>
    refine ⟨fun k ex X e o h => ?_, fun k ex X es o h => (by cases h), fun k ex X tg it o h => (by cases h), fun k ex X kws o h => (by cases h)⟩
    simp only [chkE] at h
    split at h <;> first | (cases h; done) | skip
    simp only [Bool.and_eq_true] at h
    exact g_ite o (iht.1 _ _ _ _ o h.1) (iha.1 _ _ _ _ o h.2.1) (ihb.1 _ _ _ _ o h.2.2)
  | chain o1 o2 a b z iha ihb ihz =>
    refine ⟨fun k ex X e o h => ?_, fun k ex X es o h => (by cases h), fun k ex X tg it o h => (by cases h), fun k ex X kws o h => (by cases h)⟩
    simp only [chkE] at h
    split at h <;> first | (cases h; done) | skip
    simp only [Bool.and_eq_true, decide_eq_true_eq, Bool.not_eq_true'] at h
    obtain ⟨⟨⟨rfl, rfl⟩, h1⟩, h2, h3, h4⟩ := h
    exact g_chain o (iha.1 _ _ _ _ o h2) (ihb.1 _ _ _ _ o h3) (ihz.1 _ _ _ _ o h4) h1
  | call f m ih =>
    refine ⟨fun k ex X e o h => ?_, fun k ex X es o h => (by cases h), fun k ex X tg it o h => (by cases h), fun k ex X kws o h => (by cases h)⟩
    simp only [chkE] at h
    split at h <;> first | (cases h; done) | skip
    rw [Bool.and_eq_true, Bool.and_eq_true, decide_eq_true_eq] at h
    obtain ⟨⟨h1, h2⟩, h⟩ := h
    split at h
    · rename_i ps hps
      simp only [Bool.and_eq_true, decide_eq_true_eq] at h
      obtain ⟨⟨h3, h4⟩, ⟨h5, h6⟩, h7⟩ := h
      exact g_call o h1 h2 hps h3 h4 (ih.2.1 _ _ _ _ o h5) h6 fun z => isNil_eq (emp_ok h7 z)
    · cases h
  | callk f perm m mk ih ih2 =>
    refine ⟨fun k ex X e o h => ?_, fun k ex X es o h => (by cases h), fun k ex X tg it o h => (by cases h), fun k ex X kws o h => (by cases h)⟩
    simp only [chkE] at h
    split at h <;> first | (cases h; done) | skip
    rw [Bool.and_eq_true, Bool.and_eq_true, decide_eq_true_eq] at h
    obtain ⟨⟨h1, h2⟩, h⟩ := h
    split at h
    · rename_i ps ks hps hks
      simp only [Bool.and_eq_true, decide_eq_true_eq] at h
      obtain ⟨⟨h3, h4⟩, ⟨h5, h6, h8⟩, h7⟩ := h
      exact g_callk o h1 h2 hps hks h3 h4 (ih.2.1 _ _ _ _ o h5) (ih2.2.2.2 _ _ _ _ o h6) h8 fun z => isNil_eq (emp_ok h7 z)
    · cases h
  | «mut» me i m ih =>
    refine ⟨fun k ex X e o h => ?_, fun k ex X es o h => (by cases h), fun k ex X tg it o h => (by cases h), fun k ex X kws o h => (by cases h)⟩
    simp only [chkE] at h
    split at h <;> first | (cases h; done) | skip
    simp only [Bool.and_eq_true, decide_eq_true_eq] at h
    obtain ⟨⟨rfl, h1⟩, ⟨h2, h3⟩, h4, h5⟩ := h
    refine g_mut o h1 (ih.2.1 _ _ _ _ o h2) h4 (few1_ok h3) fun z => ?_
    have := emp_ok h5 z
    rw [Bool.and_eq_true, decide_eq_true_eq] at this
    exact ⟨this.1, isNil_eq this.2⟩
  | hmut me a m iha ih =>
    refine ⟨fun k ex X e o h => ?_, fun k ex X es o h => (by cases h), fun k ex X tg it o h => (by cases h), fun k ex X kws o h => (by cases h)⟩
    simp only [chkE] at h
    split at h <;> first | (cases h; done) | skip
    simp only [Bool.and_eq_true, decide_eq_true_eq] at h
    obtain ⟨⟨rfl, h1, h6⟩, ⟨h2, h3⟩, h4, h5⟩ := h
    refine g_hmut o (av_of o (iha.1 _ _ _ _ o) h1) h6 (ih.2.1 _ _ _ _ o h2) h4 (few1_ok h3) fun z => ?_
    have := emp_ok h5 z
    rw [Bool.and_eq_true, decide_eq_true_eq] at this
    exact ⟨this.1, isNil_eq this.2⟩
  | heap a ih =>
    refine ⟨fun k ex X e o h => ?_, fun k ex X es o h => (by cases h), fun k ex X tg it o h => (by cases h), fun k ex X kws o h => (by cases h)⟩
    exact (ih.1 _ _ _ _ o h).heap
  | edict =>
    refine ⟨fun k ex X e o h => ?_, fun k ex X es o h => (by cases h), fun k ex X tg it o h => (by cases h), fun k ex X kws o h => (by cases h)⟩
    simp only [chkE] at h
    split at h <;> first | (cases h; done) | skip
    exact ok_edict
  | lc own src tgt cond elt ihs iht ihc ihe =>
    refine ⟨fun k ex X e o h => ?_, fun k ex X es o h => (by cases h), fun k ex X tg it o h => (by cases h), fun k ex X kws o h => (by cases h)⟩
    simp only [chkE] at h
    split at h <;> first | (cases h; done) | skip
    rename_i el tg it ifs scope pos
    simp only [Bool.and_eq_true, List.all_eq_true, decide_eq_true_eq] at h
    obtain ⟨⟨h1, h2, h3⟩, ⟨h4, h5⟩, h6, h7⟩ := h
    have hb : BlkOk X.N X.env.scope scope (ownN k own) := by rw [o.N, o.sc]; exact blkOk_by h1
    have := EOk.lc (k := k) (cf := cf) (ex := ex) (exB := exF) (elt := el) (tg := tg) (iter := it) (ifs := ifs) (pos := pos) (src := src) (tgt := tgt) (cond := cond) (me := elt) o hb (ihs.2.2.1 _ _ _ _ _ o h4)
      (fun s H C cl fp => (tgt_ok (o.blk s H scope C cl fp) tgt).1 _ h5) (fun s H C cl fp => ?_) (fun s H C cl fp => (ihe.1 _ _ _ _ (o.blk s H scope C cl fp) h7).pe) (noSet_of h2) (by rw [ownN_snd]; exact h3)
    · rw [ownN_snd] at this; exact this
    · split at h6
      · have := isYes_eq h6
        subst this
        refine ⟨fun pins s σ H Q I h => pts_nil.run pins s σ H Q I ?_⟩
        obtain ⟨e, d, ρ, S, s, q⟩ := h
        simp only [tst, evE, Out.bind_ok] at q
        exact q true d H s rfl
      · exact pts_one (ihc.1 _ _ _ _ (o.blk s H scope C cl fp) h6).pt
      · cases h6
  | nil =>
    refine ⟨fun k ex X e o h => (by cases h), fun k ex X es o h => ?_, fun k ex X tg it o h => (by cases h), fun k ex X kws o h => ?_⟩
    · cases es with
      | nil => exact as_nil
      | cons e r => cases h
    · cases kws with
      | nil => exact ks_nil
      | cons e r => cases h
  | cons a b iha ihb =>
    refine ⟨fun k ex X e o h => (by cases h), fun k ex X es o h => ?_, fun k ex X tg it o h => (by cases h), fun k ex X kws o h => ?_⟩
    · cases es with
      | nil => cases h
      | cons e r =>
        simp only [chkA, Bool.and_eq_true] at h
        exact as_cons (av_of o (iha.1 _ _ _ _ o) h.1.1) (ihb.2.1 _ _ _ _ o h.2) h.1.2
    · cases kws with
      | nil => cases h
      | cons e r =>
        obtain ⟨nm, e, kp⟩ := e
        simp only [chkK, Bool.and_eq_true] at h
        exact ks_cons (av_of o (iha.1 _ _ _ _ o) h.1) (ihb.2.2.2 _ _ _ _ o h.2)
  | seq a ih =>
    exact ⟨fun k ex X e o h => (by cases h), fun k ex X es o h => (by cases h), fun k ex X tg it o h => g_seq o (ih.1 _ _ _ _ o h), fun k ex X kws o h => (by cases h)⟩
  | rng m ih =>
    refine ⟨fun k ex X e o h => (by cases h), fun k ex X es o h => (by cases h), fun k ex X tg it o h => ?_, fun k ex X kws o h => (by cases h)⟩
    simp only [chkI] at h
    split at h <;> first | (cases h; done) | skip
    rename_i x p es pos
    simp only [Bool.and_eq_true, decide_eq_true_eq] at h
    obtain ⟨⟨rfl, h1, h2⟩, ⟨h3, h4⟩, h5, h6, h7⟩ := h
    match es, h3, h4, h5, h6, h7 with
    | [a], h3, h4, h5, h6, h7 => exact g_rng1 o h1 h2 (ih.2.1 _ _ _ _ o h3) h4 h5
    | [a, b], h3, h4, h5, h6, h7 => exact g_rng2 o h1 h2 (ih.2.1 _ _ _ _ o h3) h4 h5
    | [a, b, z], h3, h4, h5, h6, h7 => exact g_rng3 o h1 h2 (ih.2.1 _ _ _ _ o h3) h4 h5
    | [], h3, h4, h5, h6, h7 => exact absurd h6 (by simp)
    | _ :: _ :: _ :: _ :: _, h3, h4, h5, h6, h7 => exact absurd h7 (by simp)
  | enum m ih =>
    refine ⟨fun k ex X e o h => (by cases h), fun k ex X es o h => (by cases h), fun k ex X tg it o h => ?_, fun k ex X kws o h => (by cases h)⟩
    simp only [chkI] at h
    split at h <;> first | (cases h; done) | skip
    rename_i x p es pos
    simp only [Bool.and_eq_true, decide_eq_true_eq] at h
    obtain ⟨⟨rfl, h1, h2⟩, ⟨h3, h4⟩, h5, h6, h7⟩ := h
    match es, h3, h4, h5, h6 with
    | [a], h3, h4, h5, h6 =>
      cases tg <;> first | (cases h7; done) | exact g_enum o h1 h2 (ih.2.1 _ _ _ _ o h3) h4 h5
  | zip m ih =>
    refine ⟨fun k ex X e o h => (by cases h), fun k ex X es o h => (by cases h), fun k ex X tg it o h => ?_, fun k ex X kws o h => (by cases h)⟩
    simp only [chkI] at h
    split at h <;> first | (cases h; done) | skip
    rename_i x p es pos
    simp only [Bool.and_eq_true, decide_eq_true_eq] at h
    obtain ⟨⟨rfl, h1, h2⟩, ⟨h3, h4⟩, h5, h6, h7⟩ := h
    match es, h3, h4, h5, h6 with
    | [a, b], h3, h4, h5, h6 =>
      cases tg <;> first | (cases h7; done) | exact g_zip o h1 h2 (ih.2.1 _ _ _ _ o h3) h4 h5
  | _ => exact ⟨fun k ex X e o h => (by cases h), fun k ex X es o h => (by cases h), fun k ex X tg it o h => (by cases h), fun k ex X kws o h => (by cases h)⟩
end
end NV
set_option Elab.async false
set_option linter.all false
set_option maxRecDepth 100000
set_option maxHeartbeats 4000000
/-! # Statements of the text, defs, levels -/
namespace NV
open PySem PySem.Spec PyProof.Rows L2
def isLc : Expr → Bool
  | .ListComp _ _ _ _ => true
  | _ => false
def locT (k : Ck) : Expr → Bool
  | .Name id _ => k.sc.names.lookup id == some .local
  | _ => false
def noPar (k : Ck) (tg a : Expr) : Bool := match tg, a with
  | .Tuple ts _ _, .Tuple vs _ _ => !(ts.length == 2 || ts.length == 3) || (!(ts.all (locT k)) || vs.all (foldedForSure 8))
  | _, _ => true
theorem fm_lt {α β : Type} {f : α → Option β} : ∀ {l : List α} {p : α → Bool}, (∀ x, p x = false → f x = none) → l.all p = false → (l.filterMap f).length < l.length
  | [], _, _, h => by cases h
  | a :: l, p, hp, h => by
    rw [List.filterMap_cons]
    have le : (l.filterMap f).length ≤ l.length := List.length_filterMap_le ..
    cases q : p a with
    | false => rw [hp a q]; simp only [List.length_cons]; omega
    | true =>
      rw [List.all_cons, q, Bool.true_and] at h
      have := fm_lt hp h
      cases f a <;> simp only [List.length_cons] <;> omega
theorem noPar_of {c : Cn} {k : Ck} {ex : EX} {cf : CallF} {X : Cx} (o : CxOk c k ex cf X) {tg a : Expr} (ht : isTgt tg = true) (h : noPar k tg a = true) : swappedStores [tg] a X.env = pure none := by
  cases a <;> first | (cases tg <;> first | (cases ht; done) | rfl) | skip
  cases tg <;> first | (cases ht; done) | rfl | skip
  rename_i vs k2 p2 ts kt pt
  simp only [noPar] at h
  unfold swappedStores
  simp only
  split
  · rfl
  · rename_i h1
    split
    · rfl
    · split
      · rfl
      · rename_i h3
        split
        · rfl
        · rename_i h4
          exfalso
          simp only [Bool.or_eq_true, Bool.not_eq_true'] at h
          rcases h with h | h | h
          · simp only [h, Bool.not_false, Bool.true_or, not_true_eq_false] at h1
          · have := fm_lt (f := fun (t : Expr) => match t with
              | .Name id pos => if (X.env.kindOf id == some .local && pos.line == ((ts.head?.map (·.pos.line)).getD 0)) = true then some id else none
              | _ => none) (p := locT k) (fun x hx => by
                cases x <;> first | rfl | skip
                rename_i id pos
                have hx : (k.sc.names.lookup id == some .local) = false := hx
                have kk : X.env.kindOf id = k.sc.names.lookup id := by show X.env.scope.names.lookup id = _; rw [o.sc]
                simp only [kk, hx, Bool.false_and, Bool.false_eq_true, if_false]) h
            simp only [Bool.or_eq_true, not_or, bne_iff_ne, ne_eq, Decidable.not_not] at h3
            exact absurd h3.1 (Nat.ne_of_lt this)
          · exact h4 h
def isLcM : M → Bool
  | .lc _ _ _ _ _ => true
  | _ => false
mutual
def chkS1 (k : Ck) : MS → Stmt → Bool
  | .asg i m, st => match st with
    | .Assign [.Name x _] a _ => asgB k i x && (chkE k m a && (swB k.sc a "" a.pos || isLcM m))
    | _ => false
  | .par is m, st => match st with
    | .Assign [.Tuple [.Name x px, .Name y py] _ _] (.Tuple [a, b] _ _) _ => (match is with
      | [i, j] => (locB k i x && locB k j y) && (decide (i ≠ j) && ((match m with
        | .cons ma (.cons mb .nil) => chkE k ma a && chkE k mb b
        | _ => false) && sw2B px py x y a b))
      | _ => false)
    | .Assign [.Tuple [.Name x px, .Name y py, .Name z pz] _ _] (.Tuple [a, b, q] _ _) _ => (match is with
      | [i, j, l] => ((locB k i x && locB k j y) && locB k l z) && ((decide (i ≠ j) && (decide (i ≠ l) && decide (j ≠ l))) && ((match m with
        | .cons ma (.cons mb (.cons mc .nil)) => chkE k ma a && (chkE k mb b && chkE k mc q)
        | _ => false) && (((py.line == px.line) && (pz.line == px.line)) && ((decide (x ≠ y) && (decide (x ≠ z) && decide (y ≠ z))) && ((noStar a && (noStar b && noStar q)) && (!([a, b, q].all (foldedForSure 8)) && !([a, b, q].all (constantsAlone 8))))))))
      | _ => false)
    | _ => false
  | .tgt t m, st => match st with
    | .Assign [tg] a _ => (chkT k t tg && chkE k m a) && ((swB k.sc a "" a.pos && isTgt tg) && noPar k tg a)
    | _ => false
  | .put i ix m, st => match st with
    | .Assign [.Subscript (.Name x _) e _] a _ => (visB k i x && chkE k ix e) && ((chkE k m a && swB k.sc a "" a.pos) && noSlice e)
    | _ => false
  | .expr m, st => match st with
    | .Expr a _ => chkE k m a && swB k.sc a "" a.pos
    | _ => false
  | .ret m, st => match st with
    | .Return (some a) _ => chkE k m a
    | _ => false
  | .mvr i, st => match st with
    | .Return (some (.Name x _)) _ => visB k i x
    | _ => false
  | .retN, st => match st with
    | .Return none _ => true
    | _ => false
  | .ite t a b, st => match st with
    | .If c A B _ => chkE k t c && (chkS k a A && chkS k b B)
    | _ => false
  | .whl _ t b, st => match st with
    | .While c B [] _ => chkE k t c && chkS k b B
    | _ => false
  | .forr t it b, st => match st with
    | .For tg i B [] _ => (chkT k t tg && chkI k it tg i) && (chkS k b B && noSet i)
    | _ => false
  | .brk, st => match st with
    | .Break _ => true
    | _ => false
  | .cont, st => match st with
    | .Continue _ => true
    | _ => false
  | .pass, st => match st with
    | .Pass _ => true
    | _ => false
  | .dead, _ => true
  | _, _ => false
def chkS (k : Ck) : MS → List Stmt → Bool
  | .nil, sts => sts.isEmpty
  | .seq a b, sts => match sts with
    | s :: r => chkS1 k a s && chkS k b r
    | [] => false
  | .dead, _ => true
  | _, _ => false
end
section
variable {c : Cn} {cf : CallF}
def SoundS (c : Cn) (cf : CallF) (m : MS) : Prop := ∀ k ex X e, CxOk c k ex cf X → X.env.scope.kind = .function → PassesOwn (model X.prog X.w) X.A X.env X.xe → (∀ a, e.B a → ∃ j, (j, a) ∈ e.P) →
  (∀ st, chkS1 k m st = true → PS X st (TSt c ex e (evS cf m))) ∧ (∀ sts, chkS k m sts = true → PSs X sts (TSt c ex e (evS cf m)))
theorem lc_asg {k : Ck} {ex : EX} {X : Cx} {e : Ent} (o : CxOk c k ex cf X) (hk : X.env.scope.kind = .function) {i : Nat} {x : Str} {py spos : Pos} {m : M} {a : Expr} (h1 : asgB k i x = true) (h : chkE k m a = true) (hl : isLcM m = true) : PS X (.Assign [.Name x py] a spos) (TSt c ex e (evS cf (.asg i m))) := by
  cases m <;> first | (cases hl; done) | skip
  rename_i own src tgt cond elt
  simp only [chkE] at h
  split at h <;> first | (cases h; done) | skip
  rename_i el tg it ifs scope pos
  simp only [Bool.and_eq_true, List.all_eq_true, decide_eq_true_eq] at h
  obtain ⟨⟨h1', h2, h3⟩, ⟨h4, h5⟩, h6, h7⟩ := h
  have hb : BlkOk X.N X.env.scope scope (ownN k own) := by rw [o.N, o.sc]; exact blkOk_by h1'
  have := s_asgLc (k := k) (cf := cf) (ex := ex) (exB := exF) (e := e) (elt := el) (tg := tg) (iter := it) (ifs := ifs) (pos := pos) (src := src) (tgt := tgt) (cond := cond) (me := elt) (py := py) (spos := spos) o hk h1 hb ((sound src).2.2.1 _ _ _ _ _ o h4)
    (fun s H C cl fp => (tgt_ok (o.blk s H scope C cl fp) tgt).1 _ h5) (fun s H C cl fp => ?_) (fun s H C cl fp => ((sound elt).1 _ _ _ _ (o.blk s H scope C cl fp) h7).pe) (noSet_of h2) (by rw [ownN_snd]; exact h3)
  · rw [ownN_snd] at this; exact this
  · split at h6
    · have := isYes_eq h6
      subst this
      refine ⟨fun pins s σ H Q I h => pts_nil.run pins s σ H Q I ?_⟩
      obtain ⟨e, d, ρ, S, s, q⟩ := h
      simp only [tst, evE, Out.bind_ok] at q
      exact q true d H s rfl
    · exact pts_one ((sound cond).1 _ _ _ _ (o.blk s H scope C cl fp) h6).pt
    · cases h6
theorem soundS : ∀ m : MS, SoundS c cf m := by
  intro m
  induction m with
  | nil =>
    refine fun k ex X e o hk hp hB => ⟨fun st h => (by cases h), fun sts h => ?_⟩
    cases sts with
    | nil => exact s_nil
    | cons s r => cases h
  | seq a b iha ihb =>
    refine fun k ex X e o hk hp hB => ⟨fun st h => (by cases h), fun sts h => ?_⟩
    cases sts with
    | nil => cases h
    | cons s r =>
      simp only [chkS, Bool.and_eq_true] at h
      exact s_seq ((iha k ex X e o hk hp hB).1 _ h.1) ((ihb k ex X e o hk hp hB).2 _ h.2)
  | asg i m =>
    refine fun k ex X e o hk hp hB => ⟨fun st h => ?_, fun sts h => (by cases h)⟩
    simp only [chkS1] at h
    split at h <;> first | (cases h; done) | skip
    simp only [Bool.and_eq_true, Bool.or_eq_true] at h
    obtain ⟨h1, h2, h3⟩ := h
    rcases h3 with h3 | h3
    · exact s_asg o h1 ((sound m).1 _ _ _ _ o h2) (by exact h3)
    · exact lc_asg o hk h1 h2 h3
  | par is m =>
    refine fun k ex X e o hk hp hB => ⟨fun st h => ?_, fun sts h => (by cases h)⟩
    simp only [chkS1] at h
    split at h <;> first | (cases h; done) | skip
    · split at h
      · simp only [Bool.and_eq_true, decide_eq_true_eq] at h
        obtain ⟨⟨h1, h2⟩, h3, h4, h5⟩ := h
        split at h4
        · rename_i ma mb
          rw [Bool.and_eq_true] at h4
          refine s_par2 o hk h1 h2 h3 (rs_cons ((sound ma).1 _ _ _ _ o h4.1) (rs_cons ((sound mb).1 _ _ _ _ o h4.2) rs_nil ?_) ?_) h5 rfl
          · unfold sw2B at h5
            simp only [Bool.and_eq_true] at h5
            exact h5.2.1.2
          · unfold sw2B at h5
            simp only [Bool.and_eq_true] at h5
            exact h5.2.1.1
        · cases h4
      · cases h
    · split at h
      · simp only [Bool.and_eq_true, decide_eq_true_eq, Bool.not_eq_true'] at h
        obtain ⟨⟨⟨h1, h2⟩, h3⟩, ⟨n1, n2, n3⟩, h4, ⟨l1, l2⟩, ⟨m1, m2, m3⟩, ⟨s1, s2, s3⟩, f1, f2⟩ := h
        split at h4
        · rename_i ma mb mc
          simp only [Bool.and_eq_true] at h4
          exact s_par3 o hk h1 h2 h3 n1 n2 n3 (rs_cons ((sound ma).1 _ _ _ _ o h4.1) (rs_cons ((sound mb).1 _ _ _ _ o h4.2.1) (rs_cons ((sound mc).1 _ _ _ _ o h4.2.2) rs_nil s3) s2) s1) l1 l2 m1 m2 m3 s1 s2 s3 f1 f2
        · cases h4
      · cases h
  | tgt t m =>
    refine fun k ex X e o hk hp hB => ⟨fun st h => ?_, fun sts h => (by cases h)⟩
    simp only [chkS1] at h
    split at h <;> first | (cases h; done) | skip
    simp only [Bool.and_eq_true] at h
    obtain ⟨⟨h1, h2⟩, ⟨h3, h4⟩, h5⟩ := h
    exact s_tgt o ((tgt_ok o t).1 _ h1) ((sound m).1 _ _ _ _ o h2) h3 h4 (noPar_of o h4 h5)
  | put i ix m =>
    refine fun k ex X e o hk hp hB => ⟨fun st h => ?_, fun sts h => (by cases h)⟩
    simp only [chkS1] at h
    split at h <;> first | (cases h; done) | skip
    simp only [Bool.and_eq_true] at h
    obtain ⟨⟨h1, h2⟩, ⟨h3, h4⟩, h5⟩ := h
    exact s_put o h1 ((sound ix).1 _ _ _ _ o h2) ((sound m).1 _ _ _ _ o h3) h4 h5
  | expr m =>
    refine fun k ex X e o hk hp hB => ⟨fun st h => ?_, fun sts h => (by cases h)⟩
    simp only [chkS1] at h
    split at h <;> first | (cases h; done) | skip
    simp only [Bool.and_eq_true] at h
    exact s_expr o ((sound m).1 _ _ _ _ o h.1) h.2
  | ret m =>
    refine fun k ex X e o hk hp hB => ⟨fun st h => ?_, fun sts h => (by cases h)⟩
    simp only [chkS1] at h
    split at h <;> first | (cases h; done) | skip
    exact s_ret ((sound m).1 _ _ _ _ o h)
  | mvr i =>
    refine fun k ex X e o hk hp hB => ⟨fun st h => ?_, fun sts h => (by cases h)⟩
    simp only [chkS1] at h
    split at h <;> first | (cases h; done) | skip
    exact s_mvr o hB h
  | retN =>
    refine fun k ex X e o hk hp hB => ⟨fun st h => ?_, fun sts h => (by cases h)⟩
    simp only [chkS1] at h
    split at h <;> first | (cases h; done) | skip
    exact s_retN
  | ite t a b iha ihb =>
    refine fun k ex X e o hk hp hB => ⟨fun st h => ?_, fun sts h => (by cases h)⟩
    simp only [chkS1] at h
    split at h <;> first | (cases h; done) | skip
    simp only [Bool.and_eq_true] at h
    exact s_ite ((sound t).1 _ _ _ _ o h.1) ((iha k ex X e o hk hp hB).2 _ h.2.1) ((ihb k ex X e o hk hp hB).2 _ h.2.2)
  | whl n t b ih =>
    refine fun k ex X e o hk hp hB => ⟨fun st h => ?_, fun sts h => (by cases h)⟩
    simp only [chkS1] at h
    split at h <;> first | (cases h; done) | skip
    simp only [Bool.and_eq_true] at h
    exact s_whl o hp ((sound t).1 _ _ _ _ o h.1) ((ih k ex X e o hk hp hB).2 _ h.2)
  | forr t it b ih =>
    refine fun k ex X e o hk hp hB => ⟨fun st h => ?_, fun sts h => (by cases h)⟩
    simp only [chkS1] at h
    split at h <;> first | (cases h; done) | skip
    simp only [Bool.and_eq_true] at h
    exact s_for o hp ((sound it).2.2.1 _ _ _ _ _ o h.1.2) ((tgt_ok o t).1 _ h.1.1) ((ih k ex X e o hk hp hB).2 _ h.2.1) (noSet_of h.2.2)
  | brk =>
    refine fun k ex X e o hk hp hB => ⟨fun st h => ?_, fun sts h => (by cases h)⟩
    simp only [chkS1] at h
    split at h <;> first | (cases h; done) | skip
    exact s_brk
  | cont =>
    refine fun k ex X e o hk hp hB => ⟨fun st h => ?_, fun sts h => (by cases h)⟩
    simp only [chkS1] at h
    split at h <;> first | (cases h; done) | skip
    exact s_cont
  | pass =>
    refine fun k ex X e o hk hp hB => ⟨fun st h => ?_, fun sts h => (by cases h)⟩
    simp only [chkS1] at h
    split at h <;> first | (cases h; done) | skip
    exact s_pass
  | dead => exact fun k ex X e o hk hp hB => ⟨fun st h => s_dead, fun sts h => s_deads⟩
end
end NV
set_option Elab.async false
set_option linter.all false
set_option maxRecDepth 100000
set_option maxHeartbeats 4000000
/-! # The table of defs, level by level -/
namespace NV
open PySem PySem.Spec PyProof.Rows L2
structure FD where
  name : Str
  qual : Str
  ps : List Str
  N : List Str
  params : Arguments
  body : List Stmt
  scope : Scope
  ms : MS
structure Gl0 where
  free : List Str
  gcs : List (Str × W)
  gds : List (Str × List W × List W)
def ckOf (T : List FD) (G : Gl0) (D : FD) : Ck := { N := D.N, sc := D.scope, fns := T.map (·.name), free := G.free, gcs := G.gcs, gds := G.gds, pars := T.map (·.ps), top := true }
def plainB (ps : List Str) (p : Arguments) : Bool := (p.posonlyargs.isEmpty && (decide (p.args.map (·.arg) = ps) && p.kwonlyargs.isEmpty)) && (p.vararg.isNone && p.kwarg.isNone)
theorem plainB_ok {ps : List Str} {p : Arguments} (h : plainB ps p = true) : Plain ps p := by
  unfold plainB at h
  simp only [Bool.and_eq_true, List.isEmpty_iff, decide_eq_true_eq, Option.isNone_iff_eq_none] at h
  exact ⟨h.1.1, h.1.2.1, h.1.2.2, h.2.1, h.2.2⟩
def isFn : ScopeKind → Bool
  | .function => true
  | _ => false
def scopeB (N ps : List Str) (sc : Scope) : Bool := (isFn sc.kind && (!sc.isCoroutine && !sc.isGenerator)) && ((decide N.Nodup && decide (N.take ps.length = ps)) && (ps.all (fun x => decide (sc.names.lookup x = some .local) || decide (sc.names.lookup x = some .cell)) && sc.names.all fun y => decide (y.2 ≠ .free)))
theorem scopeB_ok {N ps : List Str} {sc : Scope} (h : scopeB N ps sc = true) : FnScope N ps sc := by
  unfold scopeB at h
  simp only [Bool.and_eq_true, Bool.not_eq_true', decide_eq_true_eq, List.all_eq_true, Bool.or_eq_true] at h
  obtain ⟨⟨h1, h2, h3⟩, ⟨h4, h5⟩, h6, h7⟩ := h
  have hk : sc.kind = .function := by
    unfold isFn at h1
    split at h1
    · assumption
    · cases h1
  exact ⟨hk, h2, h3, h4, h5, h6, h7⟩
def fdB (T : List FD) (G : Gl0) (D : FD) : Bool := chkS (ckOf T G D) D.ms D.body && (scopeB D.N D.ps D.scope && plainB D.ps D.params)
def callT (T : List FD) : Nat → CallF
  | 0 => fun _ _ _ => .stuck
  | n + 1 => fun f args S => match T[f]? with
    | some D => runF (callT T n) D.ps.length D.N.length D.ms args S
    | none => .stuck
structure Glob (P : Program) (w : World) (K : PySem.W.Frag) (mg : Str → Option Value) (base : Heap) (c : Cn) (T : List FD) (G : Gl0) : Prop where
  eK : c.K = K
  len : c.fa.length = T.length
  fn : ∀ (f : Nat) (D : FD) (a : Addr), T[f]? = some D → c.fa[f]? = some a → mg D.name = some (.ref a) ∧ ∃ fd, FunD K D.name D.qual D.params D.body D.scope [] [] a fd
  free : ∀ x ∈ G.free, mg x = none
  gcs : ∀ p ∈ G.gcs, ∃ u v, mg p.1 = some u ∧ RelV v u ∧ ∀ d H, Rep c d H p.2 v
  gds : ∀ p ∈ G.gds, ∃ a, mg p.1 = some (.ref a) ∧ ∀ (z : Str) (x : W), dctFind p.2.1 p.2.2 z = some x → ∃ v, KDct K w a z v ∧ ∀ d H, Rep c d H x v
theorem level {P : Program} {w : World} {K : PySem.W.Frag} {mg : Str → Option Value} {base : Heap} {c : Cn} {T : List FD} {G : Gl0} (g : Glob P w K mg base c T G) (hT : ∀ D ∈ T, fdB T G D = true) :
    ∀ (n f : Nat) (D : FD) (a : Addr), T[f]? = some D → c.fa[f]? = some a → ∃ fd, Plain D.ps fd.params ∧ fd.defaults = .none ∧ FnG P w K mg base (L2.CX P w) n a fd D.ps (spF c (callT T n) f) ∧ ∃ oc od osl, K.lookup a = some ⟨oc, od, .func fd, osl⟩ := by
  intro n
  induction n with
  | zero =>
    intro f D a hD ha
    obtain ⟨_, fd, F⟩ := g.fn f D a hD ha
    have hb := hT D (List.mem_of_getElem? hD)
    unfold fdB at hb
    simp only [Bool.and_eq_true] at hb
    obtain ⟨oc, od, dV, kV, doc, pm, an, cdv, ct, osl, rfl, lk, hcd, hd, _⟩ := F.ex
    have hdv : dV = .none := by
      rcases hd with ⟨_, h⟩ | ⟨h, _⟩
      · exact h
      · exact absurd rfl h
    refine ⟨PySem.W.fnOf D.name D.qual D.params D.body D.scope dV kV doc pm an cdv ct, plainB_ok hb.2.2, hdv, ⟨fun vs H Q E h => ?_, fun A outer s H args us vs Q E _ _ _ _ _ h => ?_⟩, oc, od, osl, lk⟩ <;>
    · obtain ⟨e, d, args, S, _, _, _, _, _, h⟩ := h
      exact h.elim
  | succ n ih =>
    intro f D a hD ha
    obtain ⟨_, fd, F⟩ := g.fn f D a hD ha
    have hb := hT D (List.mem_of_getElem? hD)
    unfold fdB at hb
    simp only [Bool.and_eq_true] at hb
    obtain ⟨hck, hsc, hpl⟩ := hb
    obtain ⟨oc, od, dV, kV, doc, pm, an, cdv, ct, osl, rfl, lk, hcd, hd, _⟩ := F.ex
    have hdv : dV = .none := by
      rcases hd with ⟨_, h⟩ | ⟨h, _⟩
      · exact h
      · exact absurd rfl h
    have Sc := scopeB_ok hsc
    have len : ∀ vs H Q E, spF c (callT T (n + 1)) f vs H Q E → vs.length = D.ps.length := fun vs H Q E ⟨e, d, args, S, _, _, sm, _, _, hm⟩ => by
      have hl := sm.len
      rw [List.length_map, List.length_map] at hl
      rw [← hl]
      simp only [callT, hD, runF] at hm
      by_cases z : args.length = D.ps.length
      · exact z
      · rw [if_neg z] at hm; exact hm.elim
    refine ⟨_, plainB_ok hpl, hdv, FnG.of lk hcd Sc len fun A outer s H vs Q E hr hg hsp => ?_, oc, od, osl, lk⟩
    have hvl := len _ _ _ _ hsp
    obtain ⟨e, d, args, S, he, hH, sm, hP, hB, hm⟩ := hsp
    subst he hH
    have hal : args.length = D.ps.length := by
      have hl := sm.len
      rw [List.length_map, List.length_map] at hl
      rw [hl]; exact hvl
    let ex : EX := fun k w d σ H => ∀ cls dd, xr c k w d H cls dd → E cls dd H
    have o : CxOk c (ckOf T G D) ex (callT T n) (cxOf (L2.CX P w) P w K mg base D.N D.qual D.scope a cdv A outer s e.H E) := {
      K := g.eK.symm
      N := rfl
      nd := Sc.nd
      sc := rfl
      fnt := fun _ _ => rfl
      calm := rfl
      un := by
        have := hr.un
        show (A.deeper _).units + 150 < cLine
        omega
      gd := by show (A.deeper _).guards = some []; exact hg
      fnm := fun f x hx => by
        have hx : (T.map (·.name))[f]? = some x := hx
        rw [List.getElem?_map] at hx
        cases q : T[f]? with
        | none => rw [q] at hx; cases hx
        | some D' =>
          rw [q] at hx; cases hx
          have hl : f < c.fa.length := by rw [g.len]; exact (List.getElem?_eq_some_iff.mp q).1
          obtain ⟨q1, fd, F'⟩ := g.fn f D' _ q (List.getElem?_eq_getElem hl)
          exact ⟨_, List.getElem?_eq_getElem hl, q1, F'.kp⟩
      free := g.free
      gcs := g.gcs
      gds := g.gds
      tk := ⟨fun cls d _ H => E cls d H, takes_of rfl rfl rfl rfl, fun k w d σ H h cls dd x => h cls dd x⟩
      fs := fun f' a' ha' => by
        have hl : f' < T.length := by rw [← g.len]; exact (List.getElem?_eq_some_iff.mp ha').1
        obtain ⟨fd', h1, h2, h3, _⟩ := ih f' T[f'] a' (List.getElem?_eq_getElem hl) ha'
        refine ⟨n, fd', T[f'].ps, ?_, h1, h2, hr, h3⟩
        show (T.map (·.ps))[f']? = _
        rw [List.getElem?_map, List.getElem?_eq_getElem hl]; rfl }
    refine ⟨TSt c ex e (evS (callT T n) D.ms), (soundS D.ms _ ex _ e o Sc.kind (passes_of rfl) (fun b hb => ?_)).2 _ hck, ?_⟩
    · obtain ⟨j, hj⟩ := hB b hb
      exact ⟨j, hP j b hj⟩
    · have s0 := sm.ext (D.N.length - D.ps.length)
      have est : L2.start D.N vs = vs.map some ++ List.replicate (D.N.length - D.ps.length) none := by unfold L2.start; rw [hvl]
      rw [est]
      refine ⟨e.d, _, S, s0, ?_⟩
      simp only [callT, hD, runF, if_pos hal] at hm
      cases q : evS (callT T n) D.ms (args.map some ++ List.replicate (D.N.length - D.ps.length) none) S with
      | stuck => rw [q] at hm; exact hm
      | exn k w ρ1 S1 =>
        rw [q] at hm
        intro σ' d' H' t le cls dd x
        exact hm d' H' cls dd (sm.params hP t le).1 x
      | ok fl ρ1 S1 =>
        rw [q] at hm
        cases fl with
        | nx =>
          intro σ' d' H' t le
          exact hm .non d' H' (sm.params hP t le).1 (by show Rep c d' H' .non .non; simp only [Rep])
        | rt r =>
          intro v σ' d' H' t le hr
          obtain ⟨k1, k2⟩ := sm.params hP t le
          exact hm v d' H' k1 (k2 r v hr)
        | br => exact hm.elim
        | ct => exact hm.elim
end NV
set_option Elab.async false
set_option linter.all false
set_option maxRecDepth 100000
set_option maxHeartbeats 4000000
/-! # The end: a law whose table answers True (the run from the caller is turned from the library's law_call: no guard stands around the caller) -/
namespace NV
open PySem PySem.Spec PyProof.Rows L2
/-- what the caller sees -/
def Seen (s₁ : Shared) (r : Result) (s' : Shared) : Prop := r = .ok (.ret (.bool true)) ∧ OldK s₁.heap s'.heap ∧ s'.os = s₁.os ∧ AllBare s'.gens
theorem run_law {P : Program} {w : World} {K : PySem.W.Frag} {mg mb : Str → Option Value} {k : Nat} {fa a : Addr} {fd : FuncData} {x : Str} {sp : Sp} {s₁ : Shared} {vs : List Value} {H : Hp}
    (KX : K.In s₁.heap) (hns : s₁.heap.Ns mainGlobals mg) (hb : s₁.heap.Ns builtinsNs mb) (hbb : ∀ x : Str, x ≠ "__name__" → mb x = bootBuiltins x) (hlim : s₁.heap.NoLimit) (hg : s₁.gens = #[])
    (ha : s₁.heap.get? a = some { cls := .type "list", data := .seq vs.toArray }) (hr : Room k callerA)
    (F : ∀ base : Heap, K.In base → base.Ns mainGlobals mg → FnG P w K mg base (L2.CX P w) k fa fd [x] sp) (hbind : ∀ (s : Shared) (u : Value), BindsTo s fd ⟨[u], []⟩ [(x, u)])
    (hO : Only H) (hok : HOk P w H s₁.heap) (hA : ∀ b, H b ≠ none → b = a) (hK : H a ≠ none → K.lookup a = none) (hsp : sp [.ref a] H (fun v _ => v = .bl true) fun _ _ _ => False) :
    codeAny (model P w) callerA (.call (.ref fa) ⟨[.ref a], []⟩) (Seen s₁) s₁ := by
  have free : ∀ {b : Addr} {o : Obj}, s₁.heap.get? b = some o → b ≠ a → H b = none := fun {b o} _ n => by
    cases q : H b with
    | none => rfl
    | some u => exact absurd (hA b (by rw [q]; exact fun z => nomatch z)) n
  have ns_base : ∀ {b : Addr} {m : Str → Option Value}, s₁.heap.Ns b m → (hidT s₁.heap H).Ns b m := fun {b m} ⟨o, es, ep, e, dd, r⟩ => by
    refine ⟨o, es, ep, hidT_get e (free e fun z => ?_), dd, r⟩
    subst z
    rw [ha] at e
    cases e
    exact nomatch (show Data.seq vs.toArray _ = Data.dict es ep from dd)
  have K_base : K.In (hidT s₁.heap H) := fun b o e => hidT_get (KX b o e) (by
    cases q : H b with
    | none => rfl
    | some u =>
      have z := hA b (by rw [q]; exact fun z => nomatch z)
      subst z
      rw [hK (by rw [q]; exact fun z => nomatch z)] at e
      exact nomatch e)
  obtain ⟨mc, l1, l2⟩ := hlim
  have M0 : Mod K mg (hidT s₁.heap H) := ⟨K_base, ns_base hns, ⟨mb, ns_base hb, hbb⟩, ⟨mc, ns_base l1, l2⟩⟩
  have none_in : ∀ b : Addr, b ∉ ([] : List Addr) := fun _ z => nomatch z
  have E0 : Env0 P w K mg (hidT s₁.heap H) callerA [] s₁ H := ⟨rfl, M0, fun b o e => of_hidT e, Nat.le_of_eq (hidT_size _ _), trivial, fun b hb => absurd hb (none_in b), hok, .of_eq hg⟩
  refine codeAny_mono ((F _ K_base (ns_base hns)).run callerA [] s₁ H ⟨[.ref a], []⟩ [.ref a] [.ref a] _ _ hr rfl E0 (hbind s₁ (.ref a)) (.cons rfl .nil) hsp) fun r s' h => ?_
  match r, h with
  | .error e, h =>
    obtain ⟨_, _, _, _, _, _, _, _, _, _, _, _, z⟩ := h
    exact z.elim
  | .ok .next, h => exact False.elim h
  | .ok .brk, h => exact False.elim h
  | .ok .cont, h => exact False.elim h
  | .ok (.ret u), ⟨v, H', os, bare, un, hok', r', q⟩ =>
    have q : v = .bl true := q
    subst q
    obtain rfl : u = Value.bool true := r'
    refine ⟨rfl, OldK.of_keep fun b o e => ?_, os, bare⟩
    rcases hO b with z | ⟨ob, xs, z⟩
    · exact un.keep b o e z (none_in b) (by simp)
    · have t1 := (hok b _ z).1
      have t2 := (hok' b _ (un.frzs b ob _ z)).1
      rw [e] at t1
      cases t1
      exact t2
theorem law_end {P : Program} {w : World} {K : PySem.W.Frag} {mg mb : Str → Option Value} {k : Nat} {fa a : Addr} {fd : FuncData} {x : Str} {sp : Sp} {s₁ : Shared} {vs : List Value} {ns : List Int}
    (KX : K.In s₁.heap) (hns : s₁.heap.Ns mainGlobals mg) (hb : s₁.heap.Ns builtinsNs mb) (hbb : ∀ x : Str, x ≠ "__name__" → mb x = bootBuiltins x) (hlim : s₁.heap.NoLimit) (hg : s₁.gens = #[])
    (ha : s₁.heap.get? a = some { cls := .type "list", data := .seq vs.toArray }) (hi : IntsAre vs ns) (hl : ns.length ≤ sizeLine) (hr : Room k callerA)
    (F : ∀ base : Heap, K.In base → base.Ns mainGlobals mg → FnG P w K mg base (L2.CX P w) k fa fd [x] sp) (hbind : ∀ (s : Shared) (u : Value), BindsTo s fd ⟨[u], []⟩ [(x, u)])
    (hsp : ∀ H : Hp, (∀ b, H b ≠ none → b = a) → ((∃ o, H a = some (.frz o (.lst (ns.map V.int)))) ∨ KL K a (ns.map V.int)) → sp [.ref a] H (fun v _ => v = .bl true) fun _ _ _ => False) :
    codeAny (model P w) callerA (.call (.ref fa) ⟨[.ref a], []⟩) (Seen s₁) s₁ := by
  have rv := vals_ints hi
  have lv := hi.length
  cases hk : K.lookup a with
  | some o =>
    have e := KX a o hk
    rw [ha] at e
    cases e
    refine run_law (H := fun _ => none) KX hns hb hbb hlim hg ha hr F hbind (fun _ => .inl rfl) (fun b u z => nomatch (show (none : Option HO) = some u from z)) (fun b z => absurd rfl z) (fun z => absurd rfl z) (hsp _ (fun b z => absurd rfl z) (.inr (.inr ⟨_, vs.toArray, _, hk, rfl, rfl, rfl, ?_, ?_⟩)))
    · rw [List.size_toArray, lv]; exact hl
    · simpa using rv
  | none =>
    let H : Hp := fun b => if b = a then some (.frz { cls := .type "list", data := .seq vs.toArray } (.lst (ns.map V.int))) else none
    have at_a : H a = some (.frz { cls := .type "list", data := .seq vs.toArray } (.lst (ns.map V.int))) := if_pos rfl
    have off : ∀ b, b ≠ a → H b = none := fun b n => if_neg n
    have only : ∀ b, H b ≠ none → b = a := fun b z => Classical.byContradiction fun n => z (off b n)
    refine run_law (H := H) KX hns hb hbb hlim hg ha hr F hbind (fun b => ?_) (fun b u z => ?_) only (fun _ => hk) (hsp H only (.inl ⟨_, at_a⟩))
    · by_cases n : b = a
      · subst n; exact .inr ⟨_, _, at_a⟩
      · exact .inl (off b n)
    · by_cases n : b = a
      · subst n
        rw [at_a] at z
        cases z
        exact ⟨ha, by rw [List.length_map]; exact hl, vs, _, rv, ha⟩
      · rw [off b n] at z
        exact nomatch z
/-- THE END: a table whose law answers True at every script -/
theorem walk_tab {l : PySem.W.OpenLaw} {n k j : Nat} {q : Program} {loose : List Str} {XP : (Str → Option Value) → Heap → Prop} {YP : World → Heap → Prop} {d : DefRec} {T : List FD} {G : Gl0} {D : FD} {x : Str}
    (hn : l.most = some n) (hn2 : n ≤ sizeLine) (hdf : d.params.defaults = []) (hr : Room k callerA) (hT : ∀ D ∈ T, fdB T G D = true) (hj : T[j]? = some D) (hx : D.ps = [x]) (hname : d.name = D.name)
    (hg : ∀ (w : World) (mg : Str → Option Value) (h : Heap), YP w h → h.Ns mainGlobals mg → ∃ (K : PySem.W.Frag) (c : Cn), K.In h ∧ ∀ base : Heap, K.In base → base.Ns mainGlobals mg → Glob l.prog w K mg base c T G)
    (law : ∀ ns : List Int, ns.length ≤ n → ∃ as S, callT T k j [.val (.flst (ns.map W.int))] [] = .ok (.val (.bl true)) as S) :
    PySem.W.WalkO q loose XP YP l.row.toRowW d [] (fun f vs => PySem.call f vs) := by
  refine Att.attach_call hn hdf fun w s₀ s₁ mg mb fa o pm cd doc a vs ns Gr Y ho hd hcd hmg hobj hints hlen hgn => ?_
  obtain ⟨K, c, KX, gl⟩ := hg w mg _ Y Gr.T.g
  have hjl : j < c.fa.length := by
    rw [(gl _ KX Gr.T.g).len]; exact (List.getElem?_eq_some_iff.mp hj).1
  have hca := List.getElem?_eq_getElem hjl
  obtain ⟨hm, fd, F⟩ := (gl _ KX Gr.T.g).fn j D _ hj hca
  rw [hname] at hmg
  rw [hmg] at hm
  cases hm
  /- one function object for all levels -/
  obtain ⟨oc, od, dV, kV, doc', pm', an, cdv, ct, osl, rfl, lk, _, hdd, _⟩ := F.ex
  have hdv : dV = .none := by
    rcases hdd with ⟨_, h⟩ | ⟨h, _⟩
    · exact h
    · exact absurd rfl h
  have hb := hT D (List.mem_of_getElem? hj)
  unfold fdB at hb
  simp only [Bool.and_eq_true] at hb
  have pl := plainB_ok hb.2.2
  refine law_end (x := x) (fd := PySem.W.fnOf D.name D.qual D.params D.body D.scope dV kV doc' pm' an cdv ct) (sp := spF c (callT T k) j) KX Gr.T.g Gr.T.b Gr.T.builtins Gr.T.nolimit hgn hobj hints (Nat.le_trans hlen hn2) hr (fun base h1 h2 => ?_) (fun s u => ?_) fun H hA hS => ?_
  · obtain ⟨fd2, p1, p2, p3, oc2, od2, osl2, lk2⟩ := level (gl base h1 h2) hT k j D _ hj hca
    have : fd2 = PySem.W.fnOf D.name D.qual D.params D.body D.scope dV kV doc' pm' an cdv ct := by
      rw [lk] at lk2
      cases lk2
      rfl
    rw [← this, ← hx]; exact p3
  · rw [hx] at pl
    have := bind_kw (fd := PySem.W.fnOf D.name D.qual D.params D.body D.scope dV kV doc' pm' an cdv ct) (ps := [x]) (ks := []) (us := [u]) (ws := []) (vals := [u]) (perm := [0]) pl hdv rfl (by simp) (by simp) (by simp) rfl rfl
    exact BindsTo.of_eq this
  · obtain ⟨as, S', hlaw⟩ := law ns hlen
    refine ⟨⟨⟨fun b => H b ≠ none, []⟩, H, fun _ => False, []⟩, ⟨fun b => H b ≠ none, []⟩, [.val (.flst (ns.map W.int))], [], rfl, rfl, ?_, fun i b z => ?_, fun _ z => z.elim, ?_⟩
    · have rl : ∀ (d : Wd) (H : Hp) (ns : List Int), RepL c d H (ns.map W.int) (ns.map V.int) := fun d H ns => by
        induction ns with
        | nil => exact .nil
        | cons n ns ih => exact .cons .intI ih
      exact {
        le0 := .refl
        dom := fun _ h => h
        fr := fun _ _ h _ _ => h
        new := fun _ h => .inl h
        mun := fun _ h => .inl h
        dm := fun _ h => h
        mlen := rfl
        nodup := List.nodup_nil
        cell := fun n ws q => by simp at q
        len := rfl
        slot := fun i sv q => by
          cases i with
          | zero =>
            cases q
            refine ⟨_, rfl, ?_⟩
            show Rep c _ H (.flst (ns.map W.int)) (.ref a)
            simp only [Rep]
            refine ⟨a, _, rfl, ?_, rl _ _ ns⟩
            rcases hS with ⟨o, h⟩ | h
            · exact .inl ⟨(by rw [h]; exact fun z => nomatch z), o, h⟩
            · exact .inr (by rw [(gl _ KX Gr.T.g).eK]; exact h)
          | succ i => cases q
        own := fun i b ⟨⟨l, z⟩, _⟩ => by
          cases i with
          | zero => cases z
          | succ i => cases z
        inj := fun i j b ⟨⟨l, z⟩, _⟩ => by
          cases i with
          | zero => cases z
          | succ i => cases z
        par := fun p hp => nomatch hp }
    · obtain ⟨⟨l, z⟩, _⟩ := z
      cases i with
      | zero => cases z
      | succ i => cases z
    · rw [hlaw]
      intro v d' H' _ hr
      simpa only [RvR, Rep] using hr
end NV
set_option Elab.async false
set_option linter.all false
set_option maxRecDepth 100000
set_option maxHeartbeats 4000000
/-! # What the head tells, as the table wants it -/
namespace NV
open PySem PySem.Spec PyProof.Rows L2
def cnOf (K : PySem.W.Frag) (T : List FD) : Cn := ⟨K, T.map fun D => He.ga K D.name, []⟩
def defD (D : FD) : He.DefD := ⟨(D.name, none), D.name, D.qual, D.params, D.body, D.scope, [], []⟩
section
variable {P : Program} {w : World} {K : PySem.W.Frag} {h : Heap} {mg : Str → Option Value} {base : Heap} {T : List FD} {G : Gl0} {fa : List He.Fa} {fn : List He.DefD}
theorem glob_of (X : K.In h) (N : h.Ns mainGlobals mg) (c : He.SaysD fa fn K) (hfn : ∀ D ∈ T, defD D ∈ fn) (hfa : ∀ D ∈ T, He.Fa.glo D.name ∈ fa) (hfr : ∀ x ∈ G.free, He.Fa.free x ∈ fa)
    (gcs : ∀ p ∈ G.gcs, ∃ u v, mg p.1 = some u ∧ RelV v u ∧ ∀ d H, Rep (cnOf K T) d H p.2 v)
    (gds : ∀ p ∈ G.gds, ∃ a, mg p.1 = some (.ref a) ∧ ∀ (z : Str) (x : W), dctFind p.2.1 p.2.2 z = some x → ∃ v, KDct K w a z v ∧ ∀ d H, Rep (cnOf K T) d H x v) : Glob P w K mg base (cnOf K T) T G where
  eK := rfl
  len := List.length_map ..
  fn := fun f D a hD ha => by
    have ha : (T.map fun D => He.ga K D.name)[f]? = some a := ha
    rw [List.getElem?_map, hD] at ha
    cases ha
    have hm := List.mem_of_getElem? hD
    exact ⟨He.glo_ok X N (c.facts (hfa D hm)), c.defs (hfn D hm)⟩
  free := fun x hx => He.free_ok X N (c.facts (hfr x hx))
  gcs := gcs
  gds := gds
theorem gc_str {cn : Cn} (X : K.In h) (N : h.Ns mainGlobals mg) (c : He.SaysD fa fn K) {x z : Str} (hm : He.Fa.str x z ∈ fa) : ∃ u v, mg x = some u ∧ RelV v u ∧ ∀ d H, Rep cn d H (.str z) v := by
  obtain ⟨t, e⟩ := He.str_ok X N (c.facts hm)
  exact ⟨_, .str z, e, ⟨t, rfl⟩, fun _ _ => .strI⟩
theorem gc_int {cn : Cn} (X : K.In h) (N : h.Ns mainGlobals mg) (c : He.SaysD fa fn K) {x : Str} {i : Int} (hm : He.Fa.int x i ∈ fa) : ∃ u v, mg x = some u ∧ RelV v u ∧ ∀ d H, Rep cn d H (.int i) v := by
  obtain ⟨t, e⟩ := He.int_ok X N (c.facts hm)
  exact ⟨_, .int i, e, ⟨t, rfl⟩, fun _ _ => .intI⟩
theorem gc_tup {cn : Cn} (hK : cn.K = K) (X : K.In h) (N : h.Ns mainGlobals mg) (c : He.SaysD fa fn K) {x : Str} {vs : List He.Dv} {ws : List W} (hm : He.Fa.glo x ∈ fa) (ht : He.tupB K x vs = true) (hr : ∀ d H, RepL cn d H ws (vs.map (He.Dv.v K))) :
    ∃ u v, mg x = some u ∧ RelV v u ∧ ∀ d H, Rep cn d H (.tup ws) v := by
  refine ⟨_, .ref (He.ga K x), He.glo_ok X N (c.facts hm), rfl, fun d H => ?_⟩
  simp only [Rep]
  exact ⟨_, _, rfl, .inr (by rw [hK]; exact He.tupB_ok ht _), hr d H⟩
theorem dctFind_str : ∀ {kvs : List (Str × Str)} {z : Str} {x : W}, dctFind (kvs.map fun p => .str p.1) (kvs.map fun p => .str p.2) z = some x → ∃ y, (z, y) ∈ kvs ∧ x = .str y
  | [], _, _, h => by cases h
  | (k, v) :: r, z, x, h => by
    have h : (if k = z then some (.str v) else dctFind (r.map fun p => .str p.1) (r.map fun p => .str p.2) z) = some x := h
    by_cases e : k = z
    · rw [if_pos e] at h
      cases h; subst e
      exact ⟨v, List.mem_cons_self .., rfl⟩
    · rw [if_neg e] at h
      obtain ⟨y, h1, h2⟩ := dctFind_str h
      exact ⟨y, List.mem_cons_of_mem _ h1, h2⟩
theorem gd_str {cn : Cn} {ts : List He.Tab} (X : K.In h) (N : h.Ns mainGlobals mg) (c : He.SaysT fa fn ts w K) (i : Nat) {x : Str} {ks : List Str} {kvs : List (Str × Str)} (hm : He.Fa.glo x ∈ fa) (hi : ts[i]? = some (fun K => He.ga K x, ks)) (hv : He.valsB K (He.ga K x) (kvs.map fun p => (p.1, He.Dv.str p.2)) = true) :
    ∃ a, mg x = some (.ref a) ∧ ∀ (z : Str) (y : W), dctFind (kvs.map fun p => .str p.1) (kvs.map fun p => .str p.2) z = some y → ∃ v, KDct K w a z v ∧ ∀ d H, Rep cn d H y v := by
  refine ⟨_, He.glo_ok X N (c.d.facts hm), fun z y hy => ?_⟩
  obtain ⟨q, h1, rfl⟩ := dctFind_str hy
  obtain ⟨es, n, k1, k2, k3⟩ := c.tab i hi
  obtain ⟨u, n1, n2⟩ := He.valsB_ok hv (List.mem_map_of_mem (f := fun p => (p.1, He.Dv.str p.2)) h1)
  exact ⟨.str q, ⟨es, n, u, k1, k2, n1, n2⟩, fun _ _ => .strI⟩
end
end NV
set_option Elab.async false
set_option linter.all false
set_option maxRecDepth 100000
set_option maxHeartbeats 1000000
/-! # Runs of the little text, step by step -/
namespace NV
open PySem PySem.Spec PyProof.Rows L2
structure PO (p : P) (u v : W) (r : RV) : Prop where
  h : pOp2 p u v = some r
structure CC (cf : CallF) (f : Nat) (args : List SV) (S : Sto) (r : RV) (as : Env) (S' : Sto) : Prop where
  h : cf f args S = .ok r as S'
structure EV (cf : CallF) (m : M) (ρ : Env) (S : Sto) (r : RV) (ρ' : Env) (S' : Sto) : Prop where
  h : evE cf m ρ S = .ok r ρ' S'
structure AV1 (cf : CallF) (m : M) (ρ : Env) (S : Sto) (r : AV) (ρ' : Env) (S' : Sto) : Prop where
  h : argV (evE cf m) m ρ S = .ok r ρ' S'
structure AA (cf : CallF) (m : M) (ρ : Env) (S : Sto) (r : List AV) (ρ' : Env) (S' : Sto) : Prop where
  h : evA cf m ρ S = .ok r ρ' S'
structure OO (cf : CallF) (m : M) (ρ : Env) (S : Sto) (r : Option Int) (ρ' : Env) (S' : Sto) : Prop where
  h : optO (evE cf m) m ρ S = .ok r ρ' S'
structure II (cf : CallF) (m : M) (ρ : Env) (S : Sto) (r : List W) (ρ' : Env) (S' : Sto) : Prop where
  h : evI cf m ρ S = .ok r ρ' S'
structure TT1 (cf : CallF) (m : M) (ρ : Env) (S : Sto) (r : Bool) (ρ' : Env) (S' : Sto) : Prop where
  h : tst (evE cf m) ρ S = .ok r ρ' S'
structure RR (cf : CallF) (m : M) (ρ : Env) (S : Sto) (r : List RV) (ρ' : Env) (S' : Sto) : Prop where
  h : evR cf m ρ S = .ok r ρ' S'
structure SS (cf : CallF) (m : MS) (ρ : Env) (S : Sto) (r : Fl) (ρ' : Env) (S' : Sto) : Prop where
  h : evS cf m ρ S = .ok r ρ' S'
/-- go on unless something has ended -/
structure SF (cf : CallF) (f : Fl) (m : MS) (ρ : Env) (S : Sto) (r : Fl) (ρ' : Env) (S' : Sto) : Prop where
  h : (match f with
    | .nx => evS cf m ρ S
    | f => .ok f ρ S) = .ok r ρ' S'
structure SB (cf : CallF) (b : Bool) (m n : MS) (ρ : Env) (S : Sto) (r : Fl) (ρ' : Env) (S' : Sto) : Prop where
  h : (if b then evS cf m ρ S else evS cf n ρ S) = .ok r ρ' S'
structure EB (cf : CallF) (b : Bool) (m n : M) (ρ : Env) (S : Sto) (r : RV) (ρ' : Env) (S' : Sto) : Prop where
  h : (if b then evE cf m ρ S else evE cf n ρ S) = .ok r ρ' S'
structure FL (tgt : W → Env → Option Env) (cf : CallF) (m : MS) (l : List W) (ρ : Env) (S : Sto) (r : Fl) (ρ' : Env) (S' : Sto) : Prop where
  h : forL tgt (evS cf m) l ρ S = .ok r ρ' S'
section
variable {cf : CallF} {ρ ρ' ρ1 ρ2 ρ3 : Env} {S S' S1 S2 S3 : Sto} {a b m m2 n : M} {w u v : W} {r q : RV} {x y : AV} {l l2 : List AV} {i j : Nat} {o : Option Int} {bb : Bool}
def isPk : M → Bool
  | .pk _ => true
  | _ => false
theorem argV_ne {g : Env → Sto → Out RV} (h : isPk m = false) : argV g m ρ S = (g ρ S).bind fun r ρ S => .ok (.val r.frz) ρ S := by
  cases m <;> first | rfl | cases h
theorem A_pk {s : SV} (h : sget ρ i = some s) : AV1 cf (.pk i) ρ S (.pk i) ρ S := ⟨by simp only [argV, h]⟩
theorem A_v (h : EV cf m ρ S r ρ' S') (hm : isPk m = false) : AV1 cf m ρ S (.val r.frz) ρ' S' := ⟨by rw [argV_ne hm, h.h]; rfl⟩
theorem AA_nil : AA cf .nil ρ S [] ρ S := ⟨by simp only [evA]⟩
theorem AA_cons (h1 : AV1 cf a ρ S x ρ1 S1) (h2 : AA cf b ρ1 S1 l ρ2 S2) : AA cf (.cons a b) ρ S (x :: l) ρ2 S2 := ⟨by simp only [evA, h1.h, Out.bind_ok, h2.h]⟩
theorem RR_nil : RR cf .nil ρ S [] ρ S := ⟨by simp only [evR]⟩
theorem RR_cons {rs : List RV} (h1 : EV cf a ρ S r ρ1 S1) (h2 : RR cf b ρ1 S1 rs ρ2 S2) : RR cf (.cons a b) ρ S (r :: rs) ρ2 S2 := ⟨by simp only [evR, h1.h, Out.bind_ok, h2.h]⟩
theorem O_nil : OO cf .nil ρ S none ρ S := ⟨rfl⟩
theorem O_some {k : Int} (h : EV cf m ρ S (.val (.int k)) ρ' S') (hm : isNilM m = false) : OO cf m ρ S (some k) ρ' S' := ⟨by
  have : optO (evE cf m) m ρ S = (evE cf m ρ S).bind fun r ρ S => match r with
    | .val (.int i) => .ok (some i) ρ S
    | _ => .stuck := by cases m <;> first | rfl | cases hm
  rw [this, h.h]; rfl⟩
theorem E_cst : EV cf (.cst w) ρ S (.val w) ρ S := ⟨by simp only [evE]⟩
theorem E_gf {f : Nat} : EV cf (.gf f) ρ S (.val (.fn f)) ρ S := ⟨by simp only [evE]⟩
theorem E_gc {z : Str} : EV cf (.gc z w) ρ S (.val w) ρ S := ⟨by simp only [evE]⟩
theorem E_nm (h : rdEnv ρ i = some (w, ρ')) : EV cf (.nm i) ρ S (.val w) ρ' S := ⟨by simp only [evE, h]⟩
theorem E_gd {z : Str} {ks vs : List W} (h : EV cf m ρ S r ρ' S') (hw : pIx (.dct ks vs) r.frz = some w) : EV cf (.gd z ks vs m) ρ S (.val w) ρ' S' := ⟨by simp only [evE, h.h, Out.bind_ok, hw]⟩
theorem E_tup {ws : List W} (h : AA cf m ρ S l ρ' S') (hv : vals l = some ws) (hz : szOk ws.length = true) : EV cf (.tup m) ρ S (.val (.tup ws)) ρ' S' := ⟨by simp only [evE, h.h, Out.bind_ok, hv, hz, if_true]⟩
theorem E_lst {ws : List W} (h : AA cf m ρ S l ρ' S') (hv : vals l = some ws) (hz : szOk ws.length = true) : EV cf (.lst m) ρ S (.fresh ws) ρ' S' := ⟨by simp only [evE, h.h, Out.bind_ok, hv, hz, if_true]⟩
theorem E_op2 {p : P} (h1 : AV1 cf a ρ S x ρ1 S1) (h2 : AV1 cf b ρ1 S1 y ρ2 S2) (hx : x.get ρ2 S2 = some u) (hy : y.get ρ2 S2 = some v) (hp : PO p u v r) : EV cf (.op2 p a b) ρ S r ρ2 S2 := ⟨by simp only [evE, h1.h, Out.bind_ok, h2.h, hx, hy, hp.h]⟩
theorem E_neg {k : Int} (h : EV cf a ρ S (.val (.int k)) ρ' S') : EV cf (.neg a) ρ S (.val (.int (-k))) ρ' S' := ⟨by simp only [evE, h.h, Out.bind_ok, RV.frz_val]⟩
theorem E_sl {lo hi : M} {o2 : Option Int} (h1 : AV1 cf a ρ S x ρ1 S1) (h2 : OO cf lo ρ1 S1 o ρ2 S2) (h3 : OO cf hi ρ2 S2 o2 ρ3 S3) (hx : x.get ρ3 S3 = some u) (hp : pSl u o o2 = some r) : EV cf (.sl a lo hi) ρ S r ρ3 S3 := ⟨by simp only [evE, h1.h, Out.bind_ok, h2.h, h3.h, hx, hp]⟩
theorem E_bi {k : Bi} {ws : List W} (h : AA cf m ρ S l ρ' S') (hv : avs ρ' S' l = some ws) (hp : pBi k ws = some r) : EV cf (.bi k m) ρ S r ρ' S' := ⟨by simp only [evE, h.h, Out.bind_ok, hv, hp]⟩
theorem E_me {k : Me} {ws : List W} (h1 : AV1 cf a ρ S x ρ1 S1) (ht : tyOk k (x.get ρ1 S1) = true) (h2 : AA cf m ρ1 S1 l ρ2 S2) (hx : x.get ρ2 S2 = some u) (hv : avs ρ2 S2 l = some ws) (hp : pMe k u ws = some r) : EV cf (.me k a m) ρ S r ρ2 S2 := ⟨by simp only [evE, h1.h, Out.bind_ok, ht, if_true, h2.h, hx, hv, hp]⟩
theorem E_isi {ts : List Ty} (h : AV1 cf a ρ S x ρ' S') (hx : x.get ρ' S' = some u) (hp : isiW u ts = some bb) : EV cf (.isi a ts) ρ S (.val (.bl bb)) ρ' S' := ⟨by simp only [evE, h.h, Out.bind_ok, hx, hp]⟩
theorem E_andT (h : EV cf a ρ S (.val (.bl true)) ρ1 S1) (h2 : EV cf b ρ1 S1 r ρ' S') : EV cf (.and a b) ρ S r ρ' S' := ⟨by simp only [evE, h.h, Out.bind_ok, h2.h]⟩
theorem E_andF (h : EV cf a ρ S (.val (.bl false)) ρ1 S1) : EV cf (.and a b) ρ S (.val (.bl false)) ρ1 S1 := ⟨by simp only [evE, h.h, Out.bind_ok]⟩
theorem E_orF (h : EV cf a ρ S (.val (.bl false)) ρ1 S1) (h2 : EV cf b ρ1 S1 r ρ' S') : EV cf (.or a b) ρ S r ρ' S' := ⟨by simp only [evE, h.h, Out.bind_ok, h2.h]⟩
theorem E_orT (h : EV cf a ρ S (.val (.bl true)) ρ1 S1) : EV cf (.or a b) ρ S (.val (.bl true)) ρ1 S1 := ⟨by simp only [evE, h.h, Out.bind_ok]⟩
theorem E_and (h : EV cf a ρ S (.val (.bl bb)) ρ1 S1) (h2 : EB cf bb b (.cst (.bl false)) ρ1 S1 r ρ' S') : EV cf (.and a b) ρ S r ρ' S' := by
  cases bb with
  | true => exact E_andT h ⟨by simpa using h2.h⟩
  | false =>
    have := h2.h
    simp only [Bool.false_eq_true, if_false, evE] at this
    cases this
    exact E_andF h
theorem E_or (h : EV cf a ρ S (.val (.bl bb)) ρ1 S1) (h2 : EB cf bb (.cst (.bl true)) b ρ1 S1 r ρ' S') : EV cf (.or a b) ρ S r ρ' S' := by
  cases bb with
  | false => exact E_orF h ⟨by simpa using h2.h⟩
  | true =>
    have := h2.h
    simp only [if_true, evE] at this
    cases this
    exact E_orT h
theorem E_not (h : EV cf a ρ S (.val (.bl bb)) ρ1 S1) : EV cf (.not a) ρ S (.val (.bl (!bb))) ρ1 S1 := ⟨by simp only [evE, h.h, Out.bind_ok]⟩
theorem E_ite (h : EV cf m ρ S (.val (.bl bb)) ρ1 S1) (h2 : EB cf bb a b ρ1 S1 r ρ' S') : EV cf (.ite m a b) ρ S r ρ' S' := ⟨by
  have := h2.h
  cases bb with
  | true => simp only [evE, h.h, Out.bind_ok]; simpa using this
  | false => simp only [evE, h.h, Out.bind_ok]; simpa using this⟩
theorem EB_t (hb : bb = true) (h : EV cf a ρ S r ρ' S') : EB cf bb a b ρ S r ρ' S' := ⟨by rw [if_pos hb]; exact h.h⟩
theorem EB_f (hb : bb = false) (h : EV cf b ρ S r ρ' S') : EB cf bb a b ρ S r ρ' S' := ⟨by rw [if_neg (by rw [hb]; decide)]; exact h.h⟩
theorem E_chainF {p q : CmpOp} {z : M} {r2 : RV} (h1 : EV cf a ρ S r ρ1 S1) (h2 : EV cf b ρ1 S1 r2 ρ2 S2) (hp : pCmp p r.frz r2.frz = some false) : EV cf (.chain p q a b z) ρ S (.val (.bl false)) ρ2 S2 := ⟨by simp only [evE, h1.h, Out.bind_ok, h2.h, hp]⟩
theorem E_chainT {p q : CmpOp} {z : M} {r2 r3 : RV} (h1 : EV cf a ρ S r ρ1 S1) (h2 : EV cf b ρ1 S1 r2 ρ2 S2) (hp : pCmp p r.frz r2.frz = some true) (h3 : EV cf z ρ2 S2 r3 ρ3 S3) (hq : pCmp q r2.frz r3.frz = some bb) : EV cf (.chain p q a b z) ρ S (.val (.bl bb)) ρ3 S3 := ⟨by simp only [evE, h1.h, Out.bind_ok, h2.h, hp, h3.h, hq]⟩
theorem E_call {f : Nat} {args : List SV} {as : Env} (h : AA cf m ρ S l ρ1 S1) (hq : argSV ρ1 l = some args) (hn : (pks l).Nodup) (hc : CC cf f args S1 r as S2) (hb : backA ρ1 l as = some ρ2) : EV cf (.call f m) ρ S r ρ2 S2 := ⟨by simp only [evE, h.h, Out.bind_ok, doCall, hq, if_pos hn, hc.h, hb]⟩
theorem E_callk {f : Nat} {perm : List Nat} {ks : M} {l3 : List AV} {args : List SV} {as : Env} (h : AA cf m ρ S l ρ1 S1) (h2 : AA cf ks ρ1 S1 l2 ρ2 S2) (hp : pickL (l ++ l2) perm = some l3) (hq : argSV ρ2 l3 = some args) (hn : (pks l3).Nodup) (hc : CC cf f args S2 r as S3) (hb : backA ρ2 l3 as = some ρ3) : EV cf (.callk f perm m ks) ρ S r ρ3 S3 := ⟨by simp only [evE, h.h, h2.h, Out.bind_ok, hp, doCall, hq, if_pos hn, hc.h, hb]⟩
theorem E_mut {k : Mu} {xs0 xs : Bool × List W} {ys : List W} (h0 : sget ρ i = some (.own xs0)) (h : AA cf m ρ S l ρ1 S1) (h1 : sget ρ1 i = some (.own xs)) (hm : muE k xs.2 ρ1 S1 l = some (w, ys)) : EV cf (.mut k i m) ρ S (.val w) (ρ1.set i (some (.own (xs.1, ys)))) S1 := ⟨by simp only [evE, h0, h.h, Out.bind_ok, h1, hm]⟩
theorem E_heap {xs : List W} (h : EV cf a ρ S (.fresh xs) ρ1 S1) : EV cf (.heap a) ρ S (.val (.ref S1.length)) ρ1 (S1 ++ [xs]) := ⟨by simp only [evE, h.h, Out.bind_ok]⟩
theorem E_edict : EV cf .edict ρ S (.val (.dct [] [])) ρ S := ⟨by simp only [evE]⟩
theorem I_seq {ws : List W} (h : EV cf a ρ S r ρ1 S1) (hf : r.frz = .lst ws ∨ r.frz = .flst ws ∨ r.frz = .tup ws) : II cf (.seq a) ρ S ws ρ1 S1 := ⟨by
  rcases hf with hf | hf | hf <;> simp only [evI, h.h, Out.bind_ok, hf]⟩
theorem I_str {z : Str} (h : EV cf a ρ S r ρ1 S1) (hf : r.frz = .str z) : II cf (.seq a) ρ S (z.cps.toList.map fun c => .str ⟨#[c]⟩) ρ1 S1 := ⟨by simp only [evI, h.h, Out.bind_ok, hf]⟩
theorem I_rng {ws ns : List W} (h : AA cf m ρ S l ρ1 S1) (hv : vals l = some ws) (hr : rngL ws = some ns) : II cf (.rng m) ρ S ns ρ1 S1 := ⟨by simp only [evI, h.h, Out.bind_ok, hv, hr]⟩
theorem T_of (h : EV cf m ρ S (.val (.bl bb)) ρ1 S1) : TT1 cf m ρ S bb ρ1 S1 := ⟨by simp only [tst, h.h, Out.bind_ok]⟩
/-! ### statements -/
variable {sa sb : MS} {f : Fl}
theorem S_nil : SS cf .nil ρ S .nx ρ S := ⟨by simp only [evS]⟩
theorem S_pass : SS cf .pass ρ S .nx ρ S := ⟨by simp only [evS]⟩
theorem S_seq {f1 : Fl} (h : SS cf sa ρ S f1 ρ1 S1) (h2 : SF cf f1 sb ρ1 S1 f ρ' S') : SS cf (.seq sa sb) ρ S f ρ' S' := ⟨by
  have := h2.h
  simp only [evS, h.h, Out.bind_ok]
  cases f1 <;> exact this⟩
theorem SF_nx (h : SS cf sb ρ S f ρ' S') : SF cf .nx sb ρ S f ρ' S' := ⟨h.h⟩
theorem SF_rt : SF cf (.rt r) sb ρ S (.rt r) ρ S := ⟨rfl⟩
theorem SF_br : SF cf .br sb ρ S .br ρ S := ⟨rfl⟩
theorem SF_ct : SF cf .ct sb ρ S .ct ρ S := ⟨rfl⟩
theorem S_asg (h : EV cf m ρ S r ρ1 S1) (hp : putT ρ1 i r.sv = some ρ2) : SS cf (.asg i m) ρ S .nx ρ2 S1 := ⟨by simp only [evS, h.h, Out.bind_ok, hp]⟩
theorem S_par {is : List Nat} {rs : List RV} (h : RR cf m ρ S rs ρ1 S1) (hp : putRs ρ1 is rs = some ρ2) : SS cf (.par is m) ρ S .nx ρ2 S1 := ⟨by simp only [evS, h.h, Out.bind_ok, hp]⟩
theorem S_tgt {t : M} (h : EV cf m ρ S r ρ1 S1) (hp : asgT t r.frz ρ1 = some ρ2) : SS cf (.tgt t m) ρ S .nx ρ2 S1 := ⟨by simp only [evS, h.h, Out.bind_ok, hp]⟩
theorem S_put {ix : M} {k : Int} {p : Nat} {xs0 xs : Bool × List W} (h : EV cf m ρ S r ρ1 S1) (h0 : sget ρ1 i = some (.own xs0)) (h2 : EV cf ix ρ1 S1 (.val (.int k)) ρ2 S2) (h1 : sget ρ2 i = some (.own xs)) (hk : ixN xs.2.length k = some p) :
    SS cf (.put i ix m) ρ S .nx (ρ2.set i (some (.own (xs.1, xs.2.set p r.frz)))) S2 := ⟨by simp only [evS, h.h, Out.bind_ok, h0, h2.h, h1, hk]⟩
theorem S_expr (h : EV cf m ρ S r ρ1 S1) : SS cf (.expr m) ρ S .nx ρ1 S1 := ⟨by simp only [evS, h.h, Out.bind_ok]⟩
theorem S_ret (h : EV cf m ρ S r ρ1 S1) : SS cf (.ret m) ρ S (.rt r) ρ1 S1 := ⟨by simp only [evS, h.h, Out.bind_ok]⟩
theorem S_mvv (h : sget ρ i = some (.val w)) : SS cf (.mvr i) ρ S (.rt (.val w)) ρ S := ⟨by simp only [evS, h]⟩
theorem S_mvo {xs : List W} (h : sget ρ i = some (.own (false, xs))) : SS cf (.mvr i) ρ S (.rt (.fresh xs)) (ρ.set i none) S := ⟨by simp only [evS, h, Bool.false_eq_true, if_false]⟩
theorem S_ite (h : EV cf m ρ S (.val (.bl bb)) ρ1 S1) (h2 : SB cf bb sa sb ρ1 S1 f ρ' S') : SS cf (.ite m sa sb) ρ S f ρ' S' := ⟨by
  simp only [evS, (T_of h).h, Out.bind_ok]
  exact h2.h⟩
theorem SB_t (hb : bb = true) (h : SS cf sa ρ S f ρ' S') : SB cf bb sa sb ρ S f ρ' S' := ⟨by rw [if_pos hb]; exact h.h⟩
theorem SB_f (hb : bb = false) (h : SS cf sb ρ S f ρ' S') : SB cf bb sa sb ρ S f ρ' S' := ⟨by rw [if_neg (by rw [hb]; decide)]; exact h.h⟩
theorem S_forr {t it : M} {ws : List W} (h : II cf it ρ S ws ρ1 S1) (h2 : FL (asgT t) cf sa ws ρ1 S1 f ρ' S') : SS cf (.forr t it sa) ρ S f ρ' S' := ⟨by
  simp only [evS, h.h, Out.bind_ok]
  exact h2.h⟩
theorem FL_nil {t : W → Env → Option Env} : FL t cf sa [] ρ S .nx ρ S := ⟨rfl⟩
theorem FL_cons {t : W → Env → Option Env} {ws : List W} (ht : t w ρ = some ρ1) (h : SS cf sa ρ1 S .nx ρ2 S2) (h2 : FL t cf sa ws ρ2 S2 f ρ' S') : FL t cf sa (w :: ws) ρ S f ρ' S' := ⟨by
  simp only [forL, ht, h.h, Out.bind_ok]
  exact h2.h⟩
theorem FL_ret {t : W → Env → Option Env} {ws : List W} (ht : t w ρ = some ρ1) (h : SS cf sa ρ1 S (.rt r) ρ2 S2) : FL t cf sa (w :: ws) ρ S (.rt r) ρ2 S2 := ⟨by simp only [forL, ht, h.h, Out.bind_ok]⟩
/-- a def's run -/
theorem run_rt {T : List FD} {k f : Nat} {D : FD} {args : List SV} (hD : T[f]? = some D) (hl : args.length = D.ps.length) (h : SS (callT T k) D.ms (args.map some ++ List.replicate (D.N.length - D.ps.length) none) S (.rt r) ρ' S') {as : Env} (hb : backP args ρ' = as) : CC (callT T (k + 1)) f args S r as S' := by
  exact ⟨by simp only [callT, hD, runF, if_pos hl, h.h, hb]⟩
theorem run_nx {T : List FD} {k f : Nat} {D : FD} {args : List SV} (hD : T[f]? = some D) (hl : args.length = D.ps.length) (h : SS (callT T k) D.ms (args.map some ++ List.replicate (D.N.length - D.ps.length) none) S .nx ρ' S') {as : Env} (hb : backP args ρ' = as) : CC (callT T (k + 1)) f args S (.val .non) as S' := by
  exact ⟨by simp only [callT, hD, runF, if_pos hl, h.h, hb]⟩
/-! ### numbers -/
theorem log2_le {n k : Nat} (h : n < 2 ^ k) : n.log2 ≤ k := by
  by_cases z : n = 0
  · subst z; simp
  · have := (Nat.log2_lt z).mpr h
    omega
theorem p_mul {i j : Int} (a b : Nat) (hi : i.natAbs < 2 ^ a) (hj : j.natAbs < 2 ^ b) (h : a + b < 1000000) : PO (.bin .Mult) (.int i) (.int j) (.val (.int (i * j))) := by
  have h1 := log2_le hi
  have h2 := log2_le hj
  constructor
  simp only [pOp2, pBin]
  rw [if_pos]
  rw [decide_eq_true_eq]
  omega
theorem p_mod {i j : Int} (h : 0 < j) : PO (.bin .Mod) (.int i) (.int j) (.val (.int (i % j))) := by
  constructor
  simp only [pOp2, pBin]
  rw [if_pos]
  rw [decide_eq_true_eq]; exact h
theorem p_add {i j : Int} : PO (.bin .Add) (.int i) (.int j) (.val (.int (i + j))) := ⟨rfl⟩
theorem p_sub {i j : Int} : PO (.bin .Sub) (.int i) (.int j) (.val (.int (i - j))) := ⟨rfl⟩
theorem p_div {i j : Int} (h : 0 < j) (h2 : j.natAbs < 2 ^ 8000) : PO (.bin .FloorDiv) (.int i) (.int j) (.val (.int (i / j))) := by
  have := log2_le h2
  constructor
  simp only [pOp2, pBin]
  rw [if_pos]
  rw [Bool.and_eq_true, decide_eq_true_eq, decide_eq_true_eq]
  exact ⟨h, by omega⟩
end
end NV
namespace NV
open PySem PySem.Spec PyProof.Rows L2
section
variable {cf : CallF} {ρ ρ1 : Env} {S S1 : Sto}
theorem atI_at {α : Type} {ws : List α} {r : Int} {j : Nat} (h : r = (j : Int)) (hj : j < ws.length) : atI ws r = some ws[j] := by
  subst h
  unfold atI ixN
  rw [if_pos (by omega), if_pos (by omega)]
  simp [hj]
theorem lc_pure {tgt : W → Env → Option Env} {F : Env → Sto → Out (Option W)} {own : List Nat} {P : W → Bool} {g : W → W} : ∀ {ws acc : List W}, (∀ w ∈ ws, ∃ ρ2, tgt w ρ = some ρ2 ∧ ∃ ρ3, F ρ2 S = .ok (if P w then some (g w) else none) ρ3 S ∧ wipeE ρ3 own = ρ) → acc.length + ws.length ≤ sizeLine →
    lcLoop tgt F own ws acc ρ S = .ok (acc ++ (ws.filter P).map g) ρ S
  | [], acc, _, _ => by simp [lcLoop]
  | w :: ws, acc, h, hl => by
    obtain ⟨ρ2, h1, ρ3, h2, h3⟩ := h w (List.mem_cons_self ..)
    rw [List.length_cons] at hl
    have ih := fun a => lc_pure (ws := ws) (acc := a) (tgt := tgt) (F := F) (own := own) (P := P) (g := g) (fun w hw => h w (List.mem_cons_of_mem _ hw))
    cases hp : P w with
    | true =>
      rw [hp, if_pos rfl] at h2
      simp only [lcLoop, h1, h2, h3]
      rw [if_pos (by omega), ih _ (by rw [List.length_append, List.length_singleton]; omega), List.filter_cons_of_pos hp]
      simp
    | false =>
      rw [hp, if_neg (by decide)] at h2
      simp only [lcLoop, h1, h2, h3]
      rw [ih _ (by omega), List.filter_cons_of_neg (by rw [hp]; decide)]
theorem E_lcp {own : List Nat} {src tgt cond elt : M} {ws : List W} {P : W → Bool} {g : W → W} (hi : II cf src ρ S ws ρ1 S1) (hf : own.all (freeS ρ1) = true)
    (hs : ∀ w ∈ ws, ∃ ρ2, asgT tgt w (wipeE ρ1 own) = some ρ2 ∧ ∃ ρ3, EV cf cond ρ2 S1 (.val (.bl (P w))) ρ3 S1 ∧ (P w = true → ∃ r ρ4, EV cf elt ρ3 S1 r ρ4 S1 ∧ r.frz = g w ∧ wipeE ρ4 own = wipeE ρ1 own) ∧ (P w = false → wipeE ρ3 own = wipeE ρ1 own)) (hl : ws.length ≤ sizeLine) :
    EV cf (.lc own src tgt cond elt) ρ S (.fresh ((ws.filter P).map g)) (backE ρ1 (wipeE ρ1 own) own) S1 := by
  constructor
  simp only [evE, hi.h, Out.bind_ok, if_pos hf]
  rw [lc_pure (P := P) (g := g) (acc := []) (fun w hw => ?_) (by simpa using hl)]
  · rfl
  · obtain ⟨ρ2, h1, ρ3, h2, h3, h4⟩ := hs w hw
    refine ⟨ρ2, h1, ?_⟩
    cases hp : P w with
    | true =>
      obtain ⟨r, ρ4, h5, h6, h7⟩ := h3 hp
      rw [hp] at h2
      exact ⟨ρ4, by simp only [h2.h, Out.bind_ok, h5.h, h6, if_true], h7⟩
    | false =>
      rw [hp] at h2
      exact ⟨ρ3, by simp only [h2.h, Out.bind_ok, Bool.false_eq_true, if_false], h4 hp⟩
theorem p_eqnil {l : List W} {xs : List PyData} (h : W.toDs l = some xs) : PO (.cmp .Eq) (.lst l) (.lst []) (.val (.bl l.isEmpty)) := by
  constructor
  have e1 : W.toD (.lst l) = some (.list xs) := by simp only [W.toD, h]; rfl
  have e2 : W.toD (.lst []) = some (.list []) := rfl
  have e3 : dOk (.list []) = true := by decide
  simp only [pOp2, pCmp, wEq, e1, e2, e3, Bool.or_true, if_true, Option.map_some]
  cases l with
  | nil => cases h; rfl
  | cons a l =>
    cases xs with
    | nil =>
      simp only [W.toDs] at h
      split at h <;> cases h
    | cons x xs => rfl
theorem strs_toDs : ∀ {l : List Str}, W.toDs (l.map W.str) = some (l.map PyData.str)
  | [] => rfl
  | a :: l => by
    show (match W.toD (.str a), W.toDs (l.map W.str) with
    | some x, some xs => some (x :: xs)
    | _, _ => none) = _
    rw [strs_toDs]; rfl
end
end NV
namespace NV
open PySem PySem.Spec PyProof.Rows L2
/-- the second half of a chain -/
structure CH (cf : CallF) (b : Bool) (q : CmpOp) (r2 : RV) (z : M) (ρ : Env) (S : Sto) (r : RV) (ρ' : Env) (S' : Sto) : Prop where
  h : (if b then (evE cf z ρ S).bind fun z ρ S => match pCmp q r2.frz z.frz with
      | some r => .ok (.val (.bl r)) ρ S
      | none => .stuck
    else .ok (.val (.bl false)) ρ S) = .ok r ρ' S'
section
variable {cf : CallF} {ρ ρ' ρ1 ρ2 ρ3 : Env} {S S' S1 S2 S3 : Sto} {a b z : M} {r r2 r3 q : RV} {bb b1 : Bool}
theorem E_chain {p q : CmpOp} (h1 : EV cf a ρ S r ρ1 S1) (h2 : EV cf b ρ1 S1 r2 ρ2 S2) (hp : pCmp p r.frz r2.frz = some b1) (h3 : CH cf b1 q r2 z ρ2 S2 r3 ρ3 S3) : EV cf (.chain p q a b z) ρ S r3 ρ3 S3 := by
  have := h3.h
  constructor
  cases b1 with
  | true =>
    simp only [evE, h1.h, Out.bind_ok, h2.h, hp]
    rw [if_pos rfl] at this
    exact this
  | false =>
    simp only [evE, h1.h, Out.bind_ok, h2.h, hp]
    exact this
theorem CH_t {q : CmpOp} (hb : b1 = true) (h : EV cf z ρ S r3 ρ' S') (hq : pCmp q r2.frz r3.frz = some bb) : CH cf b1 q r2 z ρ S (.val (.bl bb)) ρ' S' := ⟨by rw [if_pos hb, h.h, Out.bind_ok]; simp only [hq]⟩
theorem CH_f {q : CmpOp} (hb : b1 = false) : CH cf b1 q r2 z ρ S (.val (.bl false)) ρ S := ⟨by rw [hb]; rfl⟩
theorem p_ixs {s : Str} {i : Int} {c : Nat} (hz : s.length ≤ sizeLine) (h : atI s.cps.toList i = some c) : PO .ix (.str s) (.int i) (.val (.str ⟨#[c]⟩)) := ⟨by
  have : szOk s.length = true := decide_eq_true hz
  simp only [pOp2, pIx, this, if_true, h]; rfl⟩
theorem p_len {s : Str} (hz : s.length ≤ sizeLine) : pBi .len [.str s] = some (.val (.int s.length)) := by
  have : szOk s.length = true := decide_eq_true hz
  simp only [pBi, this, if_true]
end
end NV
namespace NV
open PySem PySem.Spec PyProof.Rows L2
structure WL (cf : CallF) (t : M) (b : MS) (n : Nat) (ρ : Env) (S : Sto) (f : Fl) (ρ' : Env) (S' : Sto) : Prop where
  h : whileL (tst (evE cf t)) (evS cf b) n ρ S = .ok f ρ' S'
section
variable {cf : CallF} {ρ ρ' ρ1 ρ2 ρ3 : Env} {S S' S1 S2 S3 : Sto} {t : M} {b : MS} {n : Nat} {f : Fl} {r : RV} {bb : Bool}
theorem S_whl (h : WL cf t b n ρ S f ρ' S') : SS cf (.whl n t b) ρ S f ρ' S' := ⟨by simp only [evS]; exact h.h⟩
theorem W_stop (h : EV cf t ρ S (.val (.bl false)) ρ1 S1) : WL cf t b (n + 1) ρ S .nx ρ1 S1 := ⟨by simp only [whileL, (T_of h).h, Out.bind_ok, Bool.false_eq_true, if_false]⟩
theorem W_go (h : EV cf t ρ S (.val (.bl true)) ρ1 S1) (hb : SS cf b ρ1 S1 .nx ρ2 S2) (hw : WL cf t b n ρ2 S2 f ρ' S') : WL cf t b (n + 1) ρ S f ρ' S' := ⟨by simp only [whileL, (T_of h).h, Out.bind_ok, if_true, hb.h]; exact hw.h⟩
theorem W_ret (h : EV cf t ρ S (.val (.bl true)) ρ1 S1) (hb : SS cf b ρ1 S1 (.rt r) ρ2 S2) : WL cf t b (n + 1) ρ S (.rt r) ρ2 S2 := ⟨by simp only [whileL, (T_of h).h, Out.bind_ok, if_true, hb.h]⟩
theorem mu_pop {st : List W} {e : W} : muE .pop (st ++ [e]) ρ S [] = some (e, st) := by
  simp [muE]
theorem mu_ext {xs ys : List W} (h : xs.length + ys.length ≤ sizeLine) : muE .extend xs ρ S [.val (.lst ys)] = some (.non, xs ++ ys) := by
  simp only [muE, AV.get, res]
  rw [if_pos h]
theorem p_nenil {l : List W} {xs : List PyData} (h : W.toDs l = some xs) : PO (.cmp .NotEq) (.lst l) (.lst []) (.val (.bl (!l.isEmpty))) := by
  have := (p_eqnil h).h
  constructor
  simp only [pOp2, pCmp] at this ⊢
  cases q : wEq (.lst l) (.lst []) with
  | none => rw [q] at this; cases this
  | some b =>
    rw [q] at this
    simp only [Option.map_some] at this ⊢
    cases this
    rfl
end
end NV
set_option Elab.async false
set_option linter.all false
set_option maxRecDepth 100000
set_option maxHeartbeats 0
/-! # The law's text, the little text -/
namespace K02
open PySem PySem.Spec PyProof.Rows L2 NV
def top (i : Nat) : Stmt := PySem.Challenge.pw_netsproved_k02_whole_formulas_judged.main.body.getD i (.Pass ⟨0, 0, 0, 0⟩)
/-- is_word -/
def m_is_word : MS := (.seq (.ite (.or (.not (.isi (.pk 0) [.str])) (.or (.not (.chain .LtE .LtE (.cst (.int 1)) (.bi .len (.cons (.pk 0) .nil)) (.gc "MOST_SIGNS" (.int 8)))) (.op2 (.cmp .NotIn) (.op2 .ix (.pk 0) (.cst (.int 0))) (.gc "LETTERS" (.str "abcdefghijklmnopqrstuvwxyz"))))) (.seq (.ret (.cst (.bl false)))
    .nil) .nil)
    (.seq (.ret (.and (.op2 (.cmp .Eq) (.lc [1] (.seq (.nm 0)) (.tnm 1) (.op2 (.cmp .NotIn) (.pk 1) (.op2 (.bin .Add) (.gc "LETTERS" (.str "abcdefghijklmnopqrstuvwxyz")) (.gc "FIGURES" (.str "0123456789")))) (.nm 1)) (.lst .nil)) (.op2 (.cmp .NotIn) (.pk 0) (.gc "CLOSED" (.tup [(.str "both"), (.str "either"), (.str "not"), (.str "close"), (.str "cut"), (.str "order"), (.str "end"), (.str "pair")])))))
    .nil))
/-- inner_of -/
def m_inner_of : MS := (.seq (.ret (.ite (.op2 (.cmp .In) (.op2 .ix (.pk 0) (.cst (.int 0))) (.tup (.cons (.cst (.str "both")) (.cons (.cst (.str "either")) .nil)))) (.bi .list (.cons (.sl (.pk 0) (.cst (.int 1)) .nil) .nil)) (.lst .nil)))
    .nil)
/-- is_formed -/
def m_is_formed : MS := (.seq (.ite (.or (.not (.isi (.pk 0) [.tuple])) (.or (.op2 (.cmp .Eq) (.pk 0) (.tup .nil)) (.not (.isi (.op2 .ix (.pk 0) (.cst (.int 0))) [.str])))) (.seq (.ret (.cst (.bl false)))
    .nil) .nil)
    (.seq (.ite (.op2 (.cmp .In) (.op2 .ix (.pk 0) (.cst (.int 0))) (.tup (.cons (.cst (.str "is")) (.cons (.cst (.str "not")) .nil)))) (.seq (.ret (.and (.op2 (.cmp .Eq) (.bi .len (.cons (.pk 0) .nil)) (.cst (.int 2))) (.call 0 (.cons (.op2 .ix (.pk 0) (.cst (.int 1))) .nil))))
    .nil) .nil)
    (.seq (.ret (.and (.op2 (.cmp .In) (.op2 .ix (.pk 0) (.cst (.int 0))) (.tup (.cons (.cst (.str "both")) (.cons (.cst (.str "either")) .nil)))) (.op2 (.cmp .Eq) (.bi .len (.cons (.pk 0) .nil)) (.cst (.int 3)))))
    .nil)))
/-- is_formula_in -/
def m_is_formula_in : MS := (.seq (.par [1, 2] (.cons (.lst (.cons (.tup (.cons (.nm 0) (.cons (.cst (.int 1)) .nil))) .nil)) (.cons (.cst (.int 0)) .nil)))
    (.seq (.whl 4096 (.op2 (.cmp .NotEq) (.pk 1) (.lst .nil)) (.seq (.tgt (.ttup (.cons (.tnm 3) (.cons (.tnm 4) .nil))) (.mut .pop 1 .nil))
    (.seq (.asg 2 (.op2 (.bin .Add) (.pk 2) (.cst (.int 1))))
    (.seq (.ite (.or (.op2 (.cmp .Gt) (.pk 2) (.gc "MOST_FORMULAS" (.int 60))) (.or (.op2 (.cmp .Gt) (.pk 4) (.gc "MOST_WITHIN" (.int 20))) (.not (.call 2 (.cons (.nm 3) .nil))))) (.seq (.ret (.cst (.bl false)))
    .nil) .nil)
    (.seq (.expr (.mut .extend 1 (.cons (.lc [5] (.seq (.call 1 (.cons (.nm 3) .nil))) (.tnm 5) (.cst (.bl true)) (.tup (.cons (.nm 5) (.cons (.op2 (.bin .Add) (.pk 4) (.cst (.int 1))) .nil)))) .nil)))
    .nil)))))
    (.seq (.ret (.cst (.bl true)))
    .nil)))
/-- is_formula -/
def m_is_formula : MS := (.seq (.ret (.call 3 (.cons (.nm 0) .nil)))
    .nil)
/-- check_formula -/
def m_check_formula : MS := (.seq (.ite (.not (.call 3 (.cons (.nm 0) .nil))) .dead .nil)
    .nil)
/-- turned_in -/
def m_turned_in : MS := (.seq (.ite (.op2 (.cmp .In) (.op2 .ix (.pk 0) (.cst (.int 0))) (.tup (.cons (.cst (.str "is")) (.cons (.cst (.str "not")) .nil)))) (.seq (.ret (.tup (.cons (.gd "SIDES" [(.str "is"), (.str "not"), (.str "both"), (.str "either")] [(.str "not"), (.str "is"), (.str "either"), (.str "both")] (.op2 .ix (.pk 0) (.cst (.int 0)))) (.cons (.op2 .ix (.pk 0) (.cst (.int 1))) .nil))))
    .nil) .nil)
    (.seq (.ret (.op2 (.bin .Add) (.tup (.cons (.gd "SIDES" [(.str "is"), (.str "not"), (.str "both"), (.str "either")] [(.str "not"), (.str "is"), (.str "either"), (.str "both")] (.op2 .ix (.pk 0) (.cst (.int 0)))) .nil)) (.bi .tuple (.cons (.lc [1] (.seq (.sl (.pk 0) (.cst (.int 1)) .nil)) (.tnm 1) (.cst (.bl true)) (.call 6 (.cons (.nm 1) .nil))) .nil))))
    .nil))
/-- turned -/
def m_turned : MS := (.seq (.expr (.call 5 (.cons (.nm 0) .nil)))
    (.seq (.ret (.call 6 (.cons (.nm 0) .nil)))
    .nil))
/-- parts_in -/
def m_parts_in : MS := (.seq (.asg 1 (.lst (.cons (.nm 0) .nil)))
    (.seq (.forr (.tnm 2) (.seq (.call 1 (.cons (.nm 0) .nil))) (.seq (.asg 1 (.op2 (.bin .Add) (.pk 1) (.call 8 (.cons (.nm 2) .nil))))
    .nil))
    (.seq (.mvr 1)
    .nil)))
/-- size_of -/
def m_size_of : MS := (.seq (.expr (.call 5 (.cons (.nm 0) .nil)))
    (.seq (.ret (.bi .len (.cons (.call 8 (.cons (.nm 0) .nil)) .nil)))
    .nil))
/-- letters_in -/
def m_letters_in : MS := (.seq (.ret (.lc [1] (.seq (.call 8 (.cons (.nm 0) .nil))) (.tnm 1) (.op2 (.cmp .In) (.op2 .ix (.pk 1) (.cst (.int 0))) (.tup (.cons (.cst (.str "is")) (.cons (.cst (.str "not")) .nil)))) (.nm 1)))
    .nil)
/-- letters_of -/
def m_letters_of : MS := (.seq (.expr (.call 5 (.cons (.nm 0) .nil)))
    (.seq (.ret (.call 10 (.cons (.nm 0) .nil)))
    .nil))
/-- links_of -/
def m_links_of : MS := (.seq (.expr (.call 5 (.cons (.nm 0) .nil)))
    (.seq (.asg 1 (.lc [2] (.seq (.call 8 (.cons (.nm 0) .nil))) (.tnm 2) (.cst (.bl true)) (.op2 .ix (.pk 2) (.cst (.int 0)))))
    (.seq (.ret (.tup (.cons (.me .count (.pk 1) (.cons (.cst (.str "both")) .nil)) (.cons (.me .count (.pk 1) (.cons (.cst (.str "either")) .nil)) .nil))))
    .nil)))
/-- _law_hash -/
def m_law_hash : MS := (.seq (.asg 2 (.op2 (.bin .Mod) (.bi .int (.cons (.op2 (.bin .Add) (.op2 (.bin .Add) (.op2 (.bin .Add) (.op2 (.bin .Mult) (.pk 0) (.cst (.int 1140671))) (.op2 (.bin .Mult) (.op2 (.bin .Mult) (.cst (.int 27644437)) (.pk 1)) (.pk 1))) (.op2 (.bin .Mult) (.cst (.int 131)) (.pk 1))) (.cst (.int 19))) .nil)) (.cst (.int 2147483629))))
    (.seq (.asg 2 (.op2 (.bin .Mod) (.bi .int (.cons (.op2 (.bin .Add) (.op2 (.bin .Add) (.op2 (.bin .Mult) (.pk 2) (.pk 2)) (.op2 (.bin .Mult) (.cst (.int 62089)) (.pk 1))) (.cst (.int 32416187))) .nil)) (.cst (.int 2147483587))))
    (.seq (.ret (.op2 (.bin .Mod) (.bi .int (.cons (.op2 (.bin .Mult) (.pk 2) (.cst (.int 48271))) .nil)) (.cst (.int 2147483647))))
    .nil)))
/-- _law_random -/
def m_law_random : MS := (.seq (.ite (.op2 (.cmp .Gt) (.op2 .ix (.pk 0) (.cst (.int 0))) (.cst (.int 0))) (.seq (.asg 2 (.op2 (.bin .Mod) (.bi .int (.cons (.op2 .ix (.pk 0) (.cst (.int 0))) .nil)) (.pk 1)))
    (.seq (.put 0 (.cst (.int 0)) (.op2 (.bin .FloorDiv) (.op2 .ix (.pk 0) (.cst (.int 0))) (.pk 1)))
    (.seq (.mvr 2)
    .nil))) .nil)
    (.seq (.asg 2 (.cst (.int 0)))
    (.seq (.forr (.tnm 3) (.rng (.cons (.op2 (.bin .Add) (.cst (.int 1)) (.op2 (.bin .FloorDiv) (.me .bitLength (.pk 1) .nil) (.cst (.int 30)))) .nil)) (.seq (.put 0 (.cst (.int 2)) (.op2 (.bin .Add) (.op2 .ix (.pk 0) (.cst (.int 2))) (.cst (.int 1))))
    (.seq (.asg 2 (.op2 (.bin .Add) (.op2 (.bin .Mult) (.pk 2) (.cst (.int 2147483587))) (.call 13 (.cons (.op2 .ix (.pk 0) (.cst (.int 1))) (.cons (.op2 .ix (.pk 0) (.cst (.int 2))) .nil)))))
    .nil)))
    (.seq (.ret (.op2 (.bin .Mod) (.bi .int (.cons (.pk 2) .nil)) (.pk 1)))
    .nil))))
/-- _law_cell -/
def m_law_cell : MS := (.seq (.ite (.op2 (.cmp .Lt) (.pk 1) (.bi .len (.cons (.pk 0) .nil))) (.seq (.ret (.op2 .ix (.pk 0) (.pk 1)))
    .nil) .nil)
    (.seq (.ret (.op2 (.bin .Mod) (.bi .sum (.cons (.sl (.pk 0) .nil (.cst (.int 1))) .nil)) (.cst (.int 1000003))))
    .nil))
/-- _law_generator -/
def m_law_generator : MS := (.seq (.asg 2 (.call 15 (.cons (.nm 0) (.cons (.nm 1) .nil))))
    (.seq (.ret (.lst (.cons (.op2 (.bin .Mod) (.bi .int (.cons (.bi .max2 (.cons (.op2 (.bin .Sub) (.pk 2) (.op2 (.bin .Pow) (.cst (.int 10)) (.cst (.int 18)))) (.cons (.cst (.int 0)) .nil))) .nil)) (.op2 (.bin .Pow) (.op2 (.bin .Pow) (.cst (.int 10)) (.cst (.int 60))) (.cst (.int 10)))) (.cons (.op2 (.bin .Mod) (.bi .int (.cons (.pk 2) .nil)) (.cst (.int 2147483647))) (.cons (.op2 (.bin .Mult) (.cst (.int 1000)) (.pk 1)) .nil)))))
    .nil))
/-- _law_pick -/
def m_law_pick : MS := (.seq (.ret (.op2 .ix (.pk 1) (.call 14 (.cons (.pk 0) (.cons (.bi .len (.cons (.pk 1) .nil)) .nil)))))
    .nil)
/-- _law_same -/
def m_law_same : MS := (.seq (.ite (.or (.op2 (.cmp .Is) (.pk 1) (.cst .non)) (.or (.op2 (.cmp .Is) (.pk 1) (.cst (.bl true))) (.op2 (.cmp .Is) (.pk 1) (.cst (.bl false))))) (.seq (.ret (.ite (.op2 (.cmp .Is) (.pk 1) (.cst .non)) (.op2 (.cmp .Is) (.pk 0) (.cst .non)) (.ite (.op2 (.cmp .Is) (.pk 1) (.cst (.bl true))) (.op2 (.cmp .Is) (.pk 0) (.cst (.bl true))) (.op2 (.cmp .Is) (.pk 0) (.cst (.bl false))))))
    .nil) .nil)
    (.seq (.ite (.isi (.pk 1) [.list, .tuple]) (.seq (.ite (.or (.and (.not (.isi (.pk 0) [.list])) (.isi (.pk 1) [.list])) (.and (.not (.isi (.pk 0) [.tuple])) (.isi (.pk 1) [.tuple]))) (.seq (.ret (.cst (.bl false)))
    .nil) .nil)
    (.seq (.ret (.and (.op2 (.cmp .Eq) (.bi .len (.cons (.pk 0) .nil)) (.bi .len (.cons (.pk 1) .nil))) (.op2 (.cmp .Eq) (.lc [2] (.rng (.cons (.bi .len (.cons (.pk 1) .nil)) .nil)) (.tnm 2) (.not (.call 18 (.cons (.op2 .ix (.pk 0) (.pk 2)) (.cons (.op2 .ix (.pk 1) (.pk 2)) .nil)))) (.nm 2)) (.lst .nil))))
    .nil)) .nil)
    (.seq (.ite (.isi (.pk 1) [.dict]) (.seq (.ret (.and (.isi (.pk 0) [.dict]) (.op2 (.cmp .Eq) (.bi .repr (.cons (.pk 0) .nil)) (.bi .repr (.cons (.pk 1) .nil)))))
    .nil) .nil)
    (.seq (.ite (.isi (.pk 1) [.int]) (.seq (.ret (.and (.isi (.pk 0) [.int]) (.and (.not (.isi (.pk 0) [.bool])) (.op2 (.cmp .Eq) (.pk 0) (.pk 1)))))
    .nil) .nil)
    (.seq (.ret (.and (.isi (.pk 0) [.str]) (.op2 (.cmp .Eq) (.pk 0) (.pk 1))))
    .nil)))))
/-- _law_is_word -/
def m_law_is_word : MS := (.seq (.ite (.or (.not (.isi (.pk 0) [.str])) (.or (.not (.chain .Lt .Lt (.cst (.int 0)) (.bi .len (.cons (.pk 0) .nil)) (.cst (.int 9)))) (.op2 (.cmp .NotIn) (.op2 .ix (.pk 0) (.cst (.int 0))) (.cst (.str "abcdefghijklmnopqrstuvwxyz"))))) (.seq (.ret (.cst (.bl false)))
    .nil) .nil)
    (.seq (.ite (.op2 (.cmp .In) (.pk 0) (.lst (.cons (.cst (.str "both")) (.cons (.cst (.str "either")) (.cons (.cst (.str "not")) (.cons (.cst (.str "close")) (.cons (.cst (.str "cut")) (.cons (.cst (.str "order")) (.cons (.cst (.str "end")) (.cons (.cst (.str "pair")) .nil)))))))))) (.seq (.ret (.cst (.bl false)))
    .nil) .nil)
    (.seq (.ret (.op2 (.cmp .Eq) (.lc [1] (.seq (.nm 0)) (.tnm 1) (.op2 (.cmp .NotIn) (.pk 1) (.cst (.str "abcdefghijklmnopqrstuvwxyz0123456789"))) (.nm 1)) (.lst .nil)))
    .nil)))
/-- _law_is_formula -/
def m_law_is_formula : MS := (.seq (.par [1, 2, 3] (.cons (.lst (.cons (.nm 0) .nil)) (.cons (.cst (.int 0)) (.cons (.cst (.int 0)) .nil))))
    (.seq (.whl 4096 (.op2 (.cmp .NotEq) (.pk 1) (.lst .nil)) (.seq (.par [2, 3, 5] (.cons (.op2 (.bin .Add) (.pk 2) (.cst (.int 1))) (.cons (.op2 (.bin .Add) (.pk 3) (.bi .len (.cons (.pk 1) .nil))) (.cons (.lst .nil) .nil))))
    (.seq (.ite (.or (.op2 (.cmp .Gt) (.pk 2) (.cst (.int 20))) (.op2 (.cmp .Gt) (.pk 3) (.cst (.int 60)))) (.seq (.ret (.cst (.bl false)))
    .nil) .nil)
    (.seq (.forr (.tnm 4) (.seq (.nm 1)) (.seq (.ite (.or (.not (.isi (.pk 4) [.tuple])) (.or (.op2 (.cmp .Eq) (.pk 4) (.tup .nil)) (.not (.isi (.op2 .ix (.pk 4) (.cst (.int 0))) [.str])))) (.seq (.ret (.cst (.bl false)))
    .nil) .nil)
    (.seq (.ite (.and (.op2 (.cmp .In) (.op2 .ix (.pk 4) (.cst (.int 0))) (.tup (.cons (.cst (.str "both")) (.cons (.cst (.str "either")) .nil)))) (.op2 (.cmp .Eq) (.bi .len (.cons (.pk 4) .nil)) (.cst (.int 3)))) (.seq (.asg 5 (.op2 (.bin .Add) (.pk 5) (.bi .list (.cons (.sl (.pk 4) (.cst (.int 1)) .nil) .nil))))
    .nil) (.seq (.ite (.not (.and (.op2 (.cmp .In) (.op2 .ix (.pk 4) (.cst (.int 0))) (.tup (.cons (.cst (.str "is")) (.cons (.cst (.str "not")) .nil)))) (.and (.op2 (.cmp .Eq) (.bi .len (.cons (.pk 4) .nil)) (.cst (.int 2))) (.call 19 (.cons (.op2 .ix (.pk 4) (.cst (.int 1))) .nil))))) (.seq (.ret (.cst (.bl false)))
    .nil) .nil)
    .nil))
    .nil)))
    (.seq (.asg 1 (.nm 5))
    .nil)))))
    (.seq (.ret (.cst (.bl true)))
    .nil)))
/-- _law_inner -/
def m_law_inner : MS := (.seq (.ret (.ite (.op2 (.cmp .In) (.op2 .ix (.pk 0) (.cst (.int 0))) (.tup (.cons (.cst (.str "both")) (.cons (.cst (.str "either")) .nil)))) (.bi .list (.cons (.sl (.pk 0) (.cst (.int 1)) .nil) .nil)) (.lst .nil)))
    .nil)
/-- _law_parts -/
def m_law_parts : MS := (.seq (.asg 1 (.lst (.cons (.nm 0) .nil)))
    (.seq (.forr (.tnm 2) (.seq (.call 21 (.cons (.nm 0) .nil))) (.seq (.asg 1 (.op2 (.bin .Add) (.pk 1) (.call 22 (.cons (.nm 2) .nil))))
    .nil))
    (.seq (.mvr 1)
    .nil)))
/-- _law_turned -/
def m_law_turned : MS := (.seq (.asg 1 (.op2 .ix (.bi .dict (.cons (.lst (.cons (.tup (.cons (.cst (.str "is")) (.cons (.cst (.str "not")) .nil))) (.cons (.tup (.cons (.cst (.str "not")) (.cons (.cst (.str "is")) .nil))) (.cons (.tup (.cons (.cst (.str "both")) (.cons (.cst (.str "either")) .nil))) (.cons (.tup (.cons (.cst (.str "either")) (.cons (.cst (.str "both")) .nil))) .nil))))) .nil)) (.op2 .ix (.pk 0) (.cst (.int 0)))))
    (.seq (.asg 2 (.lc [3] (.seq (.call 21 (.cons (.nm 0) .nil))) (.tnm 3) (.cst (.bl true)) (.call 23 (.cons (.nm 3) .nil))))
    (.seq (.ret (.ite (.op2 (.cmp .NotEq) (.pk 2) (.lst .nil)) (.op2 (.bin .Add) (.tup (.cons (.nm 1) .nil)) (.bi .tuple (.cons (.pk 2) .nil))) (.tup (.cons (.nm 1) (.cons (.op2 .ix (.pk 0) (.cst (.int 1))) .nil)))))
    .nil)))
/-- _law_formula -/
def m_law_formula : MS := (.seq (.ite (.or (.op2 (.cmp .Eq) (.pk 1) (.cst (.int 0))) (.op2 (.cmp .Eq) (.call 14 (.cons (.pk 0) (.cons (.cst (.int 4)) .nil))) (.cst (.int 0)))) (.seq (.ret (.tup (.cons (.call 17 (.cons (.pk 0) (.cons (.lst (.cons (.cst (.str "is")) (.cons (.cst (.str "not")) .nil))) .nil))) (.cons (.call 17 (.cons (.pk 0) (.cons (.lst (.cons (.cst (.str "p")) (.cons (.cst (.str "q")) (.cons (.cst (.str "r2")) .nil)))) .nil))) .nil))))
    .nil) .nil)
    (.seq (.asg 2 (.call 17 (.cons (.pk 0) (.cons (.lst (.cons (.cst (.str "both")) (.cons (.cst (.str "either")) .nil))) .nil))))
    (.seq (.ret (.tup (.cons (.nm 2) (.cons (.call 24 (.cons (.pk 0) (.cons (.op2 (.bin .Sub) (.pk 1) (.cst (.int 1))) .nil))) (.cons (.call 24 (.cons (.pk 0) (.cons (.op2 (.bin .Sub) (.pk 1) (.cst (.int 1))) .nil))) .nil)))))
    .nil)))
/-- _law_bent -/
def m_law_bent : MS := (.seq (.asg 2 (.lst (.cons (.cst .non) (.cons (.cst (.int 0)) (.cons (.cst (.bl true)) (.cons (.cst (.str "p")) (.cons (.tup .nil) (.cons (.lst .nil) (.cons (.tup (.cons (.cst (.str "is")) .nil)) (.cons (.tup (.cons (.cst (.str "is")) (.cons (.cst (.str "both")) .nil))) (.cons (.tup (.cons (.cst (.str "is")) (.cons (.cst (.str "")) .nil))) (.cons (.tup (.cons (.cst (.str "is")) (.cons (.cst (.str "P")) .nil))) (.cons (.tup (.cons (.cst (.str "not")) (.cons (.tup (.cons (.cst (.str "is")) (.cons (.cst (.str "p")) .nil))) .nil))) (.cons (.tup (.cons (.cst (.str "both")) (.cons (.tup (.cons (.cst (.str "is")) (.cons (.cst (.str "p")) .nil))) .nil))) (.cons (.tup (.cons (.cst (.str "or")) (.cons (.tup (.cons (.cst (.str "is")) (.cons (.cst (.str "p")) .nil))) (.cons (.tup (.cons (.cst (.str "is")) (.cons (.cst (.str "p")) .nil))) .nil)))) .nil)))))))))))))))
    (.seq (.asg 2 (.op2 (.bin .Add) (.pk 2) (.lst (.cons (.tup (.cons (.cst (.str "either")) (.cons (.tup (.cons (.cst (.str "is")) (.cons (.cst (.str "p")) .nil))) (.cons (.tup (.cons (.cst (.str "is")) (.cons (.cst (.str "q")) .nil))) (.cons (.tup (.cons (.cst (.str "is")) (.cons (.cst (.str "q")) .nil))) .nil))))) (.cons (.lst (.cons (.cst (.str "is")) (.cons (.cst (.str "p")) .nil))) (.cons (.tup (.cons (.cst (.str "is")) (.cons (.cst (.str "abcdefghi")) .nil))) (.cons (.tup (.cons (.cst (.str "is")) (.cons (.cst (.str "a b")) .nil))) (.cons (.tup (.cons (.cst (.str "is")) (.cons (.cst (.int 3)) .nil))) (.cons (.tup (.cons (.cst (.int 3)) (.cons (.cst (.str "p")) .nil))) .nil)))))))))
    (.seq (.ret (.op2 (.bin .Add) (.lst (.cons (.nm 1) .nil)) (.lc [3] (.seq (.nm 2)) (.tnm 3) (.cst (.bl true)) (.call 26 (.cons (.pk 0) (.cons (.nm 1) (.cons (.nm 3) .nil)))))))
    .nil)))
/-- _law_bent_at -/
def m_law_bent_at : MS := (.seq (.ite (.or (.op2 (.cmp .In) (.op2 .ix (.pk 1) (.cst (.int 0))) (.tup (.cons (.cst (.str "is")) (.cons (.cst (.str "not")) .nil)))) (.op2 (.cmp .Eq) (.call 14 (.cons (.pk 0) (.cons (.cst (.int 3)) .nil))) (.cst (.int 0)))) (.seq (.mvr 2)
    .nil) .nil)
    (.seq (.asg 3 (.op2 (.bin .Add) (.cst (.int 1)) (.call 14 (.cons (.pk 0) (.cons (.cst (.int 2)) .nil)))))
    (.seq (.ret (.op2 (.bin .Add) (.op2 (.bin .Add) (.sl (.pk 1) .nil (.nm 3)) (.tup (.cons (.call 26 (.cons (.pk 0) (.cons (.op2 .ix (.pk 1) (.pk 3)) (.cons (.nm 2) .nil)))) .nil))) (.sl (.pk 1) (.op2 (.bin .Add) (.pk 3) (.cst (.int 1))) .nil)))
    .nil)))
/-- _law_right -/
def m_law_right : MS := (.seq (.par [6, 7] (.cons (.bi .repr (.cons (.pk 0) .nil)) (.cons (.call 22 (.cons (.nm 0) .nil)) .nil)))
    (.seq (.asg 1 (.lc [8] (.seq (.nm 7)) (.tnm 8) (.op2 (.cmp .In) (.op2 .ix (.pk 8) (.cst (.int 0))) (.tup (.cons (.cst (.str "is")) (.cons (.cst (.str "not")) .nil)))) (.nm 8)))
    (.seq (.asg 2 (.tup (.cons (.bi .len (.cons (.lc [8] (.seq (.nm 7)) (.tnm 8) (.op2 (.cmp .Eq) (.op2 .ix (.pk 8) (.cst (.int 0))) (.cst (.str "both"))) (.nm 8)) .nil)) (.cons (.bi .len (.cons (.lc [8] (.seq (.nm 7)) (.tnm 8) (.op2 (.cmp .Eq) (.op2 .ix (.pk 8) (.cst (.int 0))) (.cst (.str "either"))) (.nm 8)) .nil)) .nil))))
    (.seq (.asg 3 (.lst (.cons (.call 7 (.cons (.nm 0) .nil)) (.cons (.call 9 (.cons (.nm 0) .nil)) (.cons (.heap (.call 11 (.cons (.nm 0) .nil))) (.cons (.call 12 (.cons (.nm 0) .nil)) .nil))))))
    (.seq (.asg 4 (.lst (.cons (.callk 7 [0] .nil (.cons (.nm 0) .nil)) (.cons (.callk 9 [0] .nil (.cons (.nm 0) .nil)) (.cons (.callk 11 [0] .nil (.cons (.nm 0) .nil)) (.cons (.callk 12 [0] .nil (.cons (.nm 0) .nil)) .nil))))))
    (.seq (.asg 5 (.lst (.cons (.call 23 (.cons (.nm 0) .nil)) (.cons (.bi .len (.cons (.pk 7) .nil)) (.cons (.nm 1) (.cons (.nm 2) .nil))))))
    (.seq (.ite (.or (.not (.call 18 (.cons (.lst (.cons (.nm 3) (.cons (.nm 4) .nil))) (.cons (.lst (.cons (.nm 5) (.cons (.nm 5) .nil))) .nil)))) (.not (.call 18 (.cons (.call 7 (.cons (.op2 .ix (.pk 3) (.cst (.int 0))) .nil)) (.cons (.nm 0) .nil))))) (.seq (.ret (.cst (.bl false)))
    .nil) .nil)
    (.seq (.expr (.hmut .append (.op2 .ix (.pk 3) (.cst (.int 2))) (.cons (.cst (.str "more")) .nil)))
    (.seq (.ret (.and (.call 18 (.cons (.lst (.cons (.call 11 (.cons (.nm 0) .nil)) (.cons (.call 12 (.cons (.op2 .ix (.pk 3) (.cst (.int 0))) .nil)) .nil))) (.cons (.lst (.cons (.nm 1) (.cons (.tup (.cons (.op2 .ix (.pk 2) (.cst (.int 1))) (.cons (.op2 .ix (.pk 2) (.cst (.int 0))) .nil))) .nil))) .nil))) (.op2 (.cmp .Eq) (.bi .repr (.cons (.pk 0) .nil)) (.pk 6))))
    .nil)))))))))
/-- _law_words_right -/
def m_law_words_right : MS := (.seq (.asg 1 (.lst (.cons (.cst (.str "both")) (.cons (.cst (.str "either")) (.cons (.cst (.str "not")) (.cons (.cst (.str "close")) (.cons (.cst (.str "cut")) (.cons (.cst (.str "order")) (.cons (.cst (.str "end")) (.cons (.cst (.str "pair")) .nil))))))))))
    (.seq (.asg 2 (.op2 (.bin .Add) (.op2 (.bin .Add) (.op2 (.bin .Add) (.pk 1) (.lc [6] (.seq (.nm 1)) (.tnm 6) (.cst (.bl true)) (.op2 (.bin .Add) (.pk 6) (.cst (.str "s"))))) (.lc [6] (.seq (.nm 1)) (.tnm 6) (.cst (.bl true)) (.sl (.pk 6) (.cst (.int 1)) .nil))) (.lst (.cons (.cst (.str "a")) (.cons (.cst (.str "z")) (.cons (.cst (.str "p0")) (.cons (.cst (.str "abcdefgh")) (.cons (.cst (.str "a1234567")) (.cons (.cst (.str "abcdefghi")) (.cons (.cst (.str "a12345678")) (.cons (.cst (.str "")) (.cons (.cst (.str "A")) (.cons (.cst (.str "Both")) (.cons (.cst (.str "aB")) (.cons (.cst (.str "1a")) (.cons (.cst (.str "9")) (.cons (.cst (.str "_a")) .nil)))))))))))))))))
    (.seq (.asg 2 (.op2 (.bin .Add) (.pk 2) (.lst (.cons (.cst (.str "a_")) (.cons (.cst (.str "a b")) (.cons (.cst (.str " a")) (.cons (.cst (.str "a ")) (.cons (.cst (.str "a\n")) (.cons (.cst (.str "a-1")) (.cons (.cst (.str "a.")) (.cons (.cst .non) (.cons (.cst (.int 0)) (.cons (.cst (.int 1)) (.cons (.cst (.bl true)) (.cons (.cst (.bl false)) (.cons (.tup .nil) (.cons (.lst .nil) (.cons .edict (.cons (.tup (.cons (.cst (.str "a")) .nil)) (.cons (.lst (.cons (.cst (.str "a")) .nil)) (.cons (.tup (.cons (.cst (.str "is")) (.cons (.cst (.str "a")) .nil))) (.cons (.lst (.cons (.lst (.cons (.cst (.str "a")) .nil)) .nil)) (.cons (.op2 (.bin .Pow) (.cst (.int 10)) (.cst (.int 17))) .nil)))))))))))))))))))))))
    (.seq (.forr (.tnm 3) (.rng (.cons (.cst (.int 12)) .nil)) (.seq (.expr (.mut .append 2 (.cons (.me .join (.cst (.str "")) (.cons (.lc [7] (.rng (.cons (.call 14 (.cons (.pk 0) (.cons (.cst (.int 11)) .nil))) .nil)) (.tnm 7) (.cst (.bl true)) (.call 17 (.cons (.pk 0) (.cons (.lst (.cons (.cst (.str "a")) (.cons (.cst (.str "q")) (.cons (.cst (.str "z")) (.cons (.cst (.str "0")) (.cons (.cst (.str "9")) (.cons (.cst (.str "b")) (.cons (.cst (.str "P")) (.cons (.cst (.str " ")) .nil))))))))) .nil)))) .nil)) .nil)))
    .nil))
    (.seq (.forr (.tnm 4) (.seq (.nm 2)) (.seq (.asg 5 (.bi .repr (.cons (.pk 4) .nil)))
    (.seq (.ite (.or (.not (.call 18 (.cons (.lst (.cons (.call 0 (.cons (.nm 4) .nil)) (.cons (.callk 0 [0] .nil (.cons (.nm 4) .nil)) .nil))) (.cons (.op2 (.bin .Mult) (.lst (.cons (.call 19 (.cons (.nm 4) .nil)) .nil)) (.cst (.int 2))) .nil)))) (.op2 (.cmp .NotEq) (.bi .repr (.cons (.pk 4) .nil)) (.pk 5))) (.seq (.ret (.cst (.bl false)))
    .nil) .nil)
    .nil)))
    (.seq (.ret (.cst (.bl true)))
    .nil))))))
/-- _law_deep -/
def m_law_deep : MS := (.seq (.asg 1 (.tup (.cons (.cst (.str "is")) (.cons (.cst (.str "p")) .nil))))
    (.seq (.forr (.tnm 2) (.rng (.cons (.op2 (.bin .Sub) (.pk 0) (.cst (.int 1))) .nil)) (.seq (.asg 1 (.ite (.op2 (.cmp .Eq) (.op2 (.bin .Mod) (.bi .int (.cons (.pk 2) .nil)) (.cst (.int 2))) (.cst (.int 0))) (.tup (.cons (.cst (.str "both")) (.cons (.nm 1) (.cons (.tup (.cons (.cst (.str "not")) (.cons (.cst (.str "q")) .nil))) .nil)))) (.tup (.cons (.cst (.str "either")) (.cons (.tup (.cons (.cst (.str "is")) (.cons (.cst (.str "r2")) .nil))) (.cons (.nm 1) .nil))))))
    .nil))
    (.seq (.mvr 1)
    .nil)))
/-- _law_wide -/
def m_law_wide : MS := (.seq (.asg 1 (.lc [3] (.rng (.cons (.nm 0) .nil)) (.tnm 3) (.cst (.bl true)) (.tup (.cons (.cst (.str "is")) (.cons (.cst (.str "p")) .nil)))))
    (.seq (.whl 4096 (.op2 (.cmp .Gt) (.bi .len (.cons (.pk 1) .nil)) (.cst (.int 1))) (.seq (.asg 2 (.lc [4] (.rng (.cons (.cst (.int 0)) (.cons (.op2 (.bin .Sub) (.bi .len (.cons (.pk 1) .nil)) (.cst (.int 1))) (.cons (.cst (.int 2)) .nil)))) (.tnm 4) (.cst (.bl true)) (.tup (.cons (.cst (.str "both")) (.cons (.op2 .ix (.pk 1) (.pk 4)) (.cons (.op2 .ix (.pk 1) (.op2 (.bin .Add) (.pk 4) (.cst (.int 1)))) .nil))))))
    (.seq (.asg 1 (.op2 (.bin .Add) (.pk 2) (.sl (.pk 1) (.op2 (.bin .Mult) (.cst (.int 2)) (.bi .len (.cons (.pk 2) .nil))) .nil)))
    .nil)))
    (.seq (.ret (.op2 .ix (.pk 1) (.cst (.int 0))))
    .nil)))
/-- law -/
def m_law : MS := (.seq (.forr (.tnm 1) (.rng (.cons (.cst (.int 3)) .nil)) (.seq (.asg 4 (.call 16 (.cons (.nm 0) (.cons (.nm 1) .nil))))
    (.seq (.ite (.not (.call 28 (.cons (.pk 4) .nil))) (.seq (.ret (.cst (.bl false)))
    .nil) .nil)
    (.seq (.forr (.tnm 5) (.rng (.cons (.cst (.int 4)) .nil)) (.seq (.asg 2 (.call 24 (.cons (.pk 4) (.cons (.cst (.int 4)) .nil))))
    (.seq (.ite (.not (.call 27 (.cons (.nm 2) .nil))) (.seq (.ret (.cst (.bl false)))
    .nil) .nil)
    (.seq (.forr (.tnm 8) (.seq (.call 25 (.cons (.pk 4) (.cons (.nm 2) .nil)))) (.seq (.ite (.not (.call 18 (.cons (.lst (.cons (.call 4 (.cons (.nm 8) .nil)) (.cons (.callk 4 [0] .nil (.cons (.nm 8) .nil)) .nil))) (.cons (.op2 (.bin .Mult) (.lst (.cons (.call 20 (.cons (.nm 8) .nil)) .nil)) (.cst (.int 2))) .nil)))) (.seq (.ret (.cst (.bl false)))
    .nil) .nil)
    .nil))
    .nil))))
    .nil))))
    (.seq (.forr (.tnm 2) (.seq (.lst (.cons (.call 29 (.cons (.cst (.int 20)) .nil)) (.cons (.call 29 (.cons (.cst (.int 21)) .nil)) (.cons (.call 30 (.cons (.cst (.int 30)) .nil)) (.cons (.call 30 (.cons (.cst (.int 31)) .nil)) (.cons (.call 29 (.cons (.cst (.int 2)) .nil)) .nil))))))) (.seq (.ite (.or (.not (.call 18 (.cons (.call 4 (.cons (.nm 2) .nil)) (.cons (.call 20 (.cons (.nm 2) .nil)) .nil)))) (.and (.call 20 (.cons (.nm 2) .nil)) (.not (.call 27 (.cons (.nm 2) .nil))))) (.seq (.ret (.cst (.bl false)))
    .nil) .nil)
    .nil))
    (.seq (.tgt (.ttup (.cons (.tnm 6) (.cons (.tnm 7) .nil))) (.tup (.cons (.tup (.cons (.cst (.str "is")) (.cons (.cst (.str "p")) .nil))) (.cons (.tup (.cons (.cst (.str "is")) (.cons (.cst (.str "q")) .nil))) .nil))))
    (.seq (.asg 3 (.lst (.cons (.call 7 (.cons (.tup (.cons (.cst (.str "both")) (.cons (.nm 6) (.cons (.tup (.cons (.cst (.str "either")) (.cons (.nm 7) (.cons (.tup (.cons (.cst (.str "not")) (.cons (.cst (.str "p")) .nil))) .nil)))) .nil)))) .nil)) (.cons (.call 9 (.cons (.call 30 (.cons (.cst (.int 30)) .nil)) .nil)) (.cons (.call 12 (.cons (.tup (.cons (.cst (.str "either")) (.cons (.nm 6) (.cons (.tup (.cons (.cst (.str "both")) (.cons (.nm 7) (.cons (.nm 7) .nil)))) .nil)))) .nil)) (.cons (.lc [9] (.seq (.tup (.cons (.cst (.int 20)) (.cons (.cst (.int 21)) .nil)))) (.tnm 9) (.cst (.bl true)) (.call 4 (.cons (.call 29 (.cons (.nm 9) .nil)) .nil))) .nil))))))
    (.seq (.ret (.call 18 (.cons (.nm 3) (.cons (.lst (.cons (.tup (.cons (.cst (.str "either")) (.cons (.tup (.cons (.cst (.str "not")) (.cons (.cst (.str "p")) .nil))) (.cons (.tup (.cons (.cst (.str "both")) (.cons (.tup (.cons (.cst (.str "not")) (.cons (.cst (.str "q")) .nil))) (.cons (.nm 6) .nil)))) .nil)))) (.cons (.cst (.int 59)) (.cons (.tup (.cons (.cst (.int 1)) (.cons (.cst (.int 1)) .nil))) (.cons (.lst (.cons (.cst (.bl true)) (.cons (.cst (.bl false)) .nil))) .nil))))) .nil))))
    .nil)))))
def d_is_word : FD := ⟨"is_word", "is_word", ["value"], ["value", "sign"], defArgs (top 8), defBody (top 8), defScope (top 8), m_is_word⟩
def d_inner_of : FD := ⟨"inner_of", "inner_of", ["formula"], ["formula"], defArgs (top 13), defBody (top 13), defScope (top 13), m_inner_of⟩
def d_is_formed : FD := ⟨"is_formed", "is_formed", ["value"], ["value"], defArgs (top 14), defBody (top 14), defScope (top 14), m_is_formed⟩
def d_is_formula_in : FD := ⟨"is_formula_in", "is_formula_in", ["value"], ["value", "waiting", "many", "here", "deep", "one"], defArgs (top 15), defBody (top 15), defScope (top 15), m_is_formula_in⟩
def d_is_formula : FD := ⟨"is_formula", "is_formula", ["value"], ["value"], defArgs (top 16), defBody (top 16), defScope (top 16), m_is_formula⟩
def d_check_formula : FD := ⟨"check_formula", "check_formula", ["formula"], ["formula"], defArgs (top 17), defBody (top 17), defScope (top 17), m_check_formula⟩
def d_turned_in : FD := ⟨"turned_in", "turned_in", ["formula"], ["formula", "one"], defArgs (top 18), defBody (top 18), defScope (top 18), m_turned_in⟩
def d_turned : FD := ⟨"turned", "turned", ["formula"], ["formula"], defArgs (top 19), defBody (top 19), defScope (top 19), m_turned⟩
def d_parts_in : FD := ⟨"parts_in", "parts_in", ["formula"], ["formula", "told", "one"], defArgs (top 20), defBody (top 20), defScope (top 20), m_parts_in⟩
def d_size_of : FD := ⟨"size_of", "size_of", ["formula"], ["formula"], defArgs (top 21), defBody (top 21), defScope (top 21), m_size_of⟩
def d_letters_in : FD := ⟨"letters_in", "letters_in", ["formula"], ["formula", "part"], defArgs (top 22), defBody (top 22), defScope (top 22), m_letters_in⟩
def d_letters_of : FD := ⟨"letters_of", "letters_of", ["formula"], ["formula"], defArgs (top 23), defBody (top 23), defScope (top 23), m_letters_of⟩
def d_links_of : FD := ⟨"links_of", "links_of", ["formula"], ["formula", "words", "part"], defArgs (top 24), defBody (top 24), defScope (top 24), m_links_of⟩
def d_law_hash : FD := ⟨"_law_hash", "_law_hash", ["seed", "index"], ["seed", "index", "mixed"], defArgs (top 26), defBody (top 26), defScope (top 26), m_law_hash⟩
def d_law_random : FD := ⟨"_law_random", "_law_random", ["generator", "bound"], ["generator", "bound", "drawn", "turn"], defArgs (top 27), defBody (top 27), defScope (top 27), m_law_random⟩
def d_law_cell : FD := ⟨"_law_cell", "_law_cell", ["script", "index"], ["script", "index"], defArgs (top 28), defBody (top 28), defScope (top 28), m_law_cell⟩
def d_law_generator : FD := ⟨"_law_generator", "_law_generator", ["script", "index"], ["script", "index", "seed"], defArgs (top 29), defBody (top 29), defScope (top 29), m_law_generator⟩
def d_law_pick : FD := ⟨"_law_pick", "_law_pick", ["generator", "things"], ["generator", "things"], defArgs (top 30), defBody (top 30), defScope (top 30), m_law_pick⟩
def d_law_same : FD := ⟨"_law_same", "_law_same", ["told", "due"], ["told", "due", "at"], defArgs (top 31), defBody (top 31), defScope (top 31), m_law_same⟩
def d_law_is_word : FD := ⟨"_law_is_word", "_law_is_word", ["value"], ["value", "sign"], defArgs (top 32), defBody (top 32), defScope (top 32), m_law_is_word⟩
def d_law_is_formula : FD := ⟨"_law_is_formula", "_law_is_formula", ["value"], ["value", "level", "deep", "many", "one", "inner"], defArgs (top 33), defBody (top 33), defScope (top 33), m_law_is_formula⟩
def d_law_inner : FD := ⟨"_law_inner", "_law_inner", ["formula"], ["formula"], defArgs (top 34), defBody (top 34), defScope (top 34), m_law_inner⟩
def d_law_parts : FD := ⟨"_law_parts", "_law_parts", ["formula"], ["formula", "found", "one"], defArgs (top 35), defBody (top 35), defScope (top 35), m_law_parts⟩
def d_law_turned : FD := ⟨"_law_turned", "_law_turned", ["formula"], ["formula", "word", "inner", "one"], defArgs (top 36), defBody (top 36), defScope (top 36), m_law_turned⟩
def d_law_formula : FD := ⟨"_law_formula", "_law_formula", ["generator", "deep"], ["generator", "deep", "word"], defArgs (top 37), defBody (top 37), defScope (top 37), m_law_formula⟩
def d_law_bent : FD := ⟨"_law_bent", "_law_bent", ["generator", "formula"], ["generator", "formula", "odd", "one"], defArgs (top 38), defBody (top 38), defScope (top 38), m_law_bent⟩
def d_law_bent_at : FD := ⟨"_law_bent_at", "_law_bent_at", ["generator", "formula", "odd"], ["generator", "formula", "odd", "side"], defArgs (top 39), defBody (top 39), defScope (top 39), m_law_bent_at⟩
def d_law_right : FD := ⟨"_law_right", "_law_right", ["formula"], ["formula", "letters", "links", "told", "named", "due", "kept", "parts", "one"], defArgs (top 40), defBody (top 40), defScope (top 40), m_law_right⟩
def d_law_words_right : FD := ⟨"_law_words_right", "_law_words_right", ["generator"], ["generator", "closed", "values", "turn", "value", "kept", "word", "sign"], defArgs (top 41), defBody (top 41), defScope (top 41), m_law_words_right⟩
def d_law_deep : FD := ⟨"_law_deep", "_law_deep", ["many"], ["many", "formula", "turn"], defArgs (top 42), defBody (top 42), defScope (top 42), m_law_deep⟩
def d_law_wide : FD := ⟨"_law_wide", "_law_wide", ["many"], ["many", "level", "late", "turn", "at"], defArgs (top 43), defBody (top 43), defScope (top 43), m_law_wide⟩
def d_law : FD := ⟨"law", "law", ["script"], ["script", "index", "formula", "told", "generator", "turn", "p", "q", "value", "many"], defArgs (top 44), defBody (top 44), defScope (top 44), m_law⟩
def T : List FD := [d_is_word, d_inner_of, d_is_formed, d_is_formula_in, d_is_formula, d_check_formula, d_turned_in, d_turned, d_parts_in, d_size_of, d_letters_in, d_letters_of, d_links_of, d_law_hash, d_law_random, d_law_cell, d_law_generator, d_law_pick, d_law_same, d_law_is_word, d_law_is_formula, d_law_inner, d_law_parts, d_law_turned, d_law_formula, d_law_bent, d_law_bent_at, d_law_right, d_law_words_right, d_law_deep, d_law_wide, d_law]
def G : Gl0 := ⟨["bool", "dict", "int", "isinstance", "len", "list", "max", "range", "repr", "str", "sum", "tuple"],
  [("CLOSED", (.tup [(.str "both"), (.str "either"), (.str "not"), (.str "close"), (.str "cut"), (.str "order"), (.str "end"), (.str "pair")])), ("LETTERS", (.str "abcdefghijklmnopqrstuvwxyz")), ("FIGURES", (.str "0123456789")), ("MOST_SIGNS", (.int 8)), ("MOST_WITHIN", (.int 20)), ("MOST_FORMULAS", (.int 60))],
  [("SIDES", [(.str "is"), (.str "not"), (.str "both"), (.str "either")], [(.str "not"), (.str "is"), (.str "either"), (.str "both")])]⟩
def i_is_word : Nat := 0
def i_inner_of : Nat := 1
def i_is_formed : Nat := 2
def i_is_formula_in : Nat := 3
def i_is_formula : Nat := 4
def i_check_formula : Nat := 5
def i_turned_in : Nat := 6
def i_turned : Nat := 7
def i_parts_in : Nat := 8
def i_size_of : Nat := 9
def i_letters_in : Nat := 10
def i_letters_of : Nat := 11
def i_links_of : Nat := 12
def i_law_hash : Nat := 13
def i_law_random : Nat := 14
def i_law_cell : Nat := 15
def i_law_generator : Nat := 16
def i_law_pick : Nat := 17
def i_law_same : Nat := 18
def i_law_is_word : Nat := 19
def i_law_is_formula : Nat := 20
def i_law_inner : Nat := 21
def i_law_parts : Nat := 22
def i_law_turned : Nat := 23
def i_law_formula : Nat := 24
def i_law_bent : Nat := 25
def i_law_bent_at : Nat := 26
def i_law_right : Nat := 27
def i_law_words_right : Nat := 28
def i_law_deep : Nat := 29
def i_law_wide : Nat := 30
def i_law : Nat := 31
def lawI : Nat := 44
end K02
set_option Elab.async false
set_option linter.all false
set_option maxRecDepth 100000
set_option maxHeartbeats 0
/-! # The head -/
namespace K02
open PySem PySem.Spec PyProof.Rows L2 NV
def fa : List He.Fa := (T.map fun D => He.Fa.glo D.name) ++ ((G.free.map He.Fa.free) ++ [.glo "CLOSED", .str "LETTERS" "abcdefghijklmnopqrstuvwxyz", .str "FIGURES" "0123456789", .int "MOST_SIGNS" 8, .int "MOST_WITHIN" 20, .int "MOST_FORMULAS" 60, .glo "SIDES"])
def fn : List He.DefD := T.map fun D => ⟨(D.name, none), D.name, D.qual, D.params, D.body, D.scope, [], []⟩
def ts : List He.Tab := [(fun K => He.ga K "SIDES", ["is", "not", "both", "either"])]
def exB (K : PySem.W.Frag) : Bool := He.tupB K "CLOSED" [.str "both", .str "either", .str "not", .str "close", .str "cut", .str "order", .str "end", .str "pair"] && He.valsB K (He.ga K "SIDES") [("is", .str "not"), ("not", .str "is"), ("both", .str "either"), ("either", .str "both")]
def loose : List Str := (["NetError", "InvalidFormula", "LETTERS", "FIGURES", "MOST_SIGNS", "CLOSED", "is_word", "MOST_FORMULAS", "MOST_WITHIN", "SIDES", "inner_of", "is_formed"] : List Str) ++ (["is_formula_in", "is_formula", "check_formula", "turned_in", "turned", "parts_in", "size_of", "letters_in", "letters_of", "links_of", "_law_hash", "_law_random"] : List Str) ++ (["_law_cell", "_law_generator", "_law_pick", "_law_same", "_law_is_word", "_law_is_formula", "_law_inner", "_law_parts", "_law_turned", "_law_formula", "_law_bent", "_law_bent_at"] : List Str) ++ (["_law_right", "_law_words_right", "_law_deep", "_law_wide"] : List Str)
abbrev R : PySem.W.OpenRow := PySem.W.OpenLaw.row PySem.Challenge.rw_netsproved_k02_whole_formulas_judged
abbrev hk : PySem.W.Hook := He.hookX 4 fa fn ts [] exB
def ob (s : PySem.W.SharedT) : He.AlX := He.obsX 4 fa fn ts [] exB (HandSHeadRun.getT s)
theorem ob_eq (s : PySem.W.SharedT) : ob s = hk.obs s.abs := He.obsX_eq (HandSHeadRun.getT_eq s)
theorem run_f (w : World) : HandSHeadRun.RunEq R (PySem.W.view R.prog [44]) hk ob 3000 loose (w.withFollow "special-get-raises" false) := by
  intro os
  kernel_rfl
theorem run_t (w : World) : HandSHeadRun.RunEq R (PySem.W.view R.prog [44]) hk ob 3000 loose (w.withFollow "special-get-raises" true) := by
  intro os
  kernel_rfl
theorem run (w : World) : HandSHeadRun.RunEq R (PySem.W.view R.prog [44]) hk ob 3000 loose w := PySem.W.byRow2 "special-get-raises" (P := fun w => HandSHeadRun.RunEq R (PySem.W.view R.prog [44]) hk ob 3000 loose w) run_f run_t w
end K02
set_option Elab.async false
set_option linter.all false
set_option maxRecDepth 100000
set_option maxHeartbeats 1000000
namespace K02
open PySem PySem.Spec PyProof.Rows L2 NV
local macro_rules | `(tactic| walk_at "nv") => `(tactic| first
  | exact E_cst | exact AA_nil | exact RR_nil | exact O_nil | exact S_nil | exact SF_rt | exact E_gc | exact E_edict | exact FL_nil
  | exact A_pk rfl | apply A_v (hm := rfl) | apply AA_cons | apply RR_cons | apply O_some (hm := rfl)
  | apply S_seq | apply SF_nx | apply S_asg | apply S_ite | apply S_ret | exact S_mvv rfl | exact S_mvo rfl | apply S_put | apply S_par | apply S_expr | apply S_tgt | apply S_forr
  | apply E_op2 | apply E_bi | apply E_me | apply E_isi | apply E_not | apply E_ite | apply E_and | apply E_or | apply E_tup | apply E_lst | apply E_sl | apply E_call | apply E_nm | apply E_neg | apply E_mut | apply E_heap | apply I_rng
  | apply SB_t (hb := by first | rfl | assumption) | apply SB_f (hb := by first | rfl | assumption) | apply EB_t (hb := by first | rfl | assumption) | apply EB_f (hb := by first | rfl | assumption)
  | exact p_add | exact p_sub | assumption | exact ⟨rfl⟩ | exact List.Pairwise.nil | exact List.pairwise_singleton .. | rfl | decide)
theorem f_hash (n : Nat) (seed index : Int) (S : Sto) (h1 : 0 ≤ seed ∧ seed < 2147483647) (h2 : 0 ≤ index ∧ index < 2 ^ 30) :
    ∃ r, CC (callT T (n + 1)) i_law_hash [.val (.int seed), .val (.int index)] S (.val (.int r)) [some (.val (.int seed)), some (.val (.int index))] S ∧ 0 ≤ r ∧ r < 2147483647 := by
  have m1 := p_mul (i := seed) (j := 1140671) 31 31 (by omega) (by omega) (by omega)
  have m2 := p_mul (i := 27644437) (j := index) 31 31 (by omega) (by omega) (by omega)
  have m3 := p_mul (i := 27644437 * index) (j := index) 100 31 (by omega) (by omega) (by omega)
  have m4 := p_mul (i := 131) (j := index) 31 31 (by omega) (by omega) (by omega)
  have m5 := p_mul (i := 62089) (j := index) 31 31 (by omega) (by omega) (by omega)
  have m9 := fun x : Int => p_mul (i := x % 2147483629) (j := x % 2147483629) 31 31 (by omega) (by omega) (by omega)
  have m10 := fun x : Int => p_mul (i := x % 2147483587) (j := 48271) 31 31 (by omega) (by omega) (by omega)
  apply Exists.intro
  apply And.intro
  · apply run_rt (hD := rfl) (hl := rfl)
    · show SS _ m_law_hash [some (.val (.int seed)), some (.val (.int index)), none] _ _ _ _
      repeat (first | walk_at "nv" | exact m9 _ | exact m10 _)
    · rfl
  · omega
theorem lt8000 {i : Nat} (h : i < 2 ^ 20) : i < 2 ^ 8000 := Nat.lt_of_lt_of_le h (Nat.pow_le_pow_right (by omega) (by omega))
def gen (a b c : Int) : List W := [.int a, .int b, .int c]
theorem f_random (n : Nat) (a b c bound : Int) (S : Sto) (ha : 0 ≤ a) (hb : 0 ≤ b ∧ b < 2147483647) (hc : 0 ≤ c ∧ c < 2 ^ 29) (hbd : 1 ≤ bound ∧ bound < 2 ^ 20) :
    ∃ r a' c', CC (callT T (n + 2)) i_law_random [.own (true, gen a b c), .val (.int bound)] S (.val (.int r)) [some (.own (true, gen a' b c')), some (.val (.int bound))] S ∧ (0 ≤ r ∧ r < bound) ∧ 0 ≤ a' ∧ c ≤ c' ∧ c' ≤ c + 1 := by
  by_cases h : 0 < a
  · have d1 : decide (0 < a) = true := decide_eq_true h
    have m1 := p_mod (i := a) (j := bound) (by omega)
    have m2 := p_div (i := a) (j := bound) (by omega) (lt8000 (by omega))
    refine ⟨a % bound, a / bound, c, ?_, ⟨Int.emod_nonneg _ (by omega), Int.emod_lt_of_pos _ (by omega)⟩, Int.ediv_nonneg ha (by omega), by omega, by omega⟩
    apply run_rt (hD := rfl) (hl := rfl)
    · show SS _ m_law_random [some (.own (true, gen a b c)), some (.val (.int bound)), none, none] _ _ _ _
      repeat (walk_at "nv")
    · rfl
  · have d1 : decide (0 < a) = false := decide_eq_false h
    obtain ⟨r, hr, hr2⟩ := f_hash n b (c + 1) S hb (by omega)
    have hbits : Builtin.Int.intBits bound ≤ 20 := by
      unfold Builtin.Int.intBits
      split
      · omega
      · have : bound.natAbs.log2 < 20 := (Nat.log2_lt (by omega)).mpr (by omega)
        omega
    have m1 : PO (.bin .FloorDiv) (.int (Builtin.Int.intBits bound)) (.int 30) (.val (.int 0)) := by
      have q := p_div (i := (Builtin.Int.intBits bound : Int)) (j := 30) (by omega) (lt8000 (by omega))
      have : ((Builtin.Int.intBits bound : Nat) : Int) / 30 = 0 := by omega
      rw [this] at q
      exact q
    have m2 := p_mod (i := 0 * 2147483587 + r) (j := bound) (by omega)
    have m3 := p_mul (i := 0) (j := 2147483587) 31 33 (by omega) (by omega) (by omega)
    refine ⟨(0 * 2147483587 + r) % bound, a, c + 1, ?_, ⟨Int.emod_nonneg _ (by omega), Int.emod_lt_of_pos _ (by omega)⟩, ha, by omega, by omega⟩
    apply run_rt (hD := rfl) (hl := rfl)
    · show SS _ m_law_random [some (.own (true, gen a b c)), some (.val (.int bound)), none, none] _ _ _ _
      repeat (walk_at "nv")
      apply FL_cons
      repeat (walk_at "nv")
    · rfl
end K02
set_option Elab.async false
set_option linter.all false
set_option maxRecDepth 100000
set_option maxHeartbeats 1000000
set_option exponentiation.threshold 10000
namespace K02
open PySem PySem.Spec PyProof.Rows L2 NV
local macro_rules | `(tactic| walk_at "nv") => `(tactic| first
  | exact E_cst | exact AA_nil | exact RR_nil | exact O_nil | exact S_nil | exact SF_rt | exact E_gc | exact E_edict | exact FL_nil
  | exact A_pk rfl | apply A_v (hm := rfl) | apply AA_cons | apply RR_cons | apply O_some (hm := rfl)
  | apply S_seq | apply SF_nx | apply S_asg | apply S_ite | apply S_ret | exact S_mvv rfl | exact S_mvo rfl | apply S_put | apply S_par | apply S_expr | apply S_tgt | apply S_forr
  | apply E_op2 | apply E_bi | apply E_me | apply E_isi | apply E_not | apply E_ite | apply E_and | apply E_or | apply E_tup | apply E_lst | apply E_sl | apply E_call | apply E_nm | apply E_neg | apply E_mut | apply E_heap | apply I_rng
  | apply SB_t (hb := by first | rfl | assumption) | apply SB_f (hb := by first | rfl | assumption) | apply EB_t (hb := by first | rfl | assumption) | apply EB_f (hb := by first | rfl | assumption)
  | exact p_add | exact p_sub | assumption | exact ⟨rfl⟩ | exact List.Pairwise.nil | exact List.pairwise_singleton .. | rfl | decide)
/-- the generator's state is sound, at most k draws from its start -/
structure GenOk (g : List W) (k : Int) : Prop where
  h : ∃ a b c : Int, g = gen a b c ∧ 0 ≤ a ∧ (0 ≤ b ∧ b < 2147483647) ∧ 0 ≤ c ∧ c ≤ k
theorem GenOk.mono {g : List W} {k j : Int} (h : GenOk g k) (l : k ≤ j) : GenOk g j := by
  obtain ⟨a, b, c, e, h1, h2, h3, h4⟩ := h.h
  exact ⟨a, b, c, e, h1, h2, h3, by omega⟩
theorem g_random (n : Nat) {g : List W} {k : Int} (hg : GenOk g k) (hk : k < 2 ^ 29) (bound : Int) (S : Sto) (hbd : 1 ≤ bound ∧ bound < 2 ^ 20) :
    ∃ r g', CC (callT T (n + 2)) i_law_random [.own (true, g), .val (.int bound)] S (.val (.int r)) [some (.own (true, g')), some (.val (.int bound))] S ∧ (0 ≤ r ∧ r < bound) ∧ GenOk g' (k + 1) := by
  obtain ⟨a, b, c, rfl, h1, h2, h3, h4⟩ := hg.h
  obtain ⟨r, a', c', q1, q2, q3, q4, q5⟩ := f_random n a b c bound S h1 h2 ⟨h3, by omega⟩ hbd
  exact ⟨r, _, q1, q2, ⟨a', b, c', rfl, q3, h2, by omega, by omega⟩⟩
theorem p_ixl {ws : List W} {r : Int} {w : W} (h : atI ws r = some w) : PO .ix (.lst ws) (.int r) (.val w) := ⟨by simp only [pOp2, pIx, h]; rfl⟩
theorem p_ixt {ws : List W} {r : Int} {w : W} (h : atI ws r = some w) : PO .ix (.tup ws) (.int r) (.val w) := ⟨by simp only [pOp2, pIx, h]; rfl⟩
theorem p_ixf {ws : List W} {r : Int} {w : W} (h : atI ws r = some w) : PO .ix (.flst ws) (.int r) (.val w) := ⟨by simp only [pOp2, pIx, h]; rfl⟩
theorem g_pick (n : Nat) {g : List W} {k : Int} (hg : GenOk g k) (hk : k < 2 ^ 29) (ws : List W) (S : Sto) (hw : 1 ≤ ws.length ∧ ws.length < 2 ^ 20) :
    ∃ w g', CC (callT T (n + 3)) i_law_pick [.own (true, g), .val (.lst ws)] S (.val w) [some (.own (true, g')), some (.val (.lst ws))] S ∧ w ∈ ws ∧ GenOk g' (k + 1) := by
  obtain ⟨r, g', q1, q2, q3⟩ := g_random n hg hk (ws.length : Int) S (by omega)
  have hr : r.toNat < ws.length := by omega
  have ha : atI ws r = some ws[r.toNat] := atI_at (by omega) hr
  have m1 := p_ixl ha
  refine ⟨ws[r.toNat], g', ?_, List.getElem_mem _, q3⟩
  apply run_rt (hD := rfl) (hl := rfl)
  · show SS _ m_law_pick [some (.own (true, g)), some (.val (.lst ws))] _ _ _ _
    repeat (walk_at "nv")
  · rfl
end K02
set_option Elab.async false
set_option linter.all false
set_option maxRecDepth 100000
set_option maxHeartbeats 1000000
namespace K02
open PySem PySem.Spec PyProof.Rows L2 NV
local macro_rules | `(tactic| walk_at "nv") => `(tactic| first
  | assumption
  | exact E_cst | exact AA_nil | exact RR_nil | exact O_nil | exact S_nil | exact SF_rt | exact E_gc | exact E_edict | exact FL_nil
  | exact A_pk rfl | apply A_v (hm := rfl) | apply AA_cons | apply RR_cons | apply O_some (hm := rfl)
  | apply S_seq | apply SF_nx | apply S_asg | apply S_ite | apply S_ret | exact S_mvv rfl | exact S_mvo rfl | apply S_put | apply S_par | apply S_expr | apply S_tgt | apply S_forr
  | apply E_op2 | apply E_bi | apply E_me | apply E_isi | apply E_not | apply E_ite | apply E_and | apply E_or | apply E_tup | apply E_lst | apply E_sl | apply E_call | apply E_nm | apply E_neg | apply E_mut | apply E_heap | apply I_rng | apply E_chain
  | apply SB_t (hb := by first | rfl | assumption | (rw [Bool.not_eq_true']; assumption) | (rw [Bool.not_eq_false']; assumption)) | apply SB_f (hb := by first | rfl | assumption | (rw [Bool.not_eq_true']; assumption) | (rw [Bool.not_eq_false']; assumption)) | apply EB_t (hb := by first | rfl | assumption | (rw [Bool.not_eq_true']; assumption) | (rw [Bool.not_eq_false']; assumption)) | apply EB_f (hb := by first | rfl | assumption | (rw [Bool.not_eq_true']; assumption) | (rw [Bool.not_eq_false']; assumption)) | apply CH_t (hb := by first | rfl | assumption | (rw [Bool.not_eq_true']; assumption) | (rw [Bool.not_eq_false']; assumption)) | exact CH_f (hb := by first | rfl | assumption | (rw [Bool.not_eq_true']; assumption) | (rw [Bool.not_eq_false']; assumption))
  | exact p_add | exact p_sub | exact ⟨rfl⟩ | exact List.Pairwise.nil | exact List.pairwise_singleton .. | rfl | decide)
def LET : Str := "abcdefghijklmnopqrstuvwxyz"
def LF : Str := "abcdefghijklmnopqrstuvwxyz0123456789"
def CLD : List PyData := [.str "both", .str "either", .str "not", .str "close", .str "cut", .str "order", .str "end", .str "pair"]
/-- not among these signs -/
def outL (t : Str) (w : W) : Bool := match w with
  | .str s => match s.cps.toList with
    | [c] => !decide (c ∈ t.cps.toList)
    | _ => false
  | _ => false
def signs (z : Str) : List W := z.cps.toList.map fun c => W.str ⟨#[c]⟩
def badSigns (z : Str) : List W := (signs z).filter (outL LF)
def wordS (z : Str) : Bool := match z.cps.toList with
  | [] => false
  | c :: _ => decide (z.length ≤ 8) && (decide (c ∈ LET.cps.toList) && ((badSigns z).isEmpty && !(CLD.any fun y => PyData.eqv y (.str z))))
theorem bad_toDs (z : Str) (t : Str) : ∃ xs, W.toDs ((signs z).filter (outL t)) = some xs := by
  unfold signs
  rw [List.filter_map]
  exact ⟨_, by rw [show (fun c => W.str ⟨#[c]⟩) = (W.str ∘ fun c : Nat => (⟨#[c]⟩ : Str)) from rfl, ← List.map_map]; exact strs_toDs⟩
theorem p_notCL (z : Str) : PO (.cmp .NotIn) (.str z) (.tup [(.str "both"), (.str "either"), (.str "not"), (.str "close"), (.str "cut"), (.str "order"), (.str "end"), (.str "pair")]) (.val (.bl (!(CLD.any fun y => PyData.eqv y (.str z))))) := by
  constructor
  rfl
theorem p_addLF : PO (.bin .Add) (.str "abcdefghijklmnopqrstuvwxyz") (.str "0123456789") (.val (.str LF)) := ⟨by kernel_rfl⟩
theorem p_out (c : Nat) (t : Str) : PO (.cmp .NotIn) (.str ⟨#[c]⟩) (.str t) (.val (.bl (outL t (.str ⟨#[c]⟩)))) := ⟨rfl⟩
theorem lc_word (n : Nat) (z : Str) (S : Sto) (hz : z.length ≤ sizeLine) : EV (callT T n) (.lc [1] (.seq (.nm 0)) (.tnm 1) (.op2 (.cmp .NotIn) (.pk 1) (.op2 (.bin .Add) (.gc "LETTERS" (.str "abcdefghijklmnopqrstuvwxyz")) (.gc "FIGURES" (.str "0123456789")))) (.nm 1)) [some (.val (.str z)), none] S (.fresh (badSigns z)) [some (.val (.str z)), none] S := by
  have q := E_lcp (cf := callT T n) (own := [1]) (src := .seq (.nm 0)) (tgt := .tnm 1) (cond := .op2 (.cmp .NotIn) (.pk 1) (.op2 (.bin .Add) (.gc "LETTERS" (.str "abcdefghijklmnopqrstuvwxyz")) (.gc "FIGURES" (.str "0123456789")))) (elt := .nm 1) (ρ := [some (.val (.str z)), none]) (S := S) (P := outL LF) (g := id) (I_str (E_nm rfl) rfl) rfl (fun w hw => ?_) (by rw [List.length_map, Array.length_toList]; exact hz)
  · rw [List.map_id] at q
    exact q
  · obtain ⟨c, _, rfl⟩ := List.mem_map.mp hw
    have h1 := p_addLF
    have h2 := p_out c LF
    refine ⟨[some (.val (.str z)), some (.val (.str ⟨#[c]⟩))], rfl, [some (.val (.str z)), some (.val (.str ⟨#[c]⟩))], ?_, fun _ => ⟨.val (.str ⟨#[c]⟩), _, E_nm rfl, rfl, rfl⟩, fun _ => rfl⟩
    repeat (walk_at "nv")
theorem f_is_word (n : Nat) (z : Str) (S : Sto) (hz : z.length ≤ sizeLine) : CC (callT T (n + 1)) i_is_word [.val (.str z)] S (.val (.bl (wordS z))) [some (.val (.str z))] S := by
  have hlen := p_len hz
  have hlc := lc_word n z S hz
  have hcl := p_notCL z
  obtain ⟨xs, hxs⟩ := bad_toDs z LF
  have hnil : PO (.cmp .Eq) (.lst (badSigns z)) (.lst []) (.val (.bl (badSigns z).isEmpty)) := p_eqnil hxs
  cases hcs : z.cps.toList with
  | nil =>
    have h0 : z.length = 0 := by
      show z.cps.size = 0
      rw [← Array.length_toList, hcs]; rfl
    have e : wordS z = false := by unfold wordS; rw [hcs]
    rw [e]
    have d1 : decide ((1 : Int) ≤ (z.length : Int)) = false := decide_eq_false (by omega)
    apply run_rt (hD := rfl) (hl := rfl)
    · show SS _ m_is_word [some (.val (.str z)), none] _ _ _ _
      repeat (walk_at "nv")
    · rfl
  | cons c r =>
    have h0 : 1 ≤ z.length := by
      show 1 ≤ z.cps.size
      rw [← Array.length_toList, hcs]; simp
    have e : wordS z = (decide (z.length ≤ 8) && (decide (c ∈ LET.cps.toList) && ((badSigns z).isEmpty && !(CLD.any fun y => PyData.eqv y (.str z))))) := by unfold wordS; rw [hcs]
    rw [e]
    have d1 : decide ((1 : Int) ≤ (z.length : Int)) = true := decide_eq_true (by omega)
    have hix : PO .ix (.str z) (.int 0) (.val (.str ⟨#[c]⟩)) := p_ixs hz (by rw [hcs]; exact atI_at (j := 0) rfl (by simp))
    by_cases h8 : z.length ≤ 8
    · have d2 : decide ((z.length : Int) ≤ 8) = true := decide_eq_true (by omega)
      rw [decide_eq_true h8, Bool.true_and]
      have ho := p_out c LET
      have eo : outL LET (.str ⟨#[c]⟩) = !decide (c ∈ LET.cps.toList) := rfl
      rw [eo] at ho
      have ho : PO (.cmp .NotIn) (.str ⟨#[c]⟩) (.str "abcdefghijklmnopqrstuvwxyz") (.val (.bl (!decide (c ∈ LET.cps.toList)))) := ho
      generalize decide (c ∈ LET.cps.toList) = bL at ho ⊢
      generalize (badSigns z).isEmpty = bB at hnil ⊢
      generalize (CLD.any fun y => PyData.eqv y (.str z)) = bC at hcl ⊢
      cases bL with
      | false =>
        rw [Bool.false_and]
        apply run_rt (hD := rfl) (hl := rfl)
        · show SS _ m_is_word [some (.val (.str z)), none] _ _ _ _
          repeat (walk_at "nv")
        · rfl
      | true =>
        rw [Bool.true_and]
        cases bB with
        | false =>
          rw [Bool.false_and]
          apply run_rt (hD := rfl) (hl := rfl)
          · show SS _ m_is_word [some (.val (.str z)), none] _ _ _ _
            repeat (walk_at "nv")
          · rfl
        | true =>
          rw [Bool.true_and]
          apply run_rt (hD := rfl) (hl := rfl)
          · show SS _ m_is_word [some (.val (.str z)), none] _ _ _ _
            repeat (walk_at "nv")
          · rfl
    · have d2 : decide ((z.length : Int) ≤ 8) = false := decide_eq_false (by omega)
      rw [decide_eq_false h8, Bool.false_and]
      apply run_rt (hD := rfl) (hl := rfl)
      · show SS _ m_is_word [some (.val (.str z)), none] _ _ _ _
        repeat (walk_at "nv")
      · rfl
end K02
set_option Elab.async false
set_option linter.all false
set_option maxRecDepth 100000
set_option maxHeartbeats 1000000
namespace K02
open PySem PySem.Spec PyProof.Rows L2 NV
local macro_rules | `(tactic| walk_at "nv") => `(tactic| first
  | assumption
  | exact E_cst | exact AA_nil | exact RR_nil | exact O_nil | exact S_nil | exact SF_rt | exact E_gc | exact E_edict | exact FL_nil
  | exact A_pk rfl | apply A_v (hm := rfl) | apply AA_cons | apply RR_cons | apply O_some (hm := rfl)
  | apply S_seq | apply SF_nx | apply S_asg | apply S_ite | apply S_ret | exact S_mvv rfl | exact S_mvo rfl | apply S_put | apply S_par | apply S_expr | apply S_tgt | apply S_forr
  | apply E_op2 | apply E_bi | apply E_me | apply E_isi | apply E_not | apply E_ite | apply E_and | apply E_or | apply E_tup | apply E_lst | apply E_sl | apply E_call | apply E_nm | apply E_neg | apply E_mut | apply E_heap | apply I_rng | apply E_chain
  | apply SB_t (hb := by first | rfl | assumption | (rw [Bool.not_eq_true']; assumption) | (rw [Bool.not_eq_false']; assumption)) | apply SB_f (hb := by first | rfl | assumption | (rw [Bool.not_eq_true']; assumption) | (rw [Bool.not_eq_false']; assumption)) | apply EB_t (hb := by first | rfl | assumption | (rw [Bool.not_eq_true']; assumption) | (rw [Bool.not_eq_false']; assumption)) | apply EB_f (hb := by first | rfl | assumption | (rw [Bool.not_eq_true']; assumption) | (rw [Bool.not_eq_false']; assumption)) | apply CH_t (hb := by first | rfl | assumption | (rw [Bool.not_eq_true']; assumption) | (rw [Bool.not_eq_false']; assumption)) | exact CH_f (hb := by first | rfl | assumption | (rw [Bool.not_eq_true']; assumption) | (rw [Bool.not_eq_false']; assumption))
  | exact p_add | exact p_sub | exact ⟨rfl⟩ | exact List.Pairwise.nil | exact List.pairwise_singleton .. | rfl | decide)
theorem f_is_word_ns (n : Nat) (v : W) (S : Sto) (h : isiW (res S v) [.str] = some false) : CC (callT T (n + 1)) i_is_word [.val v] S (.val (.bl false)) [some (.val v)] S := by
  apply run_rt (hD := rfl) (hl := rfl)
  · show SS _ m_is_word [some (.val v), none] _ _ _ _
    repeat (walk_at "nv")
  · rfl
theorem f_law_is_word_ns (n : Nat) (v : W) (S : Sto) (h : isiW (res S v) [.str] = some false) : CC (callT T (n + 1)) i_law_is_word [.val v] S (.val (.bl false)) [some (.val v)] S := by
  apply run_rt (hD := rfl) (hl := rfl)
  · show SS _ m_law_is_word [some (.val v), none] _ _ _ _
    repeat (walk_at "nv")
  · rfl
theorem lc_law_word (n : Nat) (z : Str) (S : Sto) (hz : z.length ≤ sizeLine) : EV (callT T n) (.lc [1] (.seq (.nm 0)) (.tnm 1) (.op2 (.cmp .NotIn) (.pk 1) (.cst (.str "abcdefghijklmnopqrstuvwxyz0123456789"))) (.nm 1)) [some (.val (.str z)), none] S (.fresh (badSigns z)) [some (.val (.str z)), none] S := by
  have q := E_lcp (cf := callT T n) (own := [1]) (src := .seq (.nm 0)) (tgt := .tnm 1) (cond := .op2 (.cmp .NotIn) (.pk 1) (.cst (.str "abcdefghijklmnopqrstuvwxyz0123456789"))) (elt := .nm 1) (ρ := [some (.val (.str z)), none]) (S := S) (P := outL LF) (g := id) (I_str (E_nm rfl) rfl) rfl (fun w hw => ?_) (by rw [List.length_map, Array.length_toList]; exact hz)
  · rw [List.map_id] at q
    exact q
  · obtain ⟨c, _, rfl⟩ := List.mem_map.mp hw
    have h2 := p_out c LF
    refine ⟨[some (.val (.str z)), some (.val (.str ⟨#[c]⟩))], rfl, [some (.val (.str z)), some (.val (.str ⟨#[c]⟩))], ?_, fun _ => ⟨.val (.str ⟨#[c]⟩), _, E_nm rfl, rfl, rfl⟩, fun _ => rfl⟩
    repeat (walk_at "nv")
theorem p_inCL (z : Str) : PO (.cmp .In) (.str z) (.lst [(.str "both"), (.str "either"), (.str "not"), (.str "close"), (.str "cut"), (.str "order"), (.str "end"), (.str "pair")]) (.val (.bl (CLD.any fun y => PyData.eqv y (.str z)))) := by
  constructor
  rfl
theorem f_law_is_word (n : Nat) (z : Str) (S : Sto) (hz : z.length ≤ sizeLine) : CC (callT T (n + 1)) i_law_is_word [.val (.str z)] S (.val (.bl (wordS z))) [some (.val (.str z))] S := by
  have hlen := p_len hz
  have hlc := lc_law_word n z S hz
  have hcl := p_inCL z
  obtain ⟨xs, hxs⟩ := bad_toDs z LF
  have hnil : PO (.cmp .Eq) (.lst (badSigns z)) (.lst []) (.val (.bl (badSigns z).isEmpty)) := p_eqnil hxs
  cases hcs : z.cps.toList with
  | nil =>
    have h0 : z.length = 0 := by
      show z.cps.size = 0
      rw [← Array.length_toList, hcs]; rfl
    have e : wordS z = false := by unfold wordS; rw [hcs]
    rw [e]
    have d1 : decide ((0 : Int) < (z.length : Int)) = false := decide_eq_false (by omega)
    apply run_rt (hD := rfl) (hl := rfl)
    · show SS _ m_law_is_word [some (.val (.str z)), none] _ _ _ _
      repeat (walk_at "nv")
    · rfl
  | cons c r =>
    have h0 : 1 ≤ z.length := by
      show 1 ≤ z.cps.size
      rw [← Array.length_toList, hcs]; simp
    have e : wordS z = (decide (z.length ≤ 8) && (decide (c ∈ LET.cps.toList) && ((badSigns z).isEmpty && !(CLD.any fun y => PyData.eqv y (.str z))))) := by unfold wordS; rw [hcs]
    rw [e]
    have d1 : decide ((0 : Int) < (z.length : Int)) = true := decide_eq_true (by omega)
    have hix : PO .ix (.str z) (.int 0) (.val (.str ⟨#[c]⟩)) := p_ixs hz (by rw [hcs]; exact atI_at (j := 0) rfl (by simp))
    by_cases h8 : z.length ≤ 8
    · have d2 : decide ((z.length : Int) < 9) = true := decide_eq_true (by omega)
      rw [decide_eq_true h8, Bool.true_and]
      have ho := p_out c LET
      have eo : outL LET (.str ⟨#[c]⟩) = !decide (c ∈ LET.cps.toList) := rfl
      rw [eo] at ho
      have ho : PO (.cmp .NotIn) (.str ⟨#[c]⟩) (.str "abcdefghijklmnopqrstuvwxyz") (.val (.bl (!decide (c ∈ LET.cps.toList)))) := ho
      generalize decide (c ∈ LET.cps.toList) = bL at ho ⊢
      generalize (badSigns z).isEmpty = bB at hnil ⊢
      generalize (CLD.any fun y => PyData.eqv y (.str z)) = bC at hcl ⊢
      cases bL with
      | false =>
        rw [Bool.false_and]
        apply run_rt (hD := rfl) (hl := rfl)
        · show SS _ m_law_is_word [some (.val (.str z)), none] _ _ _ _
          repeat (walk_at "nv")
        · rfl
      | true =>
        rw [Bool.true_and]
        cases bC with
        | true =>
          rw [Bool.not_true, Bool.and_false]
          apply run_rt (hD := rfl) (hl := rfl)
          · show SS _ m_law_is_word [some (.val (.str z)), none] _ _ _ _
            repeat (walk_at "nv")
          · rfl
        | false =>
          rw [Bool.not_false, Bool.and_true]
          apply run_rt (hD := rfl) (hl := rfl)
          · show SS _ m_law_is_word [some (.val (.str z)), none] _ _ _ _
            repeat (walk_at "nv")
          · rfl
    · have d2 : decide ((z.length : Int) < 9) = false := decide_eq_false (by omega)
      rw [decide_eq_false h8, Bool.false_and]
      apply run_rt (hD := rfl) (hl := rfl)
      · show SS _ m_law_is_word [some (.val (.str z)), none] _ _ _ _
        repeat (walk_at "nv")
      · rfl
/-! ### the first state of the draws -/
theorem f_cell (n : Nat) (ns : List Int) (i : Nat) (S : Sto) : ∃ v, CC (callT T (n + 1)) i_law_cell [.val (.flst (ns.map W.int)), .val (.int i)] S (.val (.int v)) [some (.val (.flst (ns.map W.int))), some (.val (.int i))] S := by
  by_cases h : i < ns.length
  · have d1 : decide ((i : Int) < ((ns.map W.int).length : Int)) = true := decide_eq_true (by rw [List.length_map]; omega)
    have hix : PO .ix (.flst (ns.map W.int)) (.int i) (.val (.int ns[i])) := p_ixf (by rw [atI_at (j := i) rfl (by rw [List.length_map]; exact h)]; simp)
    refine ⟨ns[i], ?_⟩
    apply run_rt (hD := rfl) (hl := rfl)
    · show SS _ m_law_cell [some (.val (.flst (ns.map W.int))), some (.val (.int i))] _ _ _ _
      repeat (walk_at "nv")
    · rfl
  · have d1 : decide ((i : Int) < ((ns.map W.int).length : Int)) = false := decide_eq_false (by rw [List.length_map]; omega)
    have hs : pSl (.flst (ns.map W.int)) none (some 1) = some (.fresh ((cutW (ns.map W.int) none (some 1)))) := rfl
    have hw : ∀ l : List Int, wInts (l.map W.int) = some l := fun l => by
      induction l with
      | nil => rfl
      | cons a l ih => simp only [List.map_cons, wInts, ih, Option.map_some]
    have hc : cutW (ns.map W.int) none (some 1) = (((ns.drop (HT.sIx (ns.map W.int).length 0 none)).take (HT.sIx (ns.map W.int).length (ns.map W.int).length (some 1) - HT.sIx (ns.map W.int).length 0 none)).map W.int) := by
      unfold cutW
      rw [List.map_take, List.map_drop]
    have hsum : pBi .sum [.lst (cutW (ns.map W.int) none (some 1))] = some (.val (.int (((ns.drop (HT.sIx (ns.map W.int).length 0 none)).take (HT.sIx (ns.map W.int).length (ns.map W.int).length (some 1) - HT.sIx (ns.map W.int).length 0 none))).sum)) := by
      simp only [pBi]
      rw [hc, hw, Option.map_some]
    apply Exists.intro
    apply run_rt (hD := rfl) (hl := rfl)
    · show SS _ m_law_cell [some (.val (.flst (ns.map W.int))), some (.val (.int i))] _ _ _ _
      repeat (walk_at "nv")
    · rfl
theorem p_pow1 : PO (.bin .Pow) (.int 10) (.int 18) (.val (.int (10 ^ 18))) := ⟨by kernel_rfl⟩
theorem p_pow2 : PO (.bin .Pow) (.int 10) (.int 60) (.val (.int (10 ^ 60))) := ⟨by kernel_rfl⟩
theorem p_pow3 : PO (.bin .Pow) (.int (10 ^ 60)) (.int 10) (.val (.int ((10 ^ 60) ^ 10))) := ⟨by kernel_rfl⟩
theorem f_generator (n : Nat) (ns : List Int) (i : Nat) (hi : i < 1000) (S : Sto) : ∃ g, CC (callT T (n + 2)) i_law_generator [.val (.flst (ns.map W.int)), .val (.int i)] S (.fresh g) [some (.val (.flst (ns.map W.int))), some (.val (.int i))] S ∧ GenOk g (1000 * i) := by
  obtain ⟨v, hv⟩ := f_cell n ns i S
  have h1 := p_pow1
  have h2 := p_pow2
  have h3 := p_pow3
  have hpos : (0 : Int) < (10 ^ 60) ^ 10 := by decide +kernel
  generalize (10 : Int) ^ 18 = t1 at h1
  generalize ((10 : Int) ^ 60) ^ 10 = t3 at h3 hpos
  generalize (10 : Int) ^ 60 = t2 at h2 h3
  have h4 := fun x : Int => p_mod (i := x) hpos
  have h5 := p_mod (i := v) (j := 2147483647) (by omega)
  have h6 := p_mul (i := 1000) (j := (i : Int)) 31 31 (by omega) (by omega) (by omega)
  refine ⟨gen ((if 0 > v - t1 then 0 else v - t1) % t3) (v % 2147483647) (1000 * i), ?_, ⟨_, _, _, rfl, Int.emod_nonneg _ (by omega), ⟨Int.emod_nonneg _ (by omega), Int.emod_lt_of_pos _ (by omega)⟩, by omega, by omega⟩⟩
  have h7 := h4 (if 0 > v - t1 then 0 else v - t1)
  apply run_rt (hD := rfl) (hl := rfl)
  · show SS _ m_law_generator [some (.val (.flst (ns.map W.int))), some (.val (.int i)), none] _ _ _ _
    repeat (walk_at "nv")
  · rfl
end K02
set_option Elab.async false
set_option linter.all false
set_option maxRecDepth 100000
set_option maxHeartbeats 1000000
namespace NV
open PySem PySem.Spec PyProof.Rows L2
theorem p_eqint {i j : Int} : PO (.cmp .Eq) (.int i) (.int j) (.val (.bl (decide (i = j)))) := by
  constructor
  have e3 : dOk (.int i) = true := rfl
  simp only [pOp2, pCmp, wEq, W.toD, e3, Bool.true_or, if_true, Option.map_some]
  congr 3
end NV
namespace K02
open PySem PySem.Spec PyProof.Rows L2 NV
local macro_rules | `(tactic| walk_at "nv") => `(tactic| first
  | assumption
  | exact E_cst | exact AA_nil | exact RR_nil | exact O_nil | exact S_nil | exact SF_rt | exact E_gc | exact E_edict | exact FL_nil
  | exact A_pk rfl | apply A_v (hm := rfl) | apply AA_cons | apply RR_cons | apply O_some (hm := rfl)
  | apply S_seq | apply SF_nx | apply S_asg | apply S_ite | apply S_ret | exact S_mvv rfl | exact S_mvo rfl | apply S_put | apply S_par | apply S_expr | apply S_tgt | apply S_forr
  | apply E_op2 | apply E_bi | apply E_me | apply E_isi | apply E_not | apply E_ite | apply E_and | apply E_or | apply E_tup | apply E_lst | apply E_sl | apply E_call | apply E_nm | apply E_neg | apply E_mut | apply E_heap | apply I_rng | apply E_chain
  | apply SB_t (hb := by first | rfl | assumption | (rw [Bool.not_eq_true']; assumption) | (rw [Bool.not_eq_false']; assumption)) | apply SB_f (hb := by first | rfl | assumption | (rw [Bool.not_eq_true']; assumption) | (rw [Bool.not_eq_false']; assumption)) | apply EB_t (hb := by first | rfl | assumption | (rw [Bool.not_eq_true']; assumption) | (rw [Bool.not_eq_false']; assumption)) | apply EB_f (hb := by first | rfl | assumption | (rw [Bool.not_eq_true']; assumption) | (rw [Bool.not_eq_false']; assumption)) | apply CH_t (hb := by first | rfl | assumption | (rw [Bool.not_eq_true']; assumption) | (rw [Bool.not_eq_false']; assumption)) | exact CH_f (hb := by first | rfl | assumption | (rw [Bool.not_eq_true']; assumption) | (rw [Bool.not_eq_false']; assumption))
  | exact p_add | exact p_sub | exact ⟨rfl⟩ | exact List.Pairwise.nil | exact List.pairwise_singleton .. | rfl | decide)
inductive Fm where
  | lit (neg : Bool) (z : Str)
  | bin (e : Bool) (a b : Fm)
def Fm.w : Fm → W
  | .lit neg z => .tup [.str (if neg then "not" else "is"), .str z]
  | .bin e a b => .tup [.str (if e then "either" else "both"), a.w, b.w]
def Fm.depth : Fm → Nat
  | .lit _ _ => 1
  | .bin _ a b => 1 + max a.depth b.depth
def Fm.size : Fm → Nat
  | .lit _ _ => 1
  | .bin _ a b => 1 + a.size + b.size
/-- of the words p, q, r2 -/
def Fm.ok : Fm → Prop
  | .lit _ z => z = "p" ∨ z = "q" ∨ z = "r2"
  | .bin _ a b => a.ok ∧ b.ok
theorem g_lit (n : Nat) {g : List W} {k : Int} (hg : GenOk g k) (hk : k + 2 < 2 ^ 29) (S : Sto) : ∃ w1 w2 g1 g2, CC (callT T (n + 3)) i_law_pick [.own (true, g), .val (.lst [.str "is", .str "not"])] S (.val w1) [some (.own (true, g1)), some (.val (.lst [.str "is", .str "not"]))] S ∧
    CC (callT T (n + 3)) i_law_pick [.own (true, g1), .val (.lst [.str "p", .str "q", .str "r2"])] S (.val w2) [some (.own (true, g2)), some (.val (.lst [.str "p", .str "q", .str "r2"]))] S ∧ GenOk g2 (k + 2) ∧ ∃ F : Fm, W.tup [w1, w2] = F.w ∧ F.ok ∧ F.depth = 1 := by
  obtain ⟨w1, g1, h1, m1, k1⟩ := g_pick n hg (by omega) [.str "is", .str "not"] S ⟨by decide, by decide⟩
  obtain ⟨w2, g2, h2, m2, k2⟩ := g_pick n k1 (by omega) [.str "p", .str "q", .str "r2"] S ⟨by decide, by decide⟩
  refine ⟨w1, w2, g1, g2, h1, h2, k2.mono (by omega), ?_⟩
  have e1 : ∃ b : Bool, w1 = .str (if b then "not" else "is") := by
    simp only [List.mem_cons, List.not_mem_nil, or_false] at m1
    rcases m1 with h | h
    · exact ⟨false, h⟩
    · exact ⟨true, h⟩
  have e2 : ∃ z : Str, w2 = .str z ∧ (z = "p" ∨ z = "q" ∨ z = "r2") := by
    simp only [List.mem_cons, List.not_mem_nil, or_false] at m2
    rcases m2 with h | h | h
    · exact ⟨_, h, .inl rfl⟩
    · exact ⟨_, h, .inr (.inl rfl)⟩
    · exact ⟨_, h, .inr (.inr rfl)⟩
  obtain ⟨b, rfl⟩ := e1
  obtain ⟨z, rfl, hz⟩ := e2
  exact ⟨.lit b z, rfl, hz, rfl⟩
theorem g_formula (n : Nat) (S : Sto) : ∀ (d : Nat) {g : List W} {k : Int}, GenOk g k → k + 4 ^ (d + 1) < 2 ^ 29 →
    ∃ F g', CC (callT T (n + 4 + d)) i_law_formula [.own (true, g), .val (.int d)] S (.val (Fm.w F)) [some (.own (true, g')), some (.val (.int d))] S ∧ F.ok ∧ F.depth ≤ d + 1 ∧ GenOk g' (k + 4 ^ (d + 1))
  | 0, g, k, hg, hk => by
    have hk' : k + 4 < 2 ^ 29 := hk
    obtain ⟨w1, w2, g1, g2, h1, h2, h3, F, hF, h4, h5⟩ := g_lit n hg (by omega) S
    refine ⟨F, g2, ?_, h4, by omega, h3.mono (by omega)⟩
    rw [← hF]
    have e0 : PO (.cmp .Eq) (.int ((0 : Nat) : Int)) (.int 0) (.val (.bl true)) := p_eqint
    apply run_rt (hD := rfl) (hl := rfl)
    · show SS _ m_law_formula [some (.own (true, g)), some (.val (.int ((0 : Nat) : Int))), none] _ _ _ _
      repeat (walk_at "nv")
    · rfl
  | d + 1, g, k, hg, hk => by
    have e0 : PO (.cmp .Eq) (.int ((d + 1 : Nat) : Int)) (.int 0) (.val (.bl false)) := by
      have := p_eqint (i := ((d + 1 : Nat) : Int)) (j := 0)
      rw [decide_eq_false (by omega)] at this
      exact this
    have h2d : (4 : Int) ≤ 4 ^ (d + 1) := by
      have : 1 ≤ 4 ^ d := Nat.pow_pos (by omega)
      have h : 4 ≤ 4 ^ (d + 1) := by rw [Nat.pow_succ]; omega
      exact_mod_cast h
    have hpow : (4 : Int) ^ (d + 1 + 1) = 4 * 4 ^ (d + 1) := by rw [Int.pow_succ]; omega
    rw [hpow] at hk ⊢
    obtain ⟨r, g0, q1, q2, q3⟩ := g_random (n + 2 + d) hg (by omega) 4 S (by omega)
    have l1 : n + 2 + d + 2 = n + 4 + d := by omega
    have l2 : n + 1 + d + 3 = n + 4 + d := by omega
    rw [l1] at q1
    by_cases hr : r = 0
    · subst hr
      have e1 : PO (.cmp .Eq) (.int 0) (.int 0) (.val (.bl true)) := p_eqint
      obtain ⟨w1, w2, g1, g2, h1, h2, h3, F, hF, h4, h5⟩ := g_lit (n + 1 + d) q3 (by omega) S
      rw [l2] at h1 h2
      refine ⟨F, g2, ?_, h4, by omega, h3.mono (by omega)⟩
      rw [← hF]
      apply run_rt (hD := rfl) (hl := rfl)
      · show SS _ m_law_formula [some (.own (true, g)), some (.val (.int ((d + 1 : Nat) : Int))), none] _ _ _ _
        repeat (walk_at "nv")
      · rfl
    · have e1 : PO (.cmp .Eq) (.int r) (.int 0) (.val (.bl false)) := by
        have := p_eqint (i := r) (j := 0)
        rw [decide_eq_false hr] at this
        exact this
      obtain ⟨w1, g1, h1, m1, k1⟩ := g_pick (n + 1 + d) q3 (by omega) [.str "both", .str "either"] S ⟨by decide, by decide⟩
      rw [l2] at h1
      obtain ⟨A, g2, h2, oA, dA, k2⟩ := g_formula n S d k1 (by omega)
      obtain ⟨B, g3, h3, oB, dB, k3⟩ := g_formula n S d k2 (by omega)
      have ew : ∃ b : Bool, w1 = .str (if b then "either" else "both") := by
        simp only [List.mem_cons, List.not_mem_nil, or_false] at m1
        rcases m1 with h | h
        · exact ⟨false, h⟩
        · exact ⟨true, h⟩
      obtain ⟨b, rfl⟩ := ew
      refine ⟨.bin b A B, g3, ?_, ⟨oA, oB⟩, by show 1 + max A.depth B.depth ≤ _; omega, k3.mono (by omega)⟩
      have es : PO (.bin .Sub) (.int ((d + 1 : Nat) : Int)) (.int 1) (.val (.int d)) := by
        have := p_sub (i := ((d + 1 : Nat) : Int)) (j := 1)
        rw [show ((d + 1 : Nat) : Int) - 1 = d by omega] at this
        exact this
      show CC (callT T (n + 4 + d + 1)) _ _ _ (.val (.tup [.str (if b then "either" else "both"), A.w, B.w])) _ _
      apply run_rt (hD := rfl) (hl := rfl)
      · show SS _ m_law_formula [some (.own (true, g)), some (.val (.int ((d + 1 : Nat) : Int))), none] _ _ _ _
        repeat (walk_at "nv")
      · rfl
end K02
set_option Elab.async false
set_option linter.all false
set_option maxRecDepth 100000
set_option maxHeartbeats 1000000
namespace NV
open PySem PySem.Spec PyProof.Rows L2
theorem eqv_str (a b : Str) : PyData.eqv (.str a) (.str b) = decide (a = b) := by
  simp only [PyData.eqv]
  rfl
theorem p_in2 {h a b : Str} : PO (.cmp .In) (.str h) (.tup [.str a, .str b]) (.val (.bl (decide (h = a) || decide (h = b)))) := by
  constructor
  have e3 : dOk (.str h) = true := rfl
  simp only [pOp2, pCmp, wIn, wInL, W.toDs, W.toD, e3, if_true, Option.map_some, List.any_cons, List.any_nil, Bool.or_false, eqv_str]
  rw [show decide (a = h) = decide (h = a) from by simp [eq_comm], show decide (b = h) = decide (h = b) from by simp [eq_comm]]
theorem p_tail {a : W} {r : List W} : pSl (.tup (a :: r)) (some 1) none = some (.val (.tup r)) := by
  have h1 : HT.sIx (a :: r).length 0 (some 1) = 1 := by simp [HT.sIx]
  have h2 : HT.sIx (a :: r).length (a :: r).length none = (a :: r).length := rfl
  simp only [pSl, h1, h2]
  rw [if_neg (by simp)]
  unfold cutW
  rw [h1, h2]
  simp
end NV
namespace K02
open PySem PySem.Spec PyProof.Rows L2 NV
local macro_rules | `(tactic| walk_at "nv") => `(tactic| first
  | assumption
  | exact E_cst | exact AA_nil | exact RR_nil | exact O_nil | exact S_nil | exact SF_rt | exact E_gc | exact E_edict | exact FL_nil
  | exact A_pk rfl | apply A_v (hm := rfl) | apply AA_cons | apply RR_cons | apply O_some (hm := rfl)
  | apply S_seq | apply SF_nx | apply S_asg | apply S_ite | apply S_ret | exact S_mvv rfl | exact S_mvo rfl | apply S_put | apply S_par | apply S_expr | apply S_tgt | apply S_forr
  | apply E_op2 | apply E_bi | apply E_me | apply E_isi | apply E_not | apply E_ite | apply E_and | apply E_or | apply E_tup | apply E_lst | apply E_sl | apply E_call | apply E_nm | apply E_neg | apply E_mut | apply E_heap | apply I_rng | apply E_chain
  | apply SB_t (hb := by first | rfl | assumption | (rw [Bool.not_eq_true']; assumption) | (rw [Bool.not_eq_false']; assumption)) | apply SB_f (hb := by first | rfl | assumption | (rw [Bool.not_eq_true']; assumption) | (rw [Bool.not_eq_false']; assumption)) | apply EB_t (hb := by first | rfl | assumption | (rw [Bool.not_eq_true']; assumption) | (rw [Bool.not_eq_false']; assumption)) | apply EB_f (hb := by first | rfl | assumption | (rw [Bool.not_eq_true']; assumption) | (rw [Bool.not_eq_false']; assumption)) | apply CH_t (hb := by first | rfl | assumption | (rw [Bool.not_eq_true']; assumption) | (rw [Bool.not_eq_false']; assumption)) | exact CH_f (hb := by first | rfl | assumption | (rw [Bool.not_eq_true']; assumption) | (rw [Bool.not_eq_false']; assumption))
  | exact p_add | exact p_sub | exact ⟨rfl⟩ | exact List.Pairwise.nil | exact List.pairwise_singleton .. | rfl | decide)
def isBE (h : Str) : Bool := decide (h = "both") || decide (h = "either")
def isIN (h : Str) : Bool := decide (h = "is") || decide (h = "not")
theorem f_inner_of (n : Nat) (h : Str) (r : List W) (S : Sto) : CC (callT T (n + 1)) i_inner_of [.val (.tup (.str h :: r))] S (.fresh (if isBE h then r else [])) [some (.val (.tup (.str h :: r)))] S := by
  have h1 : PO .ix (.tup (.str h :: r)) (.int 0) (.val (.str h)) := p_ixt (atI_at (j := 0) rfl (by simp))
  have h2 := p_in2 (h := h) (a := "both") (b := "either")
  have h3 := p_tail (a := .str h) (r := r)
  cases hb : isBE h with
  | true =>
    rw [if_pos rfl]
    unfold isBE at hb
    rw [hb] at h2
    apply run_rt (hD := rfl) (hl := rfl)
    · show SS _ m_inner_of [some (.val (.tup (.str h :: r)))] _ _ _ _
      repeat (walk_at "nv")
    · rfl
  | false =>
    rw [if_neg (by decide)]
    unfold isBE at hb
    rw [hb] at h2
    apply run_rt (hD := rfl) (hl := rfl)
    · show SS _ m_inner_of [some (.val (.tup (.str h :: r)))] _ _ _ _
      repeat (walk_at "nv")
    · rfl
end K02
set_option Elab.async false
set_option linter.all false
set_option maxRecDepth 100000
set_option maxHeartbeats 1000000
namespace NV
open PySem PySem.Spec PyProof.Rows L2
/-! ### plain data of moderate size -/
mutual
def gdW : W → Bool
  | .non => true
  | .bl _ => true
  | .int _ => true
  | .str z => decide (z.length ≤ 1000)
  | .tup l => decide (l.length ≤ 1000) && gdWs l
  | .lst l => decide (l.length ≤ 1000) && gdWs l
  | _ => false
def gdWs : List W → Bool
  | [] => true
  | a :: r => gdW a && gdWs r
end
mutual
theorem gd_toD : ∀ {v : W}, gdW v = true → ∃ x, v.toD = some x
  | .non, _ => ⟨_, rfl⟩
  | .bl _, _ => ⟨_, rfl⟩
  | .int _, _ => ⟨_, rfl⟩
  | .str _, _ => ⟨_, rfl⟩
  | .tup l, h => by
    simp only [gdW, Bool.and_eq_true] at h
    obtain ⟨xs, e⟩ := gds_toD h.2
    exact ⟨.tuple xs, by simp only [W.toD, e]; rfl⟩
  | .lst l, h => by
    simp only [gdW, Bool.and_eq_true] at h
    obtain ⟨xs, e⟩ := gds_toD h.2
    exact ⟨.list xs, by simp only [W.toD, e]; rfl⟩
  | .dct _ _, h => by simp only [gdW] at h; cases h
  | .flst _, h => by simp only [gdW] at h; cases h
  | .fn _, h => by simp only [gdW] at h; cases h
  | .ref _, h => by simp only [gdW] at h; cases h
  | .exc _ _, h => by simp only [gdW] at h; cases h
theorem gds_toD : ∀ {l : List W}, gdWs l = true → ∃ xs, W.toDs l = some xs
  | [], _ => ⟨[], rfl⟩
  | a :: r, h => by
    simp only [gdWs, Bool.and_eq_true] at h
    obtain ⟨x, e1⟩ := gd_toD h.1
    obtain ⟨xs, e2⟩ := gds_toD h.2
    exact ⟨x :: xs, by simp only [W.toDs, e1, e2]⟩
end
theorem gd_res {v : W} (h : gdW v = true) (S : Sto) : res S v = v := by cases v <;> first | rfl | (simp only [gdW] at h; cases h)
theorem gd_isi {v : W} (h : gdW v = true) (ts : List Ty) : isiW v ts = some (ts.any fun t => isTy t v) := by cases v <;> first | rfl | (simp only [gdW] at h; cases h)
theorem p_eqtup0 {l : List W} {xs : List PyData} (h : W.toDs l = some xs) : PO (.cmp .Eq) (.tup l) (.tup []) (.val (.bl l.isEmpty)) := by
  constructor
  have e1 : W.toD (.tup l) = some (.tuple xs) := by simp only [W.toD, h]; rfl
  have e2 : W.toD (.tup []) = some (.tuple []) := rfl
  have e3 : dOk (.tuple []) = true := by decide
  simp only [pOp2, pCmp, wEq, e1, e2, e3, Bool.or_true, if_true, Option.map_some]
  cases l with
  | nil => cases h; rfl
  | cons a l =>
    cases xs with
    | nil =>
      simp only [W.toDs] at h
      split at h <;> cases h
    | cons x xs => rfl
theorem p_eqint' {i j : Int} {b : Bool} (h : decide (i = j) = b) : PO (.cmp .Eq) (.int i) (.int j) (.val (.bl b)) := by rw [← h]; exact p_eqint
end NV
namespace K02
open PySem PySem.Spec PyProof.Rows L2 NV
local macro_rules | `(tactic| walk_at "nv") => `(tactic| first
  | assumption
  | exact E_cst | exact AA_nil | exact RR_nil | exact O_nil | exact S_nil | exact SF_rt | exact E_gc | exact E_edict | exact FL_nil
  | exact A_pk rfl | apply A_v (hm := rfl) | apply AA_cons | apply RR_cons | apply O_some (hm := rfl)
  | apply S_seq | apply SF_nx | apply S_asg | apply S_ite | apply S_ret | exact S_mvv rfl | exact S_mvo rfl | apply S_put | apply S_par | apply S_expr | apply S_tgt | apply S_forr
  | apply E_op2 | apply E_bi | apply E_me | apply E_isi | apply E_not | apply E_ite | apply E_and | apply E_or | apply E_tup | apply E_lst | apply E_sl | apply E_call | apply E_nm | apply E_neg | apply E_mut | apply E_heap | apply I_rng | apply E_chain
  | apply SB_t (hb := by first | rfl | assumption | (rw [Bool.not_eq_true']; assumption) | (rw [Bool.not_eq_false']; assumption)) | apply SB_f (hb := by first | rfl | assumption | (rw [Bool.not_eq_true']; assumption) | (rw [Bool.not_eq_false']; assumption)) | apply EB_t (hb := by first | rfl | assumption | (rw [Bool.not_eq_true']; assumption) | (rw [Bool.not_eq_false']; assumption)) | apply EB_f (hb := by first | rfl | assumption | (rw [Bool.not_eq_true']; assumption) | (rw [Bool.not_eq_false']; assumption)) | apply CH_t (hb := by first | rfl | assumption | (rw [Bool.not_eq_true']; assumption) | (rw [Bool.not_eq_false']; assumption)) | exact CH_f (hb := by first | rfl | assumption | (rw [Bool.not_eq_true']; assumption) | (rw [Bool.not_eq_false']; assumption))
  | exact p_add | exact p_sub | exact ⟨rfl⟩ | exact List.Pairwise.nil | exact List.pairwise_singleton .. | rfl | decide)
def wordW : W → Bool
  | .str z => wordS z
  | _ => false
theorem line1000 : 1000 ≤ sizeLine := by rw [sizeLine_eq]; omega
theorem g_is_word (n : Nat) (v : W) (S : Sto) (h : gdW v = true) : CC (callT T (n + 1)) i_is_word [.val v] S (.val (.bl (wordW v))) [some (.val v)] S := by
  cases v with
  | str z =>
    simp only [gdW, decide_eq_true_eq] at h
    exact f_is_word n z S (Nat.le_trans h line1000)
  | _ => first
    | exact f_is_word_ns n _ S rfl
    | (simp only [gdW] at h; cases h)
theorem g_law_is_word (n : Nat) (v : W) (S : Sto) (h : gdW v = true) : CC (callT T (n + 1)) i_law_is_word [.val v] S (.val (.bl (wordW v))) [some (.val v)] S := by
  cases v with
  | str z =>
    simp only [gdW, decide_eq_true_eq] at h
    exact f_law_is_word n z S (Nat.le_trans h line1000)
  | _ => first
    | exact f_law_is_word_ns n _ S rfl
    | (simp only [gdW] at h; cases h)
def oneWord : List W → Bool
  | [v] => wordW v
  | _ => false
/-- made as the top of a formula is -/
def formed : W → Bool
  | .tup (.str h :: r) => if isIN h then oneWord r else isBE h && decide (r.length = 2)
  | _ => false
theorem f_formed_nt (n : Nat) (v : W) (S : Sto) (h : isiW (res S v) [.tuple] = some false) : CC (callT T (n + 2)) i_is_formed [.val v] S (.val (.bl false)) [some (.val v)] S := by
  apply run_rt (hD := rfl) (hl := rfl)
  · show SS _ m_is_formed [some (.val v)] _ _ _ _
    repeat (walk_at "nv")
  · rfl
theorem f_formed_nil (n : Nat) (S : Sto) : CC (callT T (n + 2)) i_is_formed [.val (.tup [])] S (.val (.bl false)) [some (.val (.tup []))] S := by
  have h1 := p_eqtup0 (l := []) rfl
  apply run_rt (hD := rfl) (hl := rfl)
  · show SS _ m_is_formed [some (.val (.tup []))] _ _ _ _
    repeat (walk_at "nv")
  · rfl
theorem f_formed_ns (n : Nat) (a : W) (r : List W) (S : Sto) (hg : gdW (.tup (a :: r)) = true) (h : isTy .str a = false) : CC (callT T (n + 2)) i_is_formed [.val (.tup (a :: r))] S (.val (.bl false)) [some (.val (.tup (a :: r)))] S := by
  obtain ⟨xs, hx⟩ := gds_toD (l := a :: r) (by simp only [gdW, Bool.and_eq_true] at hg; exact hg.2)
  have h1 : PO (.cmp .Eq) (.tup (a :: r)) (.tup []) (.val (.bl false)) := p_eqtup0 hx
  have h2 : PO .ix (.tup (a :: r)) (.int 0) (.val a) := p_ixt (atI_at (j := 0) rfl (by simp))
  have ga : gdW a = true := by
    simp only [gdW, gdWs, Bool.and_eq_true] at hg
    exact hg.2.1
  have h3 : isiW (res S a) [.str] = some false := by
    rw [gd_res ga, gd_isi ga, List.any_cons, h]; rfl
  apply run_rt (hD := rfl) (hl := rfl)
  · show SS _ m_is_formed [some (.val (.tup (a :: r)))] _ _ _ _
    repeat (walk_at "nv")
  · rfl
theorem f_formed_str (n : Nat) (h : Str) (r : List W) (S : Sto) (hg : gdW (.tup (.str h :: r)) = true) : CC (callT T (n + 2)) i_is_formed [.val (.tup (.str h :: r))] S (.val (.bl (formed (.tup (.str h :: r))))) [some (.val (.tup (.str h :: r)))] S := by
  obtain ⟨xs, hx⟩ := gds_toD (l := .str h :: r) (by simp only [gdW, Bool.and_eq_true] at hg; exact hg.2)
  have h1 : PO (.cmp .Eq) (.tup (.str h :: r)) (.tup []) (.val (.bl false)) := p_eqtup0 hx
  have h2 : PO .ix (.tup (.str h :: r)) (.int 0) (.val (.str h)) := p_ixt (atI_at (j := 0) rfl (by simp))
  have h3 := p_in2 (h := h) (a := "is") (b := "not")
  have h4 := p_in2 (h := h) (a := "both") (b := "either")
  have hr : gdWs r = true := by
    simp only [gdW, gdWs, Bool.and_eq_true] at hg
    exact hg.2.2
  have hlen : pBi .len [.tup (.str h :: r)] = some (.val (.int ((W.str h :: r).length : Nat))) := rfl
  cases hi : isIN h with
  | true =>
    have e : formed (.tup (.str h :: r)) = oneWord r := by simp only [formed, hi, if_true]
    rw [e]
    have hi' := hi
    unfold isIN at hi'
    rw [hi'] at h3
    match r, hg, hr, h1, h2, h3, h4, hlen with
    | [v], hg, hr, h1, h2, h3, h4, hlen =>
      have gv : gdW v = true := by simpa [gdWs] using hr
      have h5 : PO .ix (.tup [.str h, v]) (.int 1) (.val v) := p_ixt (atI_at (j := 1) rfl (by simp))
      have h6 := g_is_word n v S gv
      have h7 : PO (.cmp .Eq) (.int (([W.str h, v] : List W).length : Nat)) (.int 2) (.val (.bl true)) := p_eqint' rfl
      apply run_rt (hD := rfl) (hl := rfl)
      · show SS _ m_is_formed [some (.val (.tup [.str h, v]))] _ _ _ _
        repeat (walk_at "nv")
      · rfl
    | [], hg, hr, h1, h2, h3, h4, hlen =>
      have h7 : PO (.cmp .Eq) (.int (([W.str h] : List W).length : Nat)) (.int 2) (.val (.bl false)) := p_eqint' rfl
      apply run_rt (hD := rfl) (hl := rfl)
      · show SS _ m_is_formed [some (.val (.tup [.str h]))] _ _ _ _
        repeat (walk_at "nv")
      · rfl
    | v :: u :: t, hg, hr, h1, h2, h3, h4, hlen =>
      have h7 : PO (.cmp .Eq) (.int ((W.str h :: v :: u :: t : List W).length : Nat)) (.int 2) (.val (.bl false)) := p_eqint' (decide_eq_false (by simp only [List.length_cons]; omega))
      apply run_rt (hD := rfl) (hl := rfl)
      · show SS _ m_is_formed [some (.val (.tup (.str h :: v :: u :: t)))] _ _ _ _
        repeat (walk_at "nv")
      · rfl
  | false =>
    have e : formed (.tup (.str h :: r)) = (isBE h && decide (r.length = 2)) := by simp only [formed, hi]; rfl
    rw [e]
    have hi' := hi
    unfold isIN at hi'
    rw [hi'] at h3
    have h7 : PO (.cmp .Eq) (.int ((W.str h :: r : List W).length : Nat)) (.int 3) (.val (.bl (decide (r.length = 2)))) := p_eqint' (by rw [decide_eq_decide, List.length_cons]; omega)
    generalize decide (r.length = 2) = bb at h7 ⊢
    unfold isBE
    generalize (decide (h = "both") || decide (h = "either")) = bc at h4 ⊢
    cases bc with
    | true =>
      rw [Bool.true_and]
      apply run_rt (hD := rfl) (hl := rfl)
      · show SS _ m_is_formed [some (.val (.tup (.str h :: r)))] _ _ _ _
        repeat (walk_at "nv")
      · rfl
    | false =>
      rw [Bool.false_and]
      apply run_rt (hD := rfl) (hl := rfl)
      · show SS _ m_is_formed [some (.val (.tup (.str h :: r)))] _ _ _ _
        repeat (walk_at "nv")
      · rfl
theorem g_is_formed (n : Nat) (v : W) (S : Sto) (h : gdW v = true) : CC (callT T (n + 2)) i_is_formed [.val v] S (.val (.bl (formed v))) [some (.val v)] S := by
  cases v with
  | tup l =>
    cases l with
    | nil => exact f_formed_nil n S
    | cons a r =>
      cases a with
      | str z => exact f_formed_str n z r S h
      | _ => exact f_formed_ns n _ r S h rfl
  | _ => first
    | exact f_formed_nt n _ S rfl
    | (simp only [gdW] at h; cases h)
end K02
set_option Elab.async false
set_option linter.all false
set_option maxRecDepth 100000
set_option maxHeartbeats 1000000
namespace K02
open PySem PySem.Spec PyProof.Rows L2 NV
local macro_rules | `(tactic| walk_at "nv") => `(tactic| first
  | assumption
  | exact E_cst | exact AA_nil | exact RR_nil | exact O_nil | exact S_nil | exact SF_rt | exact E_gc | exact E_edict | exact FL_nil
  | exact A_pk rfl | apply A_v (hm := rfl) | apply AA_cons | apply RR_cons | apply O_some (hm := rfl)
  | apply S_seq | apply SF_nx | apply S_asg | apply S_ite | apply S_ret | exact S_mvv rfl | exact S_mvo rfl | apply S_put | apply S_par | apply S_expr | apply S_tgt | apply S_forr
  | apply E_op2 | apply E_bi | apply E_me | apply E_isi | apply E_not | apply E_ite | apply E_and | apply E_or | apply E_tup | apply E_lst | apply E_sl | apply E_call | apply E_nm | apply E_neg | apply E_mut | apply E_heap | apply I_rng | apply E_chain
  | apply SB_t (hb := by first | rfl | assumption | (rw [Bool.not_eq_true']; assumption) | (rw [Bool.not_eq_false']; assumption)) | apply SB_f (hb := by first | rfl | assumption | (rw [Bool.not_eq_true']; assumption) | (rw [Bool.not_eq_false']; assumption)) | apply EB_t (hb := by first | rfl | assumption | (rw [Bool.not_eq_true']; assumption) | (rw [Bool.not_eq_false']; assumption)) | apply EB_f (hb := by first | rfl | assumption | (rw [Bool.not_eq_true']; assumption) | (rw [Bool.not_eq_false']; assumption)) | apply CH_t (hb := by first | rfl | assumption | (rw [Bool.not_eq_true']; assumption) | (rw [Bool.not_eq_false']; assumption)) | exact CH_f (hb := by first | rfl | assumption | (rw [Bool.not_eq_true']; assumption) | (rw [Bool.not_eq_false']; assumption))
  | exact p_add | exact p_sub | exact ⟨rfl⟩ | exact List.Pairwise.nil | exact List.pairwise_singleton .. | rfl | decide)
mutual
def isF : W → Bool
  | .tup l => isFl l
  | _ => false
def isFl : List W → Bool
  | .str h :: r => formed (.tup (.str h :: r)) && (if isBE h then isFs r else true)
  | _ => false
def isFs : List W → Bool
  | [] => true
  | a :: r => isF a && isFs r
end
mutual
def sizeF : W → Nat
  | .tup l => sizeFl l
  | _ => 1
def sizeFl : List W → Nat
  | .str h :: r => 1 + (if isBE h then sizeFs r else 0)
  | _ => 1
def sizeFs : List W → Nat
  | [] => 0
  | a :: r => sizeF a + sizeFs r
end
mutual
def depthF : W → Nat
  | .tup l => depthFl l
  | _ => 1
def depthFl : List W → Nat
  | .str h :: r => 1 + (if isBE h then depthFs r else 0)
  | _ => 1
def depthFs : List W → Nat
  | [] => 0
  | a :: r => max (depthF a) (depthFs r)
end
/-- what stands within -/
def innerW : W → List W
  | .tup (.str h :: r) => if isBE h then r else []
  | _ => []
/-- an item of the stack -/
def item (v : W) (d : Int) : W := .tup [v, .int d]
/-- the slots within is_formula_in -/
def dfsE (v0 : W) (st : List W) (m : Int) (xy : Option (W × W)) : NV.Env := match xy with
  | none => [some (.val v0), some (.own (false, st)), some (.val (.int m)), none, none, none]
  | some p => [some (.val v0), some (.own (false, st)), some (.val (.int m)), some (.val p.1), some (.val p.2), none]
theorem f_inner (n : Nat) (v : W) (S : Sto) (h : formed v = true) : CC (callT T (n + 1)) i_inner_of [.val v] S (.fresh (innerW v)) [some (.val v)] S := by
  cases v <;> first | (simp only [formed] at h; cases h; done) | skip
  rename_i l
  cases l with
  | nil => simp only [formed] at h; cases h
  | cons a r =>
    cases a <;> first | (simp only [formed] at h; cases h; done) | skip
    exact f_inner_of n _ r S
theorem dfs_lc (n : Nat) (v0 v : W) (st : List W) (m d : Int) (S : Sto) (hf : formed v = true) (hl : (innerW v).length ≤ 1000) :
    EV (callT T (n + 1)) (.lc [5] (.seq (.call 1 (.cons (.nm 3) .nil))) (.tnm 5) (.cst (.bl true)) (.tup (.cons (.nm 5) (.cons (.op2 (.bin .Add) (.pk 4) (.cst (.int 1))) .nil)))) (dfsE v0 st m (some (v, .int d))) S (.fresh ((innerW v).map fun w => item w (d + 1))) (dfsE v0 st m (some (v, .int d))) S := by
  have hc := f_inner n v S hf
  have hi : II (callT T (n + 1)) (.seq (.call 1 (.cons (.nm 3) .nil))) (dfsE v0 st m (some (v, .int d))) S (innerW v) (dfsE v0 st m (some (v, .int d))) S := by
    refine I_seq (r := .fresh (innerW v)) ?_ (.inl rfl)
    unfold dfsE
    repeat (walk_at "nv")
  have q := E_lcp (own := [5]) (tgt := .tnm 5) (cond := .cst (.bl true)) (elt := .tup (.cons (.nm 5) (.cons (.op2 (.bin .Add) (.pk 4) (.cst (.int 1))) .nil))) (P := fun _ => true) (g := fun w => item w (d + 1)) hi rfl (fun w hw => ?_) (Nat.le_trans hl line1000)
  · rw [List.filter_eq_self.mpr (fun _ _ => rfl)] at q
    exact q
  · refine ⟨[some (.val v0), some (.own (false, st)), some (.val (.int m)), some (.val v), some (.val (.int d)), some (.val w)], rfl, _, E_cst, fun _ => ⟨.val (item w (d + 1)), [some (.val v0), some (.own (false, st)), some (.val (.int m)), some (.val v), some (.val (.int d)), some (.val w)], ?_, rfl, rfl⟩, fun h => nomatch h⟩
    show EV _ _ _ _ (.val (.tup [w, .int (d + 1)])) _ _
    repeat (walk_at "nv")
def dfsB : MS := (.seq (.tgt (.ttup (.cons (.tnm 3) (.cons (.tnm 4) .nil))) (.mut .pop 1 .nil))
    (.seq (.asg 2 (.op2 (.bin .Add) (.pk 2) (.cst (.int 1))))
    (.seq (.ite (.or (.op2 (.cmp .Gt) (.pk 2) (.gc "MOST_FORMULAS" (.int 60))) (.or (.op2 (.cmp .Gt) (.pk 4) (.gc "MOST_WITHIN" (.int 20))) (.not (.call 2 (.cons (.nm 3) .nil))))) (.seq (.ret (.cst (.bl false)))
    .nil) .nil)
    (.seq (.expr (.mut .extend 1 (.cons (.lc [5] (.seq (.call 1 (.cons (.nm 3) .nil))) (.tnm 5) (.cst (.bl true)) (.tup (.cons (.nm 5) (.cons (.op2 (.bin .Add) (.pk 4) (.cst (.int 1))) .nil)))) .nil)))
    .nil))))
theorem dfs_go (n : Nat) (v0 v : W) (st : List W) (m d : Int) (xy : Option (W × W)) (S : Sto) (hv : gdW v = true) (hf : formed v = true) (hm : m + 1 ≤ 60) (hd : d ≤ 20) (hl : st.length + (innerW v).length ≤ 1000) :
    SS (callT T (n + 2)) dfsB (dfsE v0 (st ++ [item v d]) m xy) S .nx (dfsE v0 (st ++ (innerW v).map fun w => item w (d + 1)) (m + 1) (some (v, .int d))) S := by
  have h1 := g_is_formed n v S hv
  rw [hf] at h1
  have h2 := dfs_lc (n + 1) v0 v st (m + 1) d S hf (by omega)
  have h3 : ∀ ρ S, muE .pop (st ++ [item v d]) ρ S [] = some (item v d, st) := fun ρ S => mu_pop
  have h4 : ∀ ρ S, muE .extend st ρ S [.val (.lst ((innerW v).map fun w => item w (d + 1)))] = some (.non, st ++ (innerW v).map fun w => item w (d + 1)) := fun ρ S => mu_ext (by rw [List.length_map]; exact Nat.le_trans hl line1000)
  have d1 : decide ((60 : Int) < m + 1) = false := decide_eq_false (by omega)
  have d2 : decide ((20 : Int) < d) = false := decide_eq_false (by omega)
  unfold dfsB
  cases xy <;> unfold dfsE <;> unfold dfsE at h2 <;> repeat (first | exact h3 _ _ | exact h4 _ _ | walk_at "nv")
theorem dfs_no (n : Nat) (v0 v : W) (st : List W) (m d : Int) (xy : Option (W × W)) (S : Sto) (hv : gdW v = true) (h : 60 < m + 1 ∨ 20 < d ∨ formed v = false) :
    ∃ ρ', SS (callT T (n + 2)) dfsB (dfsE v0 (st ++ [item v d]) m xy) S (.rt (.val (.bl false))) ρ' S := by
  have h1 := g_is_formed n v S hv
  have h3 : ∀ ρ S, muE .pop (st ++ [item v d]) ρ S [] = some (item v d, st) := fun ρ S => mu_pop
  unfold dfsB
  by_cases c1 : 60 < m + 1
  · have d1 : decide ((60 : Int) < m + 1) = true := decide_eq_true c1
    cases xy <;> unfold dfsE <;> apply Exists.intro <;> repeat (first | exact h3 _ _ | walk_at "nv")
  · have d1 : decide ((60 : Int) < m + 1) = false := decide_eq_false c1
    by_cases c2 : 20 < d
    · have d2 : decide ((20 : Int) < d) = true := decide_eq_true c2
      cases xy <;> unfold dfsE <;> apply Exists.intro <;> repeat (first | exact h3 _ _ | walk_at "nv")
    · have d2 : decide ((20 : Int) < d) = false := decide_eq_false c2
      have h5 : formed v = false := by
        rcases h with h | h | h
        · exact absurd h c1
        · exact absurd h c2
        · exact h
      rw [h5] at h1
      cases xy <;> unfold dfsE <;> apply Exists.intro <;> repeat (first | exact h3 _ _ | walk_at "nv")
end K02
set_option Elab.async false
set_option linter.all false
set_option maxRecDepth 100000
set_option maxHeartbeats 1000000
namespace K02
open PySem PySem.Spec PyProof.Rows L2 NV
local macro_rules | `(tactic| walk_at "nv") => `(tactic| first
  | assumption
  | exact E_cst | exact AA_nil | exact RR_nil | exact O_nil | exact S_nil | exact SF_rt | exact E_gc | exact E_edict | exact FL_nil
  | exact A_pk rfl | apply A_v (hm := rfl) | apply AA_cons | apply RR_cons | apply O_some (hm := rfl)
  | apply S_seq | apply SF_nx | apply S_asg | apply S_ite | apply S_ret | exact S_mvv rfl | exact S_mvo rfl | apply S_put | apply S_par | apply S_expr | apply S_tgt | apply S_forr
  | apply E_op2 | apply E_bi | apply E_me | apply E_isi | apply E_not | apply E_ite | apply E_and | apply E_or | apply E_tup | apply E_lst | apply E_sl | apply E_call | apply E_nm | apply E_neg | apply E_mut | apply E_heap | apply I_rng | apply E_chain
  | apply SB_t (hb := by first | rfl | assumption | (rw [Bool.not_eq_true']; assumption) | (rw [Bool.not_eq_false']; assumption)) | apply SB_f (hb := by first | rfl | assumption | (rw [Bool.not_eq_true']; assumption) | (rw [Bool.not_eq_false']; assumption)) | apply EB_t (hb := by first | rfl | assumption | (rw [Bool.not_eq_true']; assumption) | (rw [Bool.not_eq_false']; assumption)) | apply EB_f (hb := by first | rfl | assumption | (rw [Bool.not_eq_true']; assumption) | (rw [Bool.not_eq_false']; assumption)) | apply CH_t (hb := by first | rfl | assumption | (rw [Bool.not_eq_true']; assumption) | (rw [Bool.not_eq_false']; assumption)) | exact CH_f (hb := by first | rfl | assumption | (rw [Bool.not_eq_true']; assumption) | (rw [Bool.not_eq_false']; assumption))
  | exact p_add | exact p_sub | exact ⟨rfl⟩ | exact List.Pairwise.nil | exact List.pairwise_singleton .. | rfl | decide)
theorem step_F {v : W} (h : formed v = true) : isF v = isFs (innerW v) ∧ sizeF v = 1 + sizeFs (innerW v) ∧ depthF v = 1 + depthFs (innerW v) := by
  cases v <;> first | (simp only [formed] at h; cases h; done) | skip
  rename_i l
  cases l with
  | nil => simp only [formed] at h; cases h
  | cons a r =>
    cases a <;> first | (simp only [formed] at h; cases h; done) | skip
    rename_i z
    simp only [isF, isFl, sizeF, sizeFl, depthF, depthFl, innerW, h, Bool.true_and]
    cases isBE z <;> simp [isFs, sizeFs, depthFs]
theorem isF_formed {v : W} (h : isF v = true) : formed v = true := by
  cases v <;> first | (simp only [isF] at h; cases h; done) | skip
  rename_i l
  cases l with
  | nil => simp only [isF, isFl] at h; cases h
  | cons a r =>
    cases a <;> first | (simp only [isF, isFl] at h; cases h; done) | skip
    simp only [isF, isFl, Bool.and_eq_true] at h
    exact h.1
theorem size_pos : ∀ v : W, 1 ≤ sizeF v
  | .tup l => by
    unfold sizeF
    cases l with
    | nil => unfold sizeFl; omega
    | cons a r => cases a <;> unfold sizeFl <;> omega
  | .non | .bl _ | .int _ | .str _ | .lst _ | .dct _ _ | .flst _ | .fn _ | .ref _ | .exc _ _ => by unfold sizeF; omega
theorem depth_pos : ∀ v : W, 1 ≤ depthF v
  | .tup l => by
    unfold depthF
    cases l with
    | nil => unfold depthFl; omega
    | cons a r => cases a <;> unfold depthFl <;> omega
  | .non | .bl _ | .int _ | .str _ | .lst _ | .dct _ _ | .flst _ | .fn _ | .ref _ | .exc _ _ => by unfold depthF; omega
def okI (p : W × Int) : Bool := isF p.1 && decide (p.2 + depthF p.1 ≤ 21)
def sumS : List (W × Int) → Nat
  | [] => 0
  | p :: r => sizeF p.1 + sumS r
theorem sumS_app : ∀ {a b : List (W × Int)}, sumS (a ++ b) = sumS a + sumS b
  | [], b => by simp [sumS]
  | p :: a, b => by simp only [List.cons_append, sumS, sumS_app (a := a) (b := b)]; omega
theorem sumS_in {d : Int} : ∀ {l : List W}, sumS (l.map fun w => (w, d)) = sizeFs l
  | [] => rfl
  | a :: l => by simp only [List.map_cons, sumS, sizeFs, sumS_in (l := l)]
theorem okI_in {d : Int} : ∀ {l : List W}, d ≤ 21 → (l.map fun w => (w, d)).all okI = (isFs l && decide (d + depthFs l ≤ 21))
  | [], h => by simp [isFs, depthFs, h]
  | a :: l, h => by
    rw [List.map_cons, List.all_cons, okI_in h]
    have hM : depthFs (a :: l) = max (depthF a) (depthFs l) := by simp only [depthFs]
    rw [Bool.eq_iff_iff]
    simp only [okI, isFs, Bool.and_eq_true, decide_eq_true_eq]
    constructor
    · rintro ⟨⟨h1, h2⟩, h3, h4⟩; exact ⟨⟨h1, h3⟩, by omega⟩
    · rintro ⟨⟨h1, h3⟩, h4⟩; exact ⟨⟨h1, by omega⟩, h3, by omega⟩
def specD (st : List (W × Int)) (m : Int) : Bool := st.all okI && decide (m + sumS st ≤ 60)
theorem spec_no {st : List (W × Int)} {v : W} {m d : Int} (h : 60 < m + 1 ∨ 20 < d ∨ formed v = false) : specD (st ++ [(v, d)]) m = false := by
  unfold specD
  rw [Bool.eq_false_iff]
  intro z
  simp only [List.all_append, List.all_cons, List.all_nil, Bool.and_true, Bool.and_eq_true, decide_eq_true_eq, sumS_app, sumS, okI] at z
  have h1 := size_pos v
  have h2 := depth_pos v
  rcases h with h | h | h
  · omega
  · omega
  · rw [isF_formed z.1.2.1] at h; cases h
theorem spec_go {st : List (W × Int)} {v : W} {m d : Int} (hd : d ≤ 20) (hf : formed v = true) : specD (st ++ [(v, d)]) m = specD (st ++ (innerW v).map fun w => (w, d + 1)) (m + 1) := by
  obtain ⟨e1, e2, e3⟩ := step_F hf
  unfold specD
  rw [List.all_append, List.all_append, sumS_app, sumS_app, sumS_in, okI_in (by omega)]
  simp only [List.all_cons, List.all_nil, Bool.and_true, okI, sumS, e1, e2, e3]
  rw [Bool.eq_iff_iff]
  simp only [Bool.and_eq_true, decide_eq_true_eq]
  constructor
  · rintro ⟨⟨h1, h2, h3⟩, h4⟩; exact ⟨⟨h1, h2, by omega⟩, by omega⟩
  · rintro ⟨⟨h1, h2, h3⟩, h4⟩; exact ⟨⟨h1, h2, by omega⟩, by omega⟩
end K02
set_option Elab.async false
set_option linter.all false
set_option maxRecDepth 100000
set_option maxHeartbeats 1000000
namespace K02
open PySem PySem.Spec PyProof.Rows L2 NV
local macro_rules | `(tactic| walk_at "nv") => `(tactic| first
  | assumption
  | exact E_cst | exact AA_nil | exact RR_nil | exact O_nil | exact S_nil | exact SF_rt | exact E_gc | exact E_edict | exact FL_nil
  | exact A_pk rfl | apply A_v (hm := rfl) | apply AA_cons | apply RR_cons | apply O_some (hm := rfl)
  | apply S_seq | apply SF_nx | apply S_asg | apply S_ite | apply S_ret | exact S_mvv rfl | exact S_mvo rfl | apply S_put | apply S_par | apply S_expr | apply S_tgt | apply S_forr
  | apply E_op2 | apply E_bi | apply E_me | apply E_isi | apply E_not | apply E_ite | apply E_and | apply E_or | apply E_tup | apply E_lst | apply E_sl | apply E_call | apply E_nm | apply E_neg | apply E_mut | apply E_heap | apply I_rng | apply E_chain
  | apply SB_t (hb := by first | rfl | assumption | (rw [Bool.not_eq_true']; assumption) | (rw [Bool.not_eq_false']; assumption)) | apply SB_f (hb := by first | rfl | assumption | (rw [Bool.not_eq_true']; assumption) | (rw [Bool.not_eq_false']; assumption)) | apply EB_t (hb := by first | rfl | assumption | (rw [Bool.not_eq_true']; assumption) | (rw [Bool.not_eq_false']; assumption)) | apply EB_f (hb := by first | rfl | assumption | (rw [Bool.not_eq_true']; assumption) | (rw [Bool.not_eq_false']; assumption)) | apply CH_t (hb := by first | rfl | assumption | (rw [Bool.not_eq_true']; assumption) | (rw [Bool.not_eq_false']; assumption)) | exact CH_f (hb := by first | rfl | assumption | (rw [Bool.not_eq_true']; assumption) | (rw [Bool.not_eq_false']; assumption))
  | exact p_add | exact p_sub | exact ⟨rfl⟩ | exact List.Pairwise.nil | exact List.pairwise_singleton .. | rfl | decide)
theorem items_gd : ∀ {st : List (W × Int)}, (∀ p ∈ st, gdW p.1 = true) → gdWs (st.map fun p => item p.1 p.2) = true
  | [], _ => rfl
  | p :: st, h => by
    rw [List.map_cons]
    simp only [gdWs, item, gdW, Bool.and_eq_true]
    exact ⟨⟨by simp, h p (List.mem_cons_self ..), by simp⟩, items_gd fun q hq => h q (List.mem_cons_of_mem _ hq)⟩
theorem inner_gd {v : W} (h : gdW v = true) (hf : formed v = true) : (∀ w ∈ innerW v, gdW w = true) ∧ (innerW v).length ≤ 2 := by
  cases v <;> first | (simp only [formed] at hf; cases hf; done) | skip
  rename_i l
  cases l with
  | nil => simp only [formed] at hf; cases hf
  | cons a r =>
    cases a <;> first | (simp only [formed] at hf; cases hf; done) | skip
    rename_i z
    have hr : gdWs r = true := by
      simp only [gdW, gdWs, Bool.and_eq_true] at h
      exact h.2.2
    have all : ∀ {r : List W}, gdWs r = true → ∀ w ∈ r, gdW w = true := fun {r} => by
      induction r with
      | nil => intro _ w hw; cases hw
      | cons a r ih =>
        intro h w hw
        simp only [gdWs, Bool.and_eq_true] at h
        rcases List.mem_cons.mp hw with e | hw
        · rw [e]; exact h.1
        · exact ih h.2 w hw
    simp only [innerW]
    cases hb : isBE z with
    | false => simp
    | true =>
      rw [if_pos rfl]
      refine ⟨all hr, ?_⟩
      simp only [formed] at hf
      split at hf
      · rename_i hi
        exfalso
        unfold isIN at hi
        unfold isBE at hb
        simp only [Bool.or_eq_true, decide_eq_true_eq] at hi hb
        rcases hi with e | e <;> rcases hb with e2 | e2 <;> (rw [e] at e2; exact absurd e2 (by decide))
      · rw [Bool.and_eq_true, decide_eq_true_eq] at hf
        omega
theorem dfs_loop (n : Nat) (v0 : W) (S : Sto) : ∀ (fuel : Nat) (st : List (W × Int)) (m : Int) (xy : Option (W × W)), (∀ p ∈ st, gdW p.1 = true) → 0 ≤ m → m ≤ 60 → (st.length : Int) ≤ m + 1 → 61 ≤ fuel + m →
    ∃ f ρ', WL (callT T (n + 2)) (.op2 (.cmp .NotEq) (.pk 1) (.lst .nil)) dfsB fuel (dfsE v0 (st.map fun p => item p.1 p.2) m xy) S f ρ' S ∧ (specD st m = true → f = .nx) ∧ (specD st m = false → f = .rt (.val (.bl false)))
  | 0, st, m, xy, _, _, h2, _, h4 => by omega
  | fuel + 1, st, m, xy, hg, h1, h2, h3, h4 => by
    obtain ⟨xs, hx⟩ := gds_toD (items_gd hg)
    have hne := p_nenil hx
    rcases List.eq_nil_or_concat st with rfl | ⟨st0, p, rfl⟩
    · have hne : PO (.cmp .NotEq) (.lst []) (.lst []) (.val (.bl false)) := hne
      refine ⟨.nx, dfsE v0 [] m xy, ?_, fun _ => rfl, fun h => ?_⟩
      · apply W_stop
        cases xy <;> unfold dfsE <;> repeat (walk_at "nv")
      · exfalso
        have : specD [] m = true := by unfold specD; simp [sumS]; omega
        rw [this] at h; cases h
    · obtain ⟨v, d⟩ := p
      rw [List.concat_eq_append] at hg h3 hne ⊢
      rw [List.map_append] at hne ⊢
      have hv : gdW v = true := hg (v, d) (by simp)
      have hne : PO (.cmp .NotEq) (.lst (st0.map (fun p => item p.1 p.2) ++ [item v d])) (.lst []) (.val (.bl true)) := by
        have e : (st0.map (fun p => item p.1 p.2) ++ [(v, d)].map (fun p => item p.1 p.2)).isEmpty = false := by simp
        rw [e] at hne
        exact hne
      have ht : EV (callT T (n + 2)) (.op2 (.cmp .NotEq) (.pk 1) (.lst .nil)) (dfsE v0 (st0.map (fun p => item p.1 p.2) ++ [item v d]) m xy) S (.val (.bl true)) (dfsE v0 (st0.map (fun p => item p.1 p.2) ++ [item v d]) m xy) S := by
        cases xy <;> unfold dfsE <;> repeat (walk_at "nv")
      rw [List.length_append, List.length_singleton] at h3
      by_cases c : 60 < m + 1 ∨ 20 < d ∨ formed v = false
      · obtain ⟨ρ', hno⟩ := dfs_no n v0 v (st0.map fun p => item p.1 p.2) m d xy S hv c
        refine ⟨_, ρ', W_ret ht hno, fun h => ?_, fun _ => rfl⟩
        rw [spec_no c] at h; cases h
      · have c1 : m + 1 ≤ 60 := by omega
        have c2 : d ≤ 20 := by omega
        have c3 : formed v = true := by
          cases q : formed v with
          | true => rfl
          | false => exact absurd (.inr (.inr q)) c
        obtain ⟨ig, il⟩ := inner_gd hv c3
        have go := dfs_go n v0 v (st0.map fun p => item p.1 p.2) m d xy S hv c3 c1 c2 (by rw [List.length_map]; omega)
        obtain ⟨f, ρ', k1, k2, k3⟩ := dfs_loop n v0 S fuel (st0 ++ (innerW v).map fun w => (w, d + 1)) (m + 1) (some (v, .int d)) (fun p hp => by
          rcases List.mem_append.mp hp with hp | hp
          · exact hg p (List.mem_append_left _ hp)
          · obtain ⟨w, hw, rfl⟩ := List.mem_map.mp hp
            exact ig w hw) (by omega) c1 (by rw [List.length_append, List.length_map]; omega) (by omega)
        rw [List.map_append, List.map_map] at k1
        rw [spec_go c2 c3]
        exact ⟨f, ρ', W_go ht go k1, k2, k3⟩
end K02
set_option Elab.async false
set_option linter.all false
set_option maxRecDepth 100000
set_option maxHeartbeats 1000000
namespace K02
open PySem PySem.Spec PyProof.Rows L2 NV
local macro_rules | `(tactic| walk_at "nv") => `(tactic| first
  | assumption
  | exact E_cst | exact AA_nil | exact RR_nil | exact O_nil | exact S_nil | exact SF_rt | exact E_gc | exact E_edict | exact FL_nil
  | exact A_pk rfl | apply A_v (hm := rfl) | apply AA_cons | apply RR_cons | apply O_some (hm := rfl)
  | apply S_seq | apply SF_nx | apply S_asg | apply S_ite | apply S_ret | exact S_mvv rfl | exact S_mvo rfl | apply S_put | apply S_par | apply S_expr | apply S_tgt | apply S_forr
  | apply E_op2 | apply E_bi | apply E_me | apply E_isi | apply E_not | apply E_ite | apply E_and | apply E_or | apply E_tup | apply E_lst | apply E_sl | apply E_call | apply E_nm | apply E_neg | apply E_mut | apply E_heap | apply I_rng | apply E_chain
  | apply SB_t (hb := by first | rfl | assumption | (rw [Bool.not_eq_true']; assumption) | (rw [Bool.not_eq_false']; assumption)) | apply SB_f (hb := by first | rfl | assumption | (rw [Bool.not_eq_true']; assumption) | (rw [Bool.not_eq_false']; assumption)) | apply EB_t (hb := by first | rfl | assumption | (rw [Bool.not_eq_true']; assumption) | (rw [Bool.not_eq_false']; assumption)) | apply EB_f (hb := by first | rfl | assumption | (rw [Bool.not_eq_true']; assumption) | (rw [Bool.not_eq_false']; assumption)) | apply CH_t (hb := by first | rfl | assumption | (rw [Bool.not_eq_true']; assumption) | (rw [Bool.not_eq_false']; assumption)) | exact CH_f (hb := by first | rfl | assumption | (rw [Bool.not_eq_true']; assumption) | (rw [Bool.not_eq_false']; assumption))
  | exact p_add | exact p_sub | exact ⟨rfl⟩ | exact List.Pairwise.nil | exact List.pairwise_singleton .. | rfl | decide)
/-- a formula of the bounds -/
def isFm (v : W) : Bool := isF v && (decide (depthF v ≤ 20) && decide (sizeF v ≤ 60))
theorem specD_one (v : W) : specD [(v, 1)] 0 = isFm v := by
  unfold specD isFm
  have e : sumS [(v, 1)] = sizeF v := by simp [sumS]
  rw [e, List.all_cons, List.all_nil, Bool.and_true]
  simp only [okI]
  rw [Bool.eq_iff_iff]
  simp only [Bool.and_eq_true, decide_eq_true_eq]
  constructor
  · rintro ⟨⟨h1, h2⟩, h3⟩; exact ⟨h1, by omega, by omega⟩
  · rintro ⟨h1, h2, h3⟩; exact ⟨⟨h1, by omega⟩, by omega⟩
theorem g_is_formula_in (n : Nat) (v : W) (S : Sto) (h : gdW v = true) : CC (callT T (n + 3)) i_is_formula_in [.val v] S (.val (.bl (isFm v))) [some (.val v)] S := by
  obtain ⟨f, ρ', k1, k2, k3⟩ := dfs_loop n v S 4096 [(v, 1)] 0 none (fun p hp => by rw [List.mem_singleton] at hp; rw [hp]; exact h) (by omega) (by omega) (by simp) (by omega)
  rw [specD_one] at k2 k3
  have k1 : WL (callT T (n + 2)) (.op2 (.cmp .NotEq) (.pk 1) (.lst .nil)) dfsB 4096 [some (.val v), some (.own (false, [.tup [v, .int 1]])), some (.val (.int 0)), none, none, none] S f ρ' S := k1
  cases hb : isFm v with
  | true =>
    rw [k2 hb] at k1
    have hw := S_whl k1
    apply run_rt (hD := rfl) (hl := rfl)
    · show SS _ m_is_formula_in [some (.val v), none, none, none, none, none] _ _ _ _
      repeat (walk_at "nv")
    · cases ρ' <;> rfl
  | false =>
    rw [k3 hb] at k1
    have hw := S_whl k1
    apply run_rt (hD := rfl) (hl := rfl)
    · show SS _ m_is_formula_in [some (.val v), none, none, none, none, none] _ _ _ _
      repeat (walk_at "nv")
    · cases ρ' <;> rfl
end K02
set_option Elab.async false
set_option linter.all false
set_option maxRecDepth 100000
set_option maxHeartbeats 1000000
namespace K02
open PySem PySem.Spec PyProof.Rows L2 NV
local macro_rules | `(tactic| walk_at "nv") => `(tactic| first
  | assumption
  | exact E_cst | exact AA_nil | exact RR_nil | exact O_nil | exact S_nil | exact SF_rt | exact E_gc | exact E_edict | exact FL_nil
  | exact A_pk rfl | apply A_v (hm := rfl) | apply AA_cons | apply RR_cons | apply O_some (hm := rfl)
  | apply S_seq | apply SF_nx | apply S_asg | apply S_ite | apply S_ret | exact S_mvv rfl | exact S_mvo rfl | apply S_put | apply S_par | apply S_expr | apply S_tgt | apply S_forr
  | apply E_op2 | apply E_bi | apply E_me | apply E_isi | apply E_not | apply E_ite | apply E_and | apply E_or | apply E_tup | apply E_lst | apply E_sl | apply E_call | apply E_nm | apply E_neg | apply E_mut | apply E_heap | apply I_rng | apply E_chain
  | apply SB_t (hb := by first | rfl | assumption | (rw [Bool.not_eq_true']; assumption) | (rw [Bool.not_eq_false']; assumption)) | apply SB_f (hb := by first | rfl | assumption | (rw [Bool.not_eq_true']; assumption) | (rw [Bool.not_eq_false']; assumption)) | apply EB_t (hb := by first | rfl | assumption | (rw [Bool.not_eq_true']; assumption) | (rw [Bool.not_eq_false']; assumption)) | apply EB_f (hb := by first | rfl | assumption | (rw [Bool.not_eq_true']; assumption) | (rw [Bool.not_eq_false']; assumption)) | apply CH_t (hb := by first | rfl | assumption | (rw [Bool.not_eq_true']; assumption) | (rw [Bool.not_eq_false']; assumption)) | exact CH_f (hb := by first | rfl | assumption | (rw [Bool.not_eq_true']; assumption) | (rw [Bool.not_eq_false']; assumption))
  | exact p_add | exact p_sub | exact ⟨rfl⟩ | exact List.Pairwise.nil | exact List.pairwise_singleton .. | rfl | decide)
theorem g_is_formula (n : Nat) (v : W) (S : Sto) (h : gdW v = true) : CC (callT T (n + 4)) i_is_formula [.val v] S (.val (.bl (isFm v))) [some (.val v)] S := by
  have h1 := g_is_formula_in n v S h
  apply run_rt (hD := rfl) (hl := rfl)
  · show SS _ m_is_formula [some (.val v)] _ _ _ _
    repeat (walk_at "nv")
  · rfl
theorem g_check (n : Nat) (v : W) (S : Sto) (h : gdW v = true) (hf : isFm v = true) : CC (callT T (n + 4)) i_check_formula [.val v] S (.val .non) [some (.val v)] S := by
  have h1 := g_is_formula_in n v S h
  rw [hf] at h1
  apply run_nx (hD := rfl) (hl := rfl)
  · show SS _ m_check_formula [some (.val v)] _ _ _ _
    repeat (walk_at "nv")
  · rfl
end K02
set_option Elab.async false
set_option linter.all false
set_option maxRecDepth 100000
set_option maxHeartbeats 1000000
namespace K02
open PySem PySem.Spec PyProof.Rows L2 NV
local macro_rules | `(tactic| walk_at "nv") => `(tactic| first
  | assumption
  | exact E_cst | exact AA_nil | exact RR_nil | exact O_nil | exact S_nil | exact SF_rt | exact E_gc | exact E_edict | exact FL_nil
  | exact A_pk rfl | apply A_v (hm := rfl) | apply AA_cons | apply RR_cons | apply O_some (hm := rfl)
  | apply S_seq | apply SF_nx | apply S_asg | apply S_ite | apply S_ret | exact S_mvv rfl | exact S_mvo rfl | apply S_put | apply S_par | apply S_expr | apply S_tgt | apply S_forr
  | apply E_op2 | apply E_bi | apply E_me | apply E_isi | apply E_not | apply E_ite | apply E_and | apply E_or | apply E_tup | apply E_lst | apply E_sl | apply E_call | apply E_nm | apply E_neg | apply E_mut | apply E_heap | apply I_rng | apply E_chain
  | apply SB_t (hb := by first | rfl | assumption | (rw [Bool.not_eq_true']; assumption) | (rw [Bool.not_eq_false']; assumption)) | apply SB_f (hb := by first | rfl | assumption | (rw [Bool.not_eq_true']; assumption) | (rw [Bool.not_eq_false']; assumption)) | apply EB_t (hb := by first | rfl | assumption | (rw [Bool.not_eq_true']; assumption) | (rw [Bool.not_eq_false']; assumption)) | apply EB_f (hb := by first | rfl | assumption | (rw [Bool.not_eq_true']; assumption) | (rw [Bool.not_eq_false']; assumption)) | apply CH_t (hb := by first | rfl | assumption | (rw [Bool.not_eq_true']; assumption) | (rw [Bool.not_eq_false']; assumption)) | exact CH_f (hb := by first | rfl | assumption | (rw [Bool.not_eq_true']; assumption) | (rw [Bool.not_eq_false']; assumption))
  | exact p_add | exact p_sub | exact ⟨rfl⟩ | exact List.Pairwise.nil | exact List.pairwise_singleton .. | rfl | decide)
def Fm.turn : Fm → Fm
  | .lit neg z => .lit (!neg) z
  | .bin e a b => .bin (!e) a.turn b.turn
theorem Fm.turn_turn : ∀ F : Fm, F.turn.turn = F
  | .lit neg z => by simp [Fm.turn]
  | .bin e a b => by simp [Fm.turn, Fm.turn_turn a, Fm.turn_turn b]
theorem Fm.turn_ok : ∀ {F : Fm}, F.ok → F.turn.ok
  | .lit _ _, h => h
  | .bin _ _ _, h => ⟨Fm.turn_ok h.1, Fm.turn_ok h.2⟩
theorem Fm.turn_depth : ∀ F : Fm, F.turn.depth = F.depth
  | .lit _ _ => rfl
  | .bin _ a b => by simp only [Fm.turn, Fm.depth, Fm.turn_depth a, Fm.turn_depth b]
theorem Fm.depth_pos : ∀ F : Fm, 1 ≤ F.depth
  | .lit _ _ => Nat.le_refl _
  | .bin _ _ _ => by simp only [Fm.depth]; omega
theorem f_turned_lit (n : Nat) (neg : Bool) (z : Str) (S : Sto) : CC (callT T (n + 1)) i_turned_in [.val (Fm.w (.lit neg z))] S (.val (Fm.w (.lit (!neg) z))) [some (.val (Fm.w (.lit neg z)))] S := by
  cases neg with
  | false =>
    have h1 : PO .ix (.tup [.str "is", .str z]) (.int 0) (.val (.str "is")) := p_ixt rfl
    have h2 : PO .ix (.tup [.str "is", .str z]) (.int 1) (.val (.str z)) := p_ixt rfl
    have h3 : PO (.cmp .In) (.str "is") (.tup [.str "is", .str "not"]) (.val (.bl true)) := p_in2
    have h4 : pIx (.dct [.str "is", .str "not", .str "both", .str "either"] [.str "not", .str "is", .str "either", .str "both"]) (.str "is") = some (.str "not") := by kernel_rfl
    show CC _ _ [.val (.tup [.str "is", .str z])] _ (.val (.tup [.str "not", .str z])) _ _
    apply run_rt (hD := rfl) (hl := rfl)
    · show SS _ m_turned_in [some (.val (.tup [.str "is", .str z])), none] _ _ _ _
      repeat (first | walk_at "nv" | apply E_gd)
    · rfl
  | true =>
    have h1 : PO .ix (.tup [.str "not", .str z]) (.int 0) (.val (.str "not")) := p_ixt rfl
    have h2 : PO .ix (.tup [.str "not", .str z]) (.int 1) (.val (.str z)) := p_ixt rfl
    have h3 : PO (.cmp .In) (.str "not") (.tup [.str "is", .str "not"]) (.val (.bl true)) := p_in2
    have h4 : pIx (.dct [.str "is", .str "not", .str "both", .str "either"] [.str "not", .str "is", .str "either", .str "both"]) (.str "not") = some (.str "is") := by kernel_rfl
    show CC _ _ [.val (.tup [.str "not", .str z])] _ (.val (.tup [.str "is", .str z])) _ _
    apply run_rt (hD := rfl) (hl := rfl)
    · show SS _ m_turned_in [some (.val (.tup [.str "not", .str z])), none] _ _ _ _
      repeat (first | walk_at "nv" | apply E_gd)
    · rfl
/-- turned, as values -/
def flipW : W → W
  | .str h => if h = "is" then .str "not" else if h = "not" then .str "is" else if h = "both" then .str "either" else .str "both"
  | w => w
def turnW : W → W
  | .tup [h, x] => .tup [flipW h, x]
  | .tup [h, x, y] => .tup [flipW h, turnW x, turnW y]
  | w => w
theorem turnW_eq : ∀ F : Fm, turnW F.w = F.turn.w
  | .lit neg z => by cases neg <;> simp [Fm.w, Fm.turn, turnW, flipW] <;> decide
  | .bin e a b => by
    have h1 := turnW_eq a
    have h2 := turnW_eq b
    cases e <;> simp only [Fm.w, Fm.turn, turnW, h1, h2] <;> rfl
end K02
set_option Elab.async false
set_option linter.all false
set_option maxRecDepth 100000
set_option maxHeartbeats 1000000
namespace K02
open PySem PySem.Spec PyProof.Rows L2 NV
local macro_rules | `(tactic| walk_at "nv") => `(tactic| first
  | assumption
  | exact E_cst | exact AA_nil | exact RR_nil | exact O_nil | exact S_nil | exact SF_rt | exact E_gc | exact E_edict | exact FL_nil
  | exact A_pk rfl | apply A_v (hm := rfl) | apply AA_cons | apply RR_cons | apply O_some (hm := rfl)
  | apply S_seq | apply SF_nx | apply S_asg | apply S_ite | apply S_ret | exact S_mvv rfl | exact S_mvo rfl | apply S_put | apply S_par | apply S_expr | apply S_tgt | apply S_forr
  | apply E_op2 | apply E_bi | apply E_me | apply E_isi | apply E_not | apply E_ite | apply E_and | apply E_or | apply E_tup | apply E_lst | apply E_sl | apply E_call | apply E_nm | apply E_neg | apply E_mut | apply E_heap | apply I_rng | apply E_chain
  | apply SB_t (hb := by first | rfl | assumption | (rw [Bool.not_eq_true']; assumption) | (rw [Bool.not_eq_false']; assumption)) | apply SB_f (hb := by first | rfl | assumption | (rw [Bool.not_eq_true']; assumption) | (rw [Bool.not_eq_false']; assumption)) | apply EB_t (hb := by first | rfl | assumption | (rw [Bool.not_eq_true']; assumption) | (rw [Bool.not_eq_false']; assumption)) | apply EB_f (hb := by first | rfl | assumption | (rw [Bool.not_eq_true']; assumption) | (rw [Bool.not_eq_false']; assumption)) | apply CH_t (hb := by first | rfl | assumption | (rw [Bool.not_eq_true']; assumption) | (rw [Bool.not_eq_false']; assumption)) | exact CH_f (hb := by first | rfl | assumption | (rw [Bool.not_eq_true']; assumption) | (rw [Bool.not_eq_false']; assumption))
  | exact p_add | exact p_sub | exact ⟨rfl⟩ | exact List.Pairwise.nil | exact List.pairwise_singleton .. | rfl | decide)
theorem f_turned_bin (n : Nat) (e : Bool) (A B : Fm) (S : Sto) (hA : CC (callT T n) i_turned_in [.val A.w] S (.val A.turn.w) [some (.val A.w)] S) (hB : CC (callT T n) i_turned_in [.val B.w] S (.val B.turn.w) [some (.val B.w)] S) :
    CC (callT T (n + 1)) i_turned_in [.val (Fm.w (.bin e A B))] S (.val (Fm.w (.bin (!e) A.turn B.turn))) [some (.val (Fm.w (.bin e A B)))] S := by
  have hw : ∀ h : Str, EV (callT T n) (.lc [1] (.seq (.sl (.pk 0) (.cst (.int 1)) .nil)) (.tnm 1) (.cst (.bl true)) (.call 6 (.cons (.nm 1) .nil))) [some (.val (.tup [.str h, A.w, B.w])), none] S (.fresh [A.turn.w, B.turn.w]) [some (.val (.tup [.str h, A.w, B.w])), none] S := fun h => by
    have h1 := p_tail (a := .str h) (r := [A.w, B.w])
    have hi : II (callT T n) (.seq (.sl (.pk 0) (.cst (.int 1)) .nil)) [some (.val (.tup [.str h, A.w, B.w])), none] S [A.w, B.w] [some (.val (.tup [.str h, A.w, B.w])), none] S := by
      refine I_seq (r := .val (.tup [A.w, B.w])) ?_ (.inr (.inr rfl))
      repeat (walk_at "nv")
    have q := E_lcp (own := [1]) (tgt := .tnm 1) (cond := .cst (.bl true)) (elt := .call 6 (.cons (.nm 1) .nil)) (P := fun _ => true) (g := turnW) hi rfl (fun w hw => ?_) (by show 2 ≤ _; have := line1000; omega)
    · rw [List.filter_eq_self.mpr (fun _ _ => rfl)] at q
      have : [A.w, B.w].map turnW = [A.turn.w, B.turn.w] := by simp [turnW_eq]
      rw [this] at q
      exact q
    · have hc : CC (callT T n) i_turned_in [.val w] S (.val (turnW w)) [some (.val w)] S := by
        simp only [List.mem_cons, List.not_mem_nil, or_false] at hw
        rcases hw with rfl | rfl
        · rw [turnW_eq]; exact hA
        · rw [turnW_eq]; exact hB
      refine ⟨[some (.val (.tup [.str h, A.w, B.w])), some (.val w)], rfl, _, E_cst, fun _ => ⟨.val (turnW w), [some (.val (.tup [.str h, A.w, B.w])), some (.val w)], ?_, rfl, rfl⟩, fun h => nomatch h⟩
      repeat (walk_at "nv")
  cases e with
  | false =>
    have q := hw "both"
    have h1 : PO .ix (.tup [.str "both", A.w, B.w]) (.int 0) (.val (.str "both")) := p_ixt rfl
    have h3 : PO (.cmp .In) (.str "both") (.tup [.str "is", .str "not"]) (.val (.bl false)) := p_in2
    have h4 : pIx (.dct [.str "is", .str "not", .str "both", .str "either"] [.str "not", .str "is", .str "either", .str "both"]) (.str "both") = some (.str "either") := by kernel_rfl
    show CC _ _ [.val (.tup [.str "both", A.w, B.w])] _ (.val (.tup [.str "either", A.turn.w, B.turn.w])) _ _
    apply run_rt (hD := rfl) (hl := rfl)
    · show SS _ m_turned_in [some (.val (.tup [.str "both", A.w, B.w])), none] _ _ _ _
      repeat (first | walk_at "nv" | apply E_gd)
    · rfl
  | true =>
    have q := hw "either"
    have h1 : PO .ix (.tup [.str "either", A.w, B.w]) (.int 0) (.val (.str "either")) := p_ixt rfl
    have h3 : PO (.cmp .In) (.str "either") (.tup [.str "is", .str "not"]) (.val (.bl false)) := p_in2
    have h4 : pIx (.dct [.str "is", .str "not", .str "both", .str "either"] [.str "not", .str "is", .str "either", .str "both"]) (.str "either") = some (.str "both") := by kernel_rfl
    show CC _ _ [.val (.tup [.str "either", A.w, B.w])] _ (.val (.tup [.str "both", A.turn.w, B.turn.w])) _ _
    apply run_rt (hD := rfl) (hl := rfl)
    · show SS _ m_turned_in [some (.val (.tup [.str "either", A.w, B.w])), none] _ _ _ _
      repeat (first | walk_at "nv" | apply E_gd)
    · rfl
end K02
set_option Elab.async false
set_option linter.all false
set_option maxRecDepth 100000
set_option maxHeartbeats 1000000
namespace K02
open PySem PySem.Spec PyProof.Rows L2 NV
local macro_rules | `(tactic| walk_at "nv") => `(tactic| first
  | assumption
  | exact E_cst | exact AA_nil | exact RR_nil | exact O_nil | exact S_nil | exact SF_rt | exact E_gc | exact E_edict | exact FL_nil
  | exact A_pk rfl | apply A_v (hm := rfl) | apply AA_cons | apply RR_cons | apply O_some (hm := rfl)
  | apply S_seq | apply SF_nx | apply S_asg | apply S_ite | apply S_ret | exact S_mvv rfl | exact S_mvo rfl | apply S_put | apply S_par | apply S_expr | apply S_tgt | apply S_forr
  | apply E_op2 | apply E_bi | apply E_me | apply E_isi | apply E_not | apply E_ite | apply E_and | apply E_or | apply E_tup | apply E_lst | apply E_sl | apply E_call | apply E_nm | apply E_neg | apply E_mut | apply E_heap | apply I_rng | apply E_chain
  | apply SB_t (hb := by first | rfl | assumption | (rw [Bool.not_eq_true']; assumption) | (rw [Bool.not_eq_false']; assumption)) | apply SB_f (hb := by first | rfl | assumption | (rw [Bool.not_eq_true']; assumption) | (rw [Bool.not_eq_false']; assumption)) | apply EB_t (hb := by first | rfl | assumption | (rw [Bool.not_eq_true']; assumption) | (rw [Bool.not_eq_false']; assumption)) | apply EB_f (hb := by first | rfl | assumption | (rw [Bool.not_eq_true']; assumption) | (rw [Bool.not_eq_false']; assumption)) | apply CH_t (hb := by first | rfl | assumption | (rw [Bool.not_eq_true']; assumption) | (rw [Bool.not_eq_false']; assumption)) | exact CH_f (hb := by first | rfl | assumption | (rw [Bool.not_eq_true']; assumption) | (rw [Bool.not_eq_false']; assumption))
  | exact p_add | exact p_sub | exact ⟨rfl⟩ | exact List.Pairwise.nil | exact List.pairwise_singleton .. | rfl | decide)
theorem g_turned_in (S : Sto) : ∀ (F : Fm) (n : Nat), F.depth ≤ n → CC (callT T n) i_turned_in [.val F.w] S (.val F.turn.w) [some (.val F.w)] S
  | .lit neg z, n, h => by
    obtain ⟨m, rfl⟩ : ∃ m, n = m + 1 := ⟨n - 1, by have h : 1 ≤ n := h; omega⟩
    exact f_turned_lit m neg z S
  | .bin e A B, n, h => by
    have h : 1 + max A.depth B.depth ≤ n := h
    obtain ⟨m, rfl⟩ : ∃ m, n = m + 1 := ⟨n - 1, by omega⟩
    exact f_turned_bin m e A B S (g_turned_in S A m (by omega)) (g_turned_in S B m (by omega))
theorem word_pqr {z : Str} (h : z = "p" ∨ z = "q" ∨ z = "r2") : wordS z = true ∧ z.length ≤ 1000 := by
  rcases h with rfl | rfl | rfl <;> exact ⟨by decide +kernel, by decide +kernel⟩
theorem Fm.gd : ∀ {F : Fm}, F.ok → gdW F.w = true
  | .lit neg z, h => by
    have := word_pqr h
    cases neg <;> simp only [Fm.w, gdW, gdWs, Bool.and_true, Bool.and_eq_true, decide_eq_true_eq] <;> exact ⟨by simp, by decide +kernel, this.2⟩
  | .bin e A B, h => by
    have hA := Fm.gd h.1
    have hB := Fm.gd h.2
    cases e <;> simp only [Fm.w, gdW, gdWs, hA, hB, Bool.and_true, Bool.and_eq_true, decide_eq_true_eq] <;> exact ⟨by simp, by decide +kernel⟩
theorem Fm.facts : ∀ {F : Fm}, F.ok → isF F.w = true ∧ sizeF F.w = F.size ∧ depthF F.w = F.depth
  | .lit neg z, h => by
    have hw := (word_pqr h).1
    have h1 : isIN (if neg then "not" else "is") = true := by cases neg <;> decide +kernel
    have h2 : isBE (if neg then "not" else "is") = false := by cases neg <;> decide +kernel
    simp only [Fm.w, isF, isFl, sizeF, sizeFl, depthF, depthFl, formed, h1, h2, if_true, oneWord, wordW, hw]
    exact ⟨rfl, rfl, rfl⟩
  | .bin e A B, h => by
    obtain ⟨a1, a2, a3⟩ := Fm.facts h.1
    obtain ⟨b1, b2, b3⟩ := Fm.facts h.2
    have h1 : isIN (if e then "either" else "both") = false := by cases e <;> decide +kernel
    have h2 : isBE (if e then "either" else "both") = true := by cases e <;> decide +kernel
    simp only [Fm.w, isF, isFl, sizeF, sizeFl, depthF, depthFl, formed, h1, h2, if_true, isFs, sizeFs, depthFs, a1, a2, a3, b1, b2, b3, Fm.size, Fm.depth]
    refine ⟨rfl, by omega, by omega⟩
theorem Fm.isFm {F : Fm} (h : F.ok) (hd : F.depth ≤ 20) (hs : F.size ≤ 60) : isFm F.w = true := by
  obtain ⟨h1, h2, h3⟩ := Fm.facts h
  unfold K02.isFm
  rw [h1, h2, h3, decide_eq_true hd, decide_eq_true hs]; rfl
end K02
set_option Elab.async false
set_option linter.all false
set_option maxRecDepth 100000
set_option maxHeartbeats 1000000
namespace NV
open PySem PySem.Spec PyProof.Rows L2
theorem p_eqstr {a b : Str} : PO (.cmp .Eq) (.str a) (.str b) (.val (.bl (decide (a = b)))) := by
  constructor
  have e3 : dOk (.str b) = true := rfl
  have e4 : dOk (.str a) = true := rfl
  simp only [pOp2, pCmp, wEq, W.toD, e3, e4, Bool.true_or, if_true, Option.map_some, eqv_str]
theorem p_nestr {a b : Str} : PO (.cmp .NotEq) (.str a) (.str b) (.val (.bl (!decide (a = b)))) := by
  constructor
  have e3 : dOk (.str b) = true := rfl
  have e4 : dOk (.str a) = true := rfl
  simp only [pOp2, pCmp, wEq, W.toD, e3, e4, Bool.true_or, if_true, Option.map_some, eqv_str]
section
variable {cf : CallF} {ρ ρ1 : Env} {S S1 : Sto} {a : M} {ws : List W}
theorem I_fr (h : EV cf a ρ S (.fresh ws) ρ1 S1) : II cf (.seq a) ρ S ws ρ1 S1 := I_seq h (.inl rfl)
theorem I_ls (h : EV cf a ρ S (.val (.lst ws)) ρ1 S1) : II cf (.seq a) ρ S ws ρ1 S1 := I_seq h (.inl rfl)
theorem I_tp (h : EV cf a ρ S (.val (.tup ws)) ρ1 S1) : II cf (.seq a) ρ S ws ρ1 S1 := I_seq h (.inr (.inr rfl))
end
section
variable {cf : CallF} {sa : MS} {t : W → Env → Option Env}
/-- a loop that ends -/
theorem FL_inv {Inv : List W → Env → Sto → Prop} (step : ∀ w ws ρ S, Inv (w :: ws) ρ S → ∃ ρ1 ρ2 S2, t w ρ = some ρ1 ∧ SS cf sa ρ1 S .nx ρ2 S2 ∧ Inv ws ρ2 S2) :
    ∀ ws ρ S, Inv ws ρ S → ∃ ρ' S', FL t cf sa ws ρ S .nx ρ' S' ∧ Inv [] ρ' S'
  | [], ρ, S, h => ⟨ρ, S, FL_nil, h⟩
  | w :: ws, ρ, S, h => by
    obtain ⟨ρ1, ρ2, S2, h1, h2, h3⟩ := step w ws ρ S h
    obtain ⟨ρ', S', h4, h5⟩ := FL_inv step ws ρ2 S2 h3
    exact ⟨ρ', S', FL_cons h1 h2 h4, h5⟩
end
end NV
namespace K02
open PySem PySem.Spec PyProof.Rows L2 NV
local macro_rules | `(tactic| walk_at "nv") => `(tactic| first
  | assumption
  | exact E_cst | exact AA_nil | exact RR_nil | exact O_nil | exact S_nil | exact SF_rt | exact E_gc | exact E_edict | exact FL_nil
  | exact A_pk rfl | apply A_v (hm := rfl) | apply AA_cons | apply RR_cons | apply O_some (hm := rfl)
  | apply S_seq | apply SF_nx | apply S_asg | apply S_ite | apply S_ret | exact S_mvv rfl | exact S_mvo rfl | apply S_put | apply S_par | apply S_expr | apply S_tgt | apply S_forr
  | apply E_op2 | apply E_bi | apply E_me | apply E_isi | apply E_not | apply E_ite | apply E_and | apply E_or | apply E_tup | apply E_lst | apply E_sl | apply E_call | apply E_nm | apply E_neg | apply E_mut | apply E_heap | apply I_rng | apply E_chain
  | apply SB_t (hb := by first | rfl | assumption | (rw [Bool.not_eq_true']; assumption) | (rw [Bool.not_eq_false']; assumption)) | apply SB_f (hb := by first | rfl | assumption | (rw [Bool.not_eq_true']; assumption) | (rw [Bool.not_eq_false']; assumption)) | apply EB_t (hb := by first | rfl | assumption | (rw [Bool.not_eq_true']; assumption) | (rw [Bool.not_eq_false']; assumption)) | apply EB_f (hb := by first | rfl | assumption | (rw [Bool.not_eq_true']; assumption) | (rw [Bool.not_eq_false']; assumption)) | apply CH_t (hb := by first | rfl | assumption | (rw [Bool.not_eq_true']; assumption) | (rw [Bool.not_eq_false']; assumption)) | exact CH_f (hb := by first | rfl | assumption | (rw [Bool.not_eq_true']; assumption) | (rw [Bool.not_eq_false']; assumption))
  | exact p_add | exact p_sub | exact ⟨rfl⟩ | exact List.Pairwise.nil | exact List.pairwise_singleton .. | rfl | decide)
def Fm.parts : Fm → List W
  | .lit neg z => [Fm.w (.lit neg z)]
  | .bin e A B => Fm.w (.bin e A B) :: (A.parts ++ B.parts)
theorem Fm.parts_len : ∀ F : Fm, F.parts.length = F.size
  | .lit _ _ => rfl
  | .bin _ A B => by simp only [Fm.parts, Fm.size, List.length_cons, List.length_append, Fm.parts_len A, Fm.parts_len B]; omega
theorem p_addl {a b : List W} (h : a.length + b.length ≤ 1000) : PO (.bin .Add) (.lst a) (.lst b) (.fresh (a ++ b)) := ⟨by
  have : szOk (a.length + b.length) = true := decide_eq_true (Nat.le_trans h line1000)
  simp only [pOp2, pBin, this, if_true]⟩
def Fm.inner : Fm → List W
  | .lit _ _ => []
  | .bin _ A B => [A.w, B.w]
theorem f_law_inner (n : Nat) (h : Str) (r : List W) (S : Sto) : CC (callT T (n + 1)) i_law_inner [.val (.tup (.str h :: r))] S (.fresh (if isBE h then r else [])) [some (.val (.tup (.str h :: r)))] S := by
  have h1 : PO .ix (.tup (.str h :: r)) (.int 0) (.val (.str h)) := p_ixt (atI_at (j := 0) rfl (by simp))
  have h2 := p_in2 (h := h) (a := "both") (b := "either")
  have h3 := p_tail (a := .str h) (r := r)
  cases hb : isBE h with
  | true =>
    rw [if_pos rfl]
    unfold isBE at hb
    rw [hb] at h2
    apply run_rt (hD := rfl) (hl := rfl)
    · show SS _ m_law_inner [some (.val (.tup (.str h :: r)))] _ _ _ _
      repeat (walk_at "nv")
    · rfl
  | false =>
    rw [if_neg (by decide)]
    unfold isBE at hb
    rw [hb] at h2
    apply run_rt (hD := rfl) (hl := rfl)
    · show SS _ m_law_inner [some (.val (.tup (.str h :: r)))] _ _ _ _
      repeat (walk_at "nv")
    · rfl
theorem isBE_n : isBE "not" = false := by decide +kernel
theorem isBE_i : isBE "is" = false := by decide +kernel
theorem isBE_b : isBE "both" = true := by decide +kernel
theorem isBE_e : isBE "either" = true := by decide +kernel
theorem Fm.inner_eq (F : Fm) : ∃ h r, F.w = .tup (.str h :: r) ∧ F.inner = if isBE h then r else [] := by
  cases F with
  | lit neg z => cases neg
                 · exact ⟨"is", [.str z], rfl, by rw [isBE_i]; rfl⟩
                 · exact ⟨"not", [.str z], rfl, by rw [isBE_n]; rfl⟩
  | bin e A B => cases e
                 · exact ⟨"both", [A.w, B.w], rfl, by rw [isBE_b]; rfl⟩
                 · exact ⟨"either", [A.w, B.w], rfl, by rw [isBE_e]; rfl⟩
theorem g_inner_of (n : Nat) (F : Fm) (S : Sto) : CC (callT T (n + 1)) i_inner_of [.val F.w] S (.fresh F.inner) [some (.val F.w)] S := by
  obtain ⟨h, r, e1, e2⟩ := F.inner_eq
  rw [e1, e2]
  exact f_inner_of n h r S
theorem g_law_inner (n : Nat) (F : Fm) (S : Sto) : CC (callT T (n + 1)) i_law_inner [.val F.w] S (.fresh F.inner) [some (.val F.w)] S := by
  obtain ⟨h, r, e1, e2⟩ := F.inner_eq
  rw [e1, e2]
  exact f_law_inner n h r S
theorem f_parts_lit (n : Nat) (w : W) (S : Sto) (h1 : CC (callT T (n + 1)) i_inner_of [.val w] S (.fresh []) [some (.val w)] S) :
    CC (callT T (n + 2)) i_parts_in [.val w] S (.fresh [w]) [some (.val w)] S := by
  apply run_rt (hD := rfl) (hl := rfl)
  · show SS _ m_parts_in [some (.val w), none, none] _ _ _ _
    repeat (first | walk_at "nv" | apply I_fr)
  · rfl
theorem f_parts_bin (n : Nat) (w a b : W) (A B : List W) (S : Sto) (h1 : CC (callT T (n + 1)) i_inner_of [.val w] S (.fresh [a, b]) [some (.val w)] S)
    (hA : CC (callT T (n + 1)) i_parts_in [.val a] S (.fresh A) [some (.val a)] S) (hB : CC (callT T (n + 1)) i_parts_in [.val b] S (.fresh B) [some (.val b)] S) (hl : A.length + B.length < 1000) :
    CC (callT T (n + 2)) i_parts_in [.val w] S (.fresh (w :: (A ++ B))) [some (.val w)] S := by
  have p1 : PO (.bin .Add) (.lst [w]) (.lst A) (.fresh ([w] ++ A)) := p_addl (by simp; omega)
  have p2 : PO (.bin .Add) (.lst ([w] ++ A)) (.lst B) (.fresh ([w] ++ A ++ B)) := p_addl (by simp; omega)
  rw [show w :: (A ++ B) = [w] ++ A ++ B by simp]
  apply run_rt (hD := rfl) (hl := rfl)
  · show SS _ m_parts_in [some (.val w), none, none] _ _ _ _
    repeat (first | walk_at "nv" | apply I_fr | apply FL_cons)
  · rfl
theorem g_parts_in (S : Sto) : ∀ (F : Fm) (n : Nat), F.depth + 1 ≤ n → F.size ≤ 1000 → CC (callT T n) i_parts_in [.val F.w] S (.fresh F.parts) [some (.val F.w)] S
  | .lit neg z, n, h, hs => by
    obtain ⟨m, rfl⟩ : ∃ m, n = m + 2 := ⟨n - 2, by have h : 2 ≤ n := h; omega⟩
    exact f_parts_lit m _ S (g_inner_of m (.lit neg z) S)
  | .bin e A B, n, h, hs => by
    have h : 1 + max A.depth B.depth + 1 ≤ n := h
    have hs : 1 + A.size + B.size ≤ 1000 := hs
    have dA := Fm.depth_pos A
    obtain ⟨m, rfl⟩ : ∃ m, n = m + 2 := ⟨n - 2, by omega⟩
    exact f_parts_bin m _ A.w B.w A.parts B.parts S (g_inner_of m (.bin e A B) S) (g_parts_in S A (m + 1) (by omega) (by omega)) (g_parts_in S B (m + 1) (by omega) (by omega)) (by rw [Fm.parts_len, Fm.parts_len]; omega)
theorem f_lparts_lit (n : Nat) (w : W) (S : Sto) (h1 : CC (callT T (n + 1)) i_law_inner [.val w] S (.fresh []) [some (.val w)] S) :
    CC (callT T (n + 2)) i_law_parts [.val w] S (.fresh [w]) [some (.val w)] S := by
  apply run_rt (hD := rfl) (hl := rfl)
  · show SS _ m_law_parts [some (.val w), none, none] _ _ _ _
    repeat (first | walk_at "nv" | apply I_fr)
  · rfl
theorem f_lparts_bin (n : Nat) (w a b : W) (A B : List W) (S : Sto) (h1 : CC (callT T (n + 1)) i_law_inner [.val w] S (.fresh [a, b]) [some (.val w)] S)
    (hA : CC (callT T (n + 1)) i_law_parts [.val a] S (.fresh A) [some (.val a)] S) (hB : CC (callT T (n + 1)) i_law_parts [.val b] S (.fresh B) [some (.val b)] S) (hl : A.length + B.length < 1000) :
    CC (callT T (n + 2)) i_law_parts [.val w] S (.fresh (w :: (A ++ B))) [some (.val w)] S := by
  have p1 : PO (.bin .Add) (.lst [w]) (.lst A) (.fresh ([w] ++ A)) := p_addl (by simp; omega)
  have p2 : PO (.bin .Add) (.lst ([w] ++ A)) (.lst B) (.fresh ([w] ++ A ++ B)) := p_addl (by simp; omega)
  rw [show w :: (A ++ B) = [w] ++ A ++ B by simp]
  apply run_rt (hD := rfl) (hl := rfl)
  · show SS _ m_law_parts [some (.val w), none, none] _ _ _ _
    repeat (first | walk_at "nv" | apply I_fr | apply FL_cons)
  · rfl
theorem g_law_parts (S : Sto) : ∀ (F : Fm) (n : Nat), F.depth + 1 ≤ n → F.size ≤ 1000 → CC (callT T n) i_law_parts [.val F.w] S (.fresh F.parts) [some (.val F.w)] S
  | .lit neg z, n, h, hs => by
    obtain ⟨m, rfl⟩ : ∃ m, n = m + 2 := ⟨n - 2, by have h : 2 ≤ n := h; omega⟩
    exact f_lparts_lit m _ S (g_law_inner m (.lit neg z) S)
  | .bin e A B, n, h, hs => by
    have h : 1 + max A.depth B.depth + 1 ≤ n := h
    have hs : 1 + A.size + B.size ≤ 1000 := hs
    have dA := Fm.depth_pos A
    obtain ⟨m, rfl⟩ : ∃ m, n = m + 2 := ⟨n - 2, by omega⟩
    exact f_lparts_bin m _ A.w B.w A.parts B.parts S (g_law_inner m (.bin e A B) S) (g_law_parts S A (m + 1) (by omega) (by omega)) (g_law_parts S B (m + 1) (by omega) (by omega)) (by rw [Fm.parts_len, Fm.parts_len]; omega)
end K02
set_option Elab.async false
set_option linter.all false
set_option maxRecDepth 100000
set_option maxHeartbeats 1000000
namespace K02
open PySem PySem.Spec PyProof.Rows L2 NV
local macro_rules | `(tactic| walk_at "nv") => `(tactic| first
  | assumption
  | exact E_cst | exact AA_nil | exact RR_nil | exact O_nil | exact S_nil | exact SF_rt | exact E_gc | exact E_edict | exact FL_nil
  | exact A_pk rfl | apply A_v (hm := rfl) | apply AA_cons | apply RR_cons | apply O_some (hm := rfl)
  | apply S_seq | apply SF_nx | apply S_asg | apply S_ite | apply S_ret | exact S_mvv rfl | exact S_mvo rfl | apply S_put | apply S_par | apply S_expr | apply S_tgt | apply S_forr
  | apply E_op2 | apply E_bi | apply E_me | apply E_isi | apply E_not | apply E_ite | apply E_and | apply E_or | apply E_tup | apply E_lst | apply E_sl | apply E_call | apply E_nm | apply E_neg | apply E_mut | apply E_heap | apply I_rng | apply E_chain
  | apply SB_t (hb := by first | rfl | assumption | (rw [Bool.not_eq_true']; assumption) | (rw [Bool.not_eq_false']; assumption)) | apply SB_f (hb := by first | rfl | assumption | (rw [Bool.not_eq_true']; assumption) | (rw [Bool.not_eq_false']; assumption)) | apply EB_t (hb := by first | rfl | assumption | (rw [Bool.not_eq_true']; assumption) | (rw [Bool.not_eq_false']; assumption)) | apply EB_f (hb := by first | rfl | assumption | (rw [Bool.not_eq_true']; assumption) | (rw [Bool.not_eq_false']; assumption)) | apply CH_t (hb := by first | rfl | assumption | (rw [Bool.not_eq_true']; assumption) | (rw [Bool.not_eq_false']; assumption)) | exact CH_f (hb := by first | rfl | assumption | (rw [Bool.not_eq_true']; assumption) | (rw [Bool.not_eq_false']; assumption))
  | exact p_add | exact p_sub | exact ⟨rfl⟩ | exact List.Pairwise.nil | exact List.pairwise_singleton .. | rfl | decide)
theorem gds2 {a b : W} (h1 : gdW a = true) (h2 : gdW b = true) : gdWs [a, b] = true := by simp only [gdWs, h1, h2]; rfl
theorem f_lt_lit (n : Nat) (neg : Bool) (z : Str) (S : Sto) (h0 : CC (callT T n) i_law_inner [.val (Fm.w (.lit neg z))] S (.fresh []) [some (.val (Fm.w (.lit neg z)))] S) : CC (callT T (n + 1)) i_law_turned [.val (Fm.w (.lit neg z))] S (.val (Fm.w (.lit (!neg) z))) [some (.val (Fm.w (.lit neg z)))] S := by
  have hd : pBi .dict [.lst [.tup [.str "is", .str "not"], .tup [.str "not", .str "is"], .tup [.str "both", .str "either"], .tup [.str "either", .str "both"]]] = some (.val (.dct [.str "is", .str "not", .str "both", .str "either"] [.str "not", .str "is", .str "either", .str "both"])) := by kernel_rfl
  have hne : PO (.cmp .NotEq) (.lst []) (.lst []) (.val (.bl false)) := p_nenil (l := []) rfl
  have hlc : ∀ (w : W) (s : SV), CC (callT T n) i_law_inner [.val w] S (.fresh []) [some (.val w)] S → EV (callT T n) (.lc [3] (.seq (.call 21 (.cons (.nm 0) .nil))) (.tnm 3) (.cst (.bl true)) (.call 23 (.cons (.nm 3) .nil))) [some (.val w), some s, none, none] S (.fresh []) [some (.val w), some s, none, none] S := fun w s h => by
    have hi : II (callT T n) (.seq (.call 21 (.cons (.nm 0) .nil))) [some (.val w), some s, none, none] S [] [some (.val w), some s, none, none] S := by
      refine I_seq (r := .fresh []) ?_ (.inl rfl)
      repeat (walk_at "nv")
    exact E_lcp (own := [3]) (tgt := .tnm 3) (cond := .cst (.bl true)) (elt := .call 23 (.cons (.nm 3) .nil)) (P := fun _ => true) (g := id) hi rfl (fun w hw => nomatch hw) (Nat.zero_le _)
  cases neg with
  | false =>
    have h1 : PO .ix (.tup [.str "is", .str z]) (.int 0) (.val (.str "is")) := p_ixt rfl
    have h2 : PO .ix (.tup [.str "is", .str z]) (.int 1) (.val (.str z)) := p_ixt rfl
    have h4 : PO .ix (.dct [.str "is", .str "not", .str "both", .str "either"] [.str "not", .str "is", .str "either", .str "both"]) (.str "is") (.val (.str "not")) := ⟨by kernel_rfl⟩
    have q := hlc (.tup [.str "is", .str z]) (.val (.str "not")) h0
    show CC _ _ [.val (.tup [.str "is", .str z])] _ (.val (.tup [.str "not", .str z])) _ _
    apply run_rt (hD := rfl) (hl := rfl)
    · show SS _ m_law_turned [some (.val (.tup [.str "is", .str z])), none, none, none] _ _ _ _
      repeat (walk_at "nv")
    · rfl
  | true =>
    have h1 : PO .ix (.tup [.str "not", .str z]) (.int 0) (.val (.str "not")) := p_ixt rfl
    have h2 : PO .ix (.tup [.str "not", .str z]) (.int 1) (.val (.str z)) := p_ixt rfl
    have h4 : PO .ix (.dct [.str "is", .str "not", .str "both", .str "either"] [.str "not", .str "is", .str "either", .str "both"]) (.str "not") (.val (.str "is")) := ⟨by kernel_rfl⟩
    have q := hlc (.tup [.str "not", .str z]) (.val (.str "is")) h0
    show CC _ _ [.val (.tup [.str "not", .str z])] _ (.val (.tup [.str "is", .str z])) _ _
    apply run_rt (hD := rfl) (hl := rfl)
    · show SS _ m_law_turned [some (.val (.tup [.str "not", .str z])), none, none, none] _ _ _ _
      repeat (walk_at "nv")
    · rfl
theorem f_lt_bin (n : Nat) (e : Bool) (A B : Fm) (S : Sto) (oA : A.ok) (oB : B.ok) (h0 : CC (callT T n) i_law_inner [.val (Fm.w (.bin e A B))] S (.fresh [A.w, B.w]) [some (.val (Fm.w (.bin e A B)))] S)
    (hA : CC (callT T n) i_law_turned [.val A.w] S (.val A.turn.w) [some (.val A.w)] S) (hB : CC (callT T n) i_law_turned [.val B.w] S (.val B.turn.w) [some (.val B.w)] S) :
    CC (callT T (n + 1)) i_law_turned [.val (Fm.w (.bin e A B))] S (.val (Fm.w (.bin (!e) A.turn B.turn))) [some (.val (Fm.w (.bin e A B)))] S := by
  have hd : pBi .dict [.lst [.tup [.str "is", .str "not"], .tup [.str "not", .str "is"], .tup [.str "both", .str "either"], .tup [.str "either", .str "both"]]] = some (.val (.dct [.str "is", .str "not", .str "both", .str "either"] [.str "not", .str "is", .str "either", .str "both"])) := by kernel_rfl
  obtain ⟨xs, hxs⟩ := gds_toD (gds2 (Fm.gd (Fm.turn_ok oA)) (Fm.gd (Fm.turn_ok oB)))
  have hne : PO (.cmp .NotEq) (.lst [A.turn.w, B.turn.w]) (.lst []) (.val (.bl true)) := p_nenil hxs
  have hlc : ∀ (w : W) (s : SV), CC (callT T n) i_law_inner [.val w] S (.fresh [A.w, B.w]) [some (.val w)] S → EV (callT T n) (.lc [3] (.seq (.call 21 (.cons (.nm 0) .nil))) (.tnm 3) (.cst (.bl true)) (.call 23 (.cons (.nm 3) .nil))) [some (.val w), some s, none, none] S (.fresh [A.turn.w, B.turn.w]) [some (.val w), some s, none, none] S := fun w s h => by
    have hi : II (callT T n) (.seq (.call 21 (.cons (.nm 0) .nil))) [some (.val w), some s, none, none] S [A.w, B.w] [some (.val w), some s, none, none] S := by
      refine I_seq (r := .fresh [A.w, B.w]) ?_ (.inl rfl)
      repeat (walk_at "nv")
    have q := E_lcp (own := [3]) (tgt := .tnm 3) (cond := .cst (.bl true)) (elt := .call 23 (.cons (.nm 3) .nil)) (P := fun _ => true) (g := turnW) hi rfl (fun x hx => ?_) (by show 2 ≤ _; have := line1000; omega)
    · rw [List.filter_eq_self.mpr (fun _ _ => rfl)] at q
      have : [A.w, B.w].map turnW = [A.turn.w, B.turn.w] := by simp [turnW_eq]
      rw [this] at q
      exact q
    · have hc : CC (callT T n) i_law_turned [.val x] S (.val (turnW x)) [some (.val x)] S := by
        simp only [List.mem_cons, List.not_mem_nil, or_false] at hx
        rcases hx with rfl | rfl
        · rw [turnW_eq]; exact hA
        · rw [turnW_eq]; exact hB
      refine ⟨[some (.val w), some s, none, some (.val x)], rfl, _, E_cst, fun _ => ⟨.val (turnW x), [some (.val w), some s, none, some (.val x)], ?_, rfl, rfl⟩, fun h => nomatch h⟩
      repeat (walk_at "nv")
  cases e with
  | false =>
    have h1 : PO .ix (.tup [.str "both", A.w, B.w]) (.int 0) (.val (.str "both")) := p_ixt rfl
    have h4 : PO .ix (.dct [.str "is", .str "not", .str "both", .str "either"] [.str "not", .str "is", .str "either", .str "both"]) (.str "both") (.val (.str "either")) := ⟨by kernel_rfl⟩
    have q := hlc (.tup [.str "both", A.w, B.w]) (.val (.str "either")) h0
    show CC _ _ [.val (.tup [.str "both", A.w, B.w])] _ (.val (.tup [.str "either", A.turn.w, B.turn.w])) _ _
    apply run_rt (hD := rfl) (hl := rfl)
    · show SS _ m_law_turned [some (.val (.tup [.str "both", A.w, B.w])), none, none, none] _ _ _ _
      repeat (walk_at "nv")
    · rfl
  | true =>
    have h1 : PO .ix (.tup [.str "either", A.w, B.w]) (.int 0) (.val (.str "either")) := p_ixt rfl
    have h4 : PO .ix (.dct [.str "is", .str "not", .str "both", .str "either"] [.str "not", .str "is", .str "either", .str "both"]) (.str "either") (.val (.str "both")) := ⟨by kernel_rfl⟩
    have q := hlc (.tup [.str "either", A.w, B.w]) (.val (.str "both")) h0
    show CC _ _ [.val (.tup [.str "either", A.w, B.w])] _ (.val (.tup [.str "both", A.turn.w, B.turn.w])) _ _
    apply run_rt (hD := rfl) (hl := rfl)
    · show SS _ m_law_turned [some (.val (.tup [.str "either", A.w, B.w])), none, none, none] _ _ _ _
      repeat (walk_at "nv")
    · rfl
theorem g_law_turned (S : Sto) : ∀ (F : Fm) (n : Nat), F.ok → F.depth + 1 ≤ n → CC (callT T n) i_law_turned [.val F.w] S (.val F.turn.w) [some (.val F.w)] S
  | .lit neg z, n, _, h => by
    obtain ⟨m, rfl⟩ : ∃ m, n = m + 2 := ⟨n - 2, by have h : 2 ≤ n := h; omega⟩
    exact f_lt_lit (m + 1) neg z S (g_law_inner m (.lit neg z) S)
  | .bin e A B, n, o, h => by
    have h : 1 + max A.depth B.depth + 1 ≤ n := h
    have dA := Fm.depth_pos A
    obtain ⟨m, rfl⟩ : ∃ m, n = m + 2 := ⟨n - 2, by omega⟩
    exact f_lt_bin (m + 1) e A B S o.1 o.2 (g_law_inner m (.bin e A B) S) (g_law_turned S A (m + 1) o.1 (by omega)) (g_law_turned S B (m + 1) o.2 (by omega))
/-- a formula of the bounds -/
structure Fm.Fit (F : Fm) : Prop where
  ok : F.ok
  d : F.depth ≤ 20
  s : F.size ≤ 60
theorem Fm.turn_size : ∀ F : Fm, F.turn.size = F.size
  | .lit _ _ => rfl
  | .bin _ a b => by simp only [Fm.turn, Fm.size, Fm.turn_size a, Fm.turn_size b]
theorem Fm.Fit.turn {F : Fm} (h : F.Fit) : F.turn.Fit := ⟨Fm.turn_ok h.ok, by rw [Fm.turn_depth]; exact h.d, by rw [Fm.turn_size]; exact h.s⟩
theorem g_chk (n : Nat) {F : Fm} (S : Sto) (h : F.Fit) (hn : 4 ≤ n) : CC (callT T n) i_check_formula [.val F.w] S (.val .non) [some (.val F.w)] S := by
  obtain ⟨m, rfl⟩ : ∃ m, n = m + 4 := ⟨n - 4, by omega⟩
  exact g_check m F.w S (Fm.gd h.ok) (Fm.isFm h.ok h.d h.s)
theorem g_turned (n : Nat) {F : Fm} (S : Sto) (h : F.Fit) (hn : 22 ≤ n) : CC (callT T n) i_turned [.val F.w] S (.val F.turn.w) [some (.val F.w)] S := by
  obtain ⟨m, rfl⟩ : ∃ m, n = m + 1 := ⟨n - 1, by omega⟩
  have h1 := g_chk m S h (by omega)
  have h2 := g_turned_in S F m (by have := h.d; omega)
  generalize F.w = w at h1 h2 ⊢
  apply run_rt (hD := rfl) (hl := rfl)
  · show SS _ m_turned [some (.val w)] _ _ _ _
    repeat (walk_at "nv")
  · rfl
theorem g_size_of (n : Nat) {F : Fm} (S : Sto) (h : F.Fit) (hn : 22 ≤ n) : CC (callT T n) i_size_of [.val F.w] S (.val (.int F.size)) [some (.val F.w)] S := by
  obtain ⟨m, rfl⟩ : ∃ m, n = m + 1 := ⟨n - 1, by omega⟩
  have h1 := g_chk m S h (by omega)
  have h2 := g_parts_in S F m (by have := h.d; omega) (by have := h.s; omega)
  rw [← Fm.parts_len]
  generalize F.w = w at h1 h2 ⊢
  generalize F.parts = l at h2 ⊢
  apply run_rt (hD := rfl) (hl := rfl)
  · show SS _ m_size_of [some (.val w)] _ _ _ _
    repeat (walk_at "nv")
  · rfl
def isLit : W → Bool
  | .tup (.str h :: _) => isIN h
  | _ => false
theorem Fm.parts_hd : ∀ (F : Fm), ∀ w ∈ F.parts, ∃ h r, w = .tup (.str h :: r)
  | .lit neg z, w, h => by
    simp only [Fm.parts, List.mem_singleton] at h
    exact ⟨_, _, h⟩
  | .bin e A B, w, h => by
    simp only [Fm.parts, List.mem_cons, List.mem_append] at h
    rcases h with h | h | h
    · exact ⟨_, _, h⟩
    · exact Fm.parts_hd A w h
    · exact Fm.parts_hd B w h
theorem g_letters_in (n : Nat) {F : Fm} (S : Sto) (h : F.Fit) (hn : 22 ≤ n) : CC (callT T n) i_letters_in [.val F.w] S (.fresh (F.parts.filter isLit)) [some (.val F.w)] S := by
  obtain ⟨m, rfl⟩ : ∃ m, n = m + 1 := ⟨n - 1, by omega⟩
  have h2 := g_parts_in S F m (by have := h.d; omega) (by have := h.s; omega)
  have hi : II (callT T m) (.seq (.call 8 (.cons (.nm 0) .nil))) [some (.val F.w), none] S F.parts [some (.val F.w), none] S := by
    refine I_seq (r := .fresh F.parts) ?_ (.inl rfl)
    generalize F.w = w at h2 ⊢
    repeat (walk_at "nv")
  have q := E_lcp (own := [1]) (tgt := .tnm 1) (cond := .op2 (.cmp .In) (.op2 .ix (.pk 1) (.cst (.int 0))) (.tup (.cons (.cst (.str "is")) (.cons (.cst (.str "not")) .nil)))) (elt := .nm 1) (P := isLit) (g := id) hi rfl (fun x hx => ?_) (by rw [Fm.parts_len]; have := line1000; have := h.s; omega)
  · rw [List.map_id] at q
    generalize F.w = w at q ⊢
    apply run_rt (hD := rfl) (hl := rfl)
    · show SS _ m_letters_in [some (.val w), none] _ _ _ _
      apply S_seq
      · apply S_ret
        exact q
      · exact SF_rt
    · rfl
  · obtain ⟨hd, r, rfl⟩ := F.parts_hd x hx
    have h1 : PO .ix (.tup (.str hd :: r)) (.int 0) (.val (.str hd)) := p_ixt (atI_at (j := 0) rfl (by simp))
    have h3 := p_in2 (h := hd) (a := "is") (b := "not")
    refine ⟨[some (.val F.w), some (.val (.tup (.str hd :: r)))], rfl, [some (.val F.w), some (.val (.tup (.str hd :: r)))], ?_, fun _ => ⟨.val (.tup (.str hd :: r)), _, E_nm rfl, rfl, rfl⟩, fun _ => rfl⟩
    show EV _ _ _ _ (.val (.bl (decide (hd = "is") || decide (hd = "not")))) _ _
    repeat (walk_at "nv")
theorem g_letters_of (n : Nat) {F : Fm} (S : Sto) (h : F.Fit) (hn : 23 ≤ n) : CC (callT T n) i_letters_of [.val F.w] S (.fresh (F.parts.filter isLit)) [some (.val F.w)] S := by
  obtain ⟨m, rfl⟩ : ∃ m, n = m + 1 := ⟨n - 1, by omega⟩
  have h1 := g_chk m S h (by omega)
  have h2 := g_letters_in m S h (by omega)
  generalize F.w = w at h1 h2 ⊢
  generalize F.parts.filter isLit = l at h2 ⊢
  apply run_rt (hD := rfl) (hl := rfl)
  · show SS _ m_letters_of [some (.val w)] _ _ _ _
    repeat (walk_at "nv")
  · rfl
def hdW : W → W
  | .tup (h :: _) => h
  | w => w
def isHd (z : Str) : W → Bool
  | .tup (.str h :: _) => decide (h = z)
  | _ => false
def cntH (z : Str) (l : List W) : Nat := (l.filter (isHd z)).length
theorem cnt_hd (z : Str) : ∀ {l : List W}, (∀ w ∈ l, ∃ h r, w = .tup (.str h :: r)) → ∃ xs, W.toDs (l.map hdW) = some xs ∧ xs.countP (fun y => PyData.eqv y (.str z)) = cntH z l
  | [], _ => ⟨[], rfl, rfl⟩
  | a :: l, h => by
    obtain ⟨hd, r, rfl⟩ := h a (List.mem_cons_self ..)
    obtain ⟨xs, e1, e2⟩ := cnt_hd z (l := l) fun w hw => h w (List.mem_cons_of_mem _ hw)
    refine ⟨.str hd :: xs, ?_, ?_⟩
    · rw [List.map_cons]
      show W.toDs (.str hd :: l.map hdW) = _
      simp only [W.toDs, W.toD, e1]
    · rw [List.countP_cons, e2]
      unfold cntH
      rw [List.filter_cons]
      simp only [isHd, eqv_str]
      by_cases c : hd = z
      · simp [c]
      · simp [c]
theorem p_cnt (z : Str) {l : List W} (h : ∀ w ∈ l, ∃ h r, w = .tup (.str h :: r)) : pMe .count (.lst (l.map hdW)) [.str z] = some (.val (.int (cntH z l : Nat))) := by
  obtain ⟨xs, e1, e2⟩ := cnt_hd z h
  have e3 : dOk (.str z) = true := rfl
  have e4 : W.toD (.str z) = some (.str z) := rfl
  simp only [pMe, e1, e4, e3, if_true, e2]
theorem g_links_of (n : Nat) {F : Fm} (S : Sto) (h : F.Fit) (hn : 22 ≤ n) : CC (callT T n) i_links_of [.val F.w] S (.val (.tup [.int (cntH "both" F.parts : Nat), .int (cntH "either" F.parts : Nat)])) [some (.val F.w)] S := by
  obtain ⟨m, rfl⟩ : ∃ m, n = m + 1 := ⟨n - 1, by omega⟩
  have h1 := g_chk m S h (by omega)
  have h2 := g_parts_in S F m (by have := h.d; omega) (by have := h.s; omega)
  have hi : II (callT T m) (.seq (.call 8 (.cons (.nm 0) .nil))) [some (.val F.w), none, none] S F.parts [some (.val F.w), none, none] S := by
    refine I_seq (r := .fresh F.parts) ?_ (.inl rfl)
    generalize F.w = w at h2 ⊢
    repeat (walk_at "nv")
  have q := E_lcp (own := [2]) (tgt := .tnm 2) (cond := .cst (.bl true)) (elt := .op2 .ix (.pk 2) (.cst (.int 0))) (P := fun _ => true) (g := hdW) hi rfl (fun x hx => ?_) (by rw [Fm.parts_len]; have := line1000; have := h.s; omega)
  · rw [List.filter_eq_self.mpr (fun _ _ => rfl)] at q
    have c1 := p_cnt "both" F.parts_hd
    have c2 := p_cnt "either" F.parts_hd
    generalize F.w = w at h1 q ⊢
    generalize F.parts.map hdW = l at q c1 c2
    apply run_rt (hD := rfl) (hl := rfl)
    · show SS _ m_links_of [some (.val w), none, none] _ _ _ _
      repeat (walk_at "nv")
    · rfl
  · obtain ⟨hd, r, rfl⟩ := F.parts_hd x hx
    have h1 : PO .ix (.tup (.str hd :: r)) (.int 0) (.val (.str hd)) := p_ixt (atI_at (j := 0) rfl (by simp))
    refine ⟨[some (.val F.w), none, some (.val (.tup (.str hd :: r)))], rfl, [some (.val F.w), none, some (.val (.tup (.str hd :: r)))], E_cst, fun _ => ⟨.val (.str hd), [some (.val F.w), none, some (.val (.tup (.str hd :: r)))], ?_, rfl, rfl⟩, fun h => nomatch h⟩
    repeat (walk_at "nv")
theorem cntH_append (z : Str) (a b : List W) : cntH z (a ++ b) = cntH z a + cntH z b := by simp [cntH]
theorem Fm.cnt_turn : ∀ F : Fm, cntH "both" F.turn.parts = cntH "either" F.parts ∧ cntH "either" F.turn.parts = cntH "both" F.parts
  | .lit neg z => by cases neg <;> exact ⟨rfl, rfl⟩
  | .bin e A B => by
    obtain ⟨a1, a2⟩ := Fm.cnt_turn A
    obtain ⟨b1, b2⟩ := Fm.cnt_turn B
    have k : ∀ (z : Str) (w : W) (a b : List W), cntH z (w :: (a ++ b)) = cntH z [w] + (cntH z a + cntH z b) := fun z w a b => by
      rw [← List.singleton_append, cntH_append, cntH_append]
    simp only [Fm.turn, Fm.parts, k, a1, a2, b1, b2]
    cases e
    · refine ⟨?_, ?_⟩ <;> rfl
    · refine ⟨?_, ?_⟩ <;> rfl
end K02
set_option Elab.async false
set_option linter.all false
set_option maxRecDepth 100000
set_option maxHeartbeats 1000000
namespace NV
open PySem PySem.Spec PyProof.Rows L2
theorem p_rng {n : Nat} (h : n ≤ 1000000) : rngL [.int (n : Int)] = some ((List.range n).map fun (i : Nat) => .int i) := by
  simp only [rngL]
  rw [if_pos (by simp only [Bool.and_eq_true, decide_eq_true_eq]; omega), Int.toNat_natCast]
/-- a value told, a value due -/
inductive Sm (S : Sto) : Nat → W → W → Prop where
  | non {k : Nat} : Sm S (k + 1) .non .non
  | bl {k : Nat} {b : Bool} : Sm S (k + 1) (.bl b) (.bl b)
  | int {k : Nat} {i : Int} : Sm S (k + 1) (.int i) (.int i)
  | str {k : Nat} {z : Str} : Sm S (k + 1) (.str z) (.str z)
  | lst {k : Nat} {t : W} {ts ds : List W} : res S t = .lst ts → ts.length = ds.length → ds.length ≤ 1000 → (∀ (i : Nat) (h1 : i < ts.length) (h2 : i < ds.length), Sm S k ts[i] ds[i]) → Sm S (k + 1) t (.lst ds)
  | tup {k : Nat} {ts ds : List W} : ts.length = ds.length → ds.length ≤ 1000 → (∀ (i : Nat) (h1 : i < ts.length) (h2 : i < ds.length), Sm S k ts[i] ds[i]) → Sm S (k + 1) (.tup ts) (.tup ds)
/-- plain data of at most this depth -/
def gdD : Nat → W → Bool
  | 0, _ => false
  | _ + 1, .non => true
  | _ + 1, .bl _ => true
  | _ + 1, .int _ => true
  | _ + 1, .str _ => true
  | k + 1, .tup l => decide (l.length ≤ 1000) && l.all (gdD k)
  | k + 1, .lst l => decide (l.length ≤ 1000) && l.all (gdD k)
  | _ + 1, _ => false
theorem Sm.refl (S : Sto) : ∀ (k : Nat) (w : W), gdD k w = true → Sm S k w w
  | 0, w, h => by simp [gdD] at h
  | k + 1, w, h => by
    cases w <;> simp only [gdD] at h <;> first
      | exact .non | exact .bl | exact .int | exact .str | (cases h; done) | skip
    · simp only [Bool.and_eq_true, decide_eq_true_eq, List.all_eq_true] at h
      exact .tup rfl h.1 fun i h1 _ => Sm.refl S k _ (h.2 _ (List.getElem_mem h1))
    · simp only [Bool.and_eq_true, decide_eq_true_eq, List.all_eq_true] at h
      exact .lst rfl rfl h.1 fun i h1 _ => Sm.refl S k _ (h.2 _ (List.getElem_mem h1))
theorem Sm.mono {S : Sto} : ∀ {k : Nat} {t d : W}, Sm S k t d → ∀ {j : Nat}, k ≤ j → Sm S j t d
  | 0, _, _, h, _, _ => nomatch h
  | k + 1, t, d, h, j, hj => by
    obtain ⟨i, rfl⟩ : ∃ i, j = i + 1 := ⟨j - 1, by omega⟩
    cases h with
    | non => exact .non
    | bl => exact .bl
    | int => exact .int
    | str => exact .str
    | lst e1 e2 e3 e4 => exact .lst e1 e2 e3 fun a b c => (e4 a b c).mono (by omega)
    | tup e2 e3 e4 => exact .tup e2 e3 fun a b c => (e4 a b c).mono (by omega)
/-- item by item -/
inductive SmL (S : Sto) (k : Nat) : List W → List W → Prop where
  | nil : SmL S k [] []
  | cons {a b : W} {l m : List W} : Sm S k a b → SmL S k l m → SmL S k (a :: l) (b :: m)
theorem SmL.len {S : Sto} {k : Nat} : ∀ {l m : List W}, SmL S k l m → l.length = m.length
  | _, _, .nil => rfl
  | _, _, .cons _ h => by rw [List.length_cons, List.length_cons, h.len]
theorem SmL.get {S : Sto} {k : Nat} : ∀ {l m : List W}, SmL S k l m → ∀ (i : Nat) (h1 : i < l.length) (h2 : i < m.length), Sm S k l[i] m[i]
  | _, _, .nil, i, h1, _ => by simp at h1
  | _, _, .cons h _, 0, _, _ => h
  | _, _, .cons _ h, i + 1, h1, h2 => by
    rw [List.length_cons] at h1 h2
    exact h.get i (by omega) (by omega)
theorem SmL.lst {S : Sto} {k : Nat} {l m : List W} (h : SmL S k l m) (hl : m.length ≤ 1000) : Sm S (k + 1) (.lst l) (.lst m) := .lst rfl h.len hl h.get
theorem SmL.tup {S : Sto} {k : Nat} {l m : List W} (h : SmL S k l m) (hl : m.length ≤ 1000) : Sm S (k + 1) (.tup l) (.tup m) := .tup h.len hl h.get
theorem SmL.ref {S : Sto} {k n : Nat} {l m : List W} (h : SmL S k l m) (hs : S[n]? = some l) (hl : m.length ≤ 1000) : Sm S (k + 1) (.ref n) (.lst m) := .lst (by simp only [res, hs]) h.len hl h.get
theorem SmL.refl {S : Sto} {k : Nat} : ∀ {l : List W}, l.all (gdD k) = true → SmL S k l l
  | [], _ => .nil
  | a :: l, h => by
    rw [List.all_cons, Bool.and_eq_true] at h
    exact .cons (Sm.refl S k a h.1) (SmL.refl h.2)
end NV
namespace K02
open PySem PySem.Spec PyProof.Rows L2 NV
local macro_rules | `(tactic| walk_at "nv") => `(tactic| first
  | assumption
  | exact E_cst | exact AA_nil | exact RR_nil | exact O_nil | exact S_nil | exact SF_rt | exact E_gc | exact E_edict | exact FL_nil
  | exact A_pk rfl | apply A_v (hm := rfl) | apply AA_cons | apply RR_cons | apply O_some (hm := rfl)
  | apply S_seq | apply SF_nx | apply S_asg | apply S_ite | apply S_ret | exact S_mvv rfl | exact S_mvo rfl | apply S_put | apply S_par | apply S_expr | apply S_tgt | apply S_forr
  | apply E_op2 | apply E_bi | apply E_me | apply E_isi | apply E_not | apply E_ite | apply E_and | apply E_or | apply E_tup | apply E_lst | apply E_sl | apply E_call | apply E_nm | apply E_neg | apply E_mut | apply E_heap | apply I_rng | apply E_chain
  | apply SB_t (hb := by first | rfl | assumption | (rw [Bool.not_eq_true']; assumption) | (rw [Bool.not_eq_false']; assumption)) | apply SB_f (hb := by first | rfl | assumption | (rw [Bool.not_eq_true']; assumption) | (rw [Bool.not_eq_false']; assumption)) | apply EB_t (hb := by first | rfl | assumption | (rw [Bool.not_eq_true']; assumption) | (rw [Bool.not_eq_false']; assumption)) | apply EB_f (hb := by first | rfl | assumption | (rw [Bool.not_eq_true']; assumption) | (rw [Bool.not_eq_false']; assumption)) | apply CH_t (hb := by first | rfl | assumption | (rw [Bool.not_eq_true']; assumption) | (rw [Bool.not_eq_false']; assumption)) | exact CH_f (hb := by first | rfl | assumption | (rw [Bool.not_eq_true']; assumption) | (rw [Bool.not_eq_false']; assumption))
  | exact p_add | exact p_sub | exact ⟨rfl⟩ | exact List.Pairwise.nil | exact List.pairwise_singleton .. | rfl | decide)
theorem lc_same (m : Nat) (S : Sto) (t D : W) (ts ds : List W) (hl : ts.length = ds.length) (h2 : ds.length ≤ 1000) (hL : pBi .len [res S D] = some (.val (.int ds.length)))
    (hI : ∀ (i : Nat) (h : i < ts.length), PO .ix (res S t) (.int i) (.val ts[i])) (hJ : ∀ (i : Nat) (h : i < ds.length), PO .ix (res S D) (.int i) (.val ds[i]))
    (ih : ∀ (i : Nat) (h1 : i < ts.length) (h2 : i < ds.length), CC (callT T m) i_law_same [.val ts[i], .val ds[i]] S (.val (.bl true)) [some (.val ts[i]), some (.val ds[i])] S) :
    EV (callT T m) (.lc [2] (.rng (.cons (.bi .len (.cons (.pk 1) .nil)) .nil)) (.tnm 2) (.not (.call 18 (.cons (.op2 .ix (.pk 0) (.pk 2)) (.cons (.op2 .ix (.pk 1) (.pk 2)) .nil)))) (.nm 2)) [some (.val t), some (.val D), none] S (.fresh []) [some (.val t), some (.val D), none] S := by
  have hr := p_rng (n := ds.length) (by omega)
  have hi : II (callT T m) (.rng (.cons (.bi .len (.cons (.pk 1) .nil)) .nil)) [some (.val t), some (.val D), none] S ((List.range ds.length).map fun (i : Nat) => .int i) [some (.val t), some (.val D), none] S := by
    refine I_rng (l := [.val (.int ds.length)]) (ws := [.int ds.length]) ?_ rfl hr
    refine AA_cons (x := .val (RV.frz (.val (.int ds.length)))) (A_v ?_ rfl) AA_nil
    refine E_bi (l := [.pk 1]) (ws := [res S D]) ?_ rfl hL
    exact AA_cons (A_pk rfl) AA_nil
  have q := E_lcp (own := [2]) (tgt := .tnm 2) (cond := .not (.call 18 (.cons (.op2 .ix (.pk 0) (.pk 2)) (.cons (.op2 .ix (.pk 1) (.pk 2)) .nil)))) (elt := .nm 2) (P := fun _ => false) (g := id) hi rfl (fun x hx => ?_) (by simp only [List.length_map, List.length_range]; exact Nat.le_trans h2 line1000)
  · rw [List.filter_eq_nil_iff.mpr (fun _ _ h => Bool.noConfusion h)] at q
    exact q
  · obtain ⟨i, hi, rfl⟩ := List.mem_map.mp hx
    rw [List.mem_range] at hi
    have k1 := hI i (by omega)
    have k2 := hJ i hi
    have k3 := ih i (by omega) hi
    clear hr hL hI hJ ih
    refine ⟨[some (.val t), some (.val D), some (.val (.int i))], rfl, [some (.val t), some (.val D), some (.val (.int i))], ?_, (fun h => Bool.noConfusion h), fun _ => rfl⟩
    show EV _ _ _ _ (.val (.bl (!true))) _ _
    repeat (walk_at "nv")
theorem g_same (S : Sto) : ∀ (k n : Nat) (t d : W), Sm S k t d → k ≤ n → CC (callT T n) i_law_same [.val t, .val d] S (.val (.bl true)) [some (.val t), some (.val d)] S
  | 0, n, t, d, h, _ => nomatch h
  | k + 1, n, t, d, h, hn => by
    obtain ⟨m, rfl⟩ : ∃ m, n = m + 1 := ⟨n - 1, by omega⟩
    cases h with
    | non =>
      apply run_rt (hD := rfl) (hl := rfl)
      · show SS _ m_law_same [some (.val .non), some (.val .non), none] _ _ _ _
        repeat (walk_at "nv")
      · rfl
    | @bl _ b =>
      cases b <;> apply run_rt (hD := rfl) (hl := rfl)
      · show SS _ m_law_same [some (.val (.bl false)), some (.val (.bl false)), none] _ _ _ _
        repeat (walk_at "nv")
      · rfl
      · show SS _ m_law_same [some (.val (.bl true)), some (.val (.bl true)), none] _ _ _ _
        repeat (walk_at "nv")
      · rfl
    | @int _ i =>
      have h1 : PO (.cmp .Eq) (.int i) (.int i) (.val (.bl true)) := p_eqint' (decide_eq_true rfl)
      apply run_rt (hD := rfl) (hl := rfl)
      · show SS _ m_law_same [some (.val (.int i)), some (.val (.int i)), none] _ _ _ _
        repeat (walk_at "nv")
      · rfl
    | @str _ i =>
      have h1 : PO (.cmp .Eq) (.str i) (.str i) (.val (.bl true)) := by
        have q := p_eqstr (a := i) (b := i)
        rw [decide_eq_true rfl] at q
        exact q
      apply run_rt (hD := rfl) (hl := rfl)
      · show SS _ m_law_same [some (.val (.str i)), some (.val (.str i)), none] _ _ _ _
        repeat (walk_at "nv")
      · rfl
    | @lst _ _ ts ds e1 e2 e3 e4 =>
      have q := lc_same m S t (.lst ds) ts ds e2 e3 rfl (fun i h => by rw [e1]; exact p_ixl (atI_at rfl h)) (fun i h => p_ixl (atI_at rfl h)) (fun i h1 h2 => g_same S k m _ _ (e4 i h1 h2) (by omega))
      have i1 : isiW (res S t) [.list] = some true := by rw [e1]; rfl
      have i2 : isiW (res S t) [.tuple] = some false := by rw [e1]; rfl
      have l1 : pBi .len [res S t] = some (.val (.int ts.length)) := by rw [e1]; rfl
      have l2 : pBi .len [.lst ds] = some (.val (.int ds.length)) := rfl
      have h1 : PO (.cmp .Eq) (.int ts.length) (.int ds.length) (.val (.bl true)) := p_eqint' (decide_eq_true (by rw [e2]))
      have h2 : PO (.cmp .Eq) (.lst []) (.lst []) (.val (.bl true)) := p_eqnil (l := []) rfl
      apply run_rt (hD := rfl) (hl := rfl)
      · show SS _ m_law_same [some (.val t), some (.val (.lst ds)), none] _ _ _ _
        repeat (walk_at "nv")
      · rfl
    | @tup _ ts ds e2 e3 e4 =>
      have q := lc_same m S (.tup ts) (.tup ds) ts ds e2 e3 rfl (fun i h => p_ixt (atI_at rfl h)) (fun i h => p_ixt (atI_at rfl h)) (fun i h1 h2 => g_same S k m _ _ (e4 i h1 h2) (by omega))
      have l1 : pBi .len [.tup ts] = some (.val (.int ts.length)) := rfl
      have l2 : pBi .len [.tup ds] = some (.val (.int ds.length)) := rfl
      have h1 : PO (.cmp .Eq) (.int ts.length) (.int ds.length) (.val (.bl true)) := p_eqint' (decide_eq_true (by rw [e2]))
      have h2 : PO (.cmp .Eq) (.lst []) (.lst []) (.val (.bl true)) := p_eqnil (l := []) rfl
      apply run_rt (hD := rfl) (hl := rfl)
      · show SS _ m_law_same [some (.val (.tup ts)), some (.val (.tup ds)), none] _ _ _ _
        repeat (walk_at "nv")
      · rfl
end K02
set_option Elab.async false
set_option linter.all false
set_option maxRecDepth 100000
set_option maxHeartbeats 1000000
namespace K02
open PySem PySem.Spec PyProof.Rows L2 NV
local macro_rules | `(tactic| walk_at "nv") => `(tactic| first
  | assumption
  | exact E_cst | exact AA_nil | exact RR_nil | exact O_nil | exact S_nil | exact SF_rt | exact E_gc | exact E_edict | exact FL_nil
  | exact A_pk rfl | apply A_v (hm := rfl) | apply AA_cons | apply RR_cons | apply O_some (hm := rfl)
  | apply S_seq | apply SF_nx | apply S_asg | apply S_ite | apply S_ret | exact S_mvv rfl | exact S_mvo rfl | apply S_put | apply S_par | apply S_expr | apply S_tgt | apply S_forr
  | apply E_op2 | apply E_bi | apply E_me | apply E_isi | apply E_not | apply E_ite | apply E_and | apply E_or | apply E_tup | apply E_lst | apply E_sl | apply E_call | apply E_nm | apply E_neg | apply E_mut | apply E_heap | apply I_rng | apply E_chain
  | apply SB_t (hb := by first | rfl | assumption | (rw [Bool.not_eq_true']; assumption) | (rw [Bool.not_eq_false']; assumption)) | apply SB_f (hb := by first | rfl | assumption | (rw [Bool.not_eq_true']; assumption) | (rw [Bool.not_eq_false']; assumption)) | apply EB_t (hb := by first | rfl | assumption | (rw [Bool.not_eq_true']; assumption) | (rw [Bool.not_eq_false']; assumption)) | apply EB_f (hb := by first | rfl | assumption | (rw [Bool.not_eq_true']; assumption) | (rw [Bool.not_eq_false']; assumption)) | apply CH_t (hb := by first | rfl | assumption | (rw [Bool.not_eq_true']; assumption) | (rw [Bool.not_eq_false']; assumption)) | exact CH_f (hb := by first | rfl | assumption | (rw [Bool.not_eq_true']; assumption) | (rw [Bool.not_eq_false']; assumption))
  | exact p_add | exact p_sub | exact ⟨rfl⟩ | exact List.Pairwise.nil | exact List.pairwise_singleton .. | rfl | decide)
theorem excl {z : Str} (h : isIN z = true) : isBE z = false := by
  unfold isIN at h
  simp only [Bool.or_eq_true, decide_eq_true_eq] at h
  rcases h with rfl | rfl
  · exact isBE_i
  · exact isBE_n
def lifB : MS := (.seq (.ite (.or (.not (.isi (.pk 4) [.tuple])) (.or (.op2 (.cmp .Eq) (.pk 4) (.tup .nil)) (.not (.isi (.op2 .ix (.pk 4) (.cst (.int 0))) [.str])))) (.seq (.ret (.cst (.bl false)))
    .nil) .nil)
    (.seq (.ite (.and (.op2 (.cmp .In) (.op2 .ix (.pk 4) (.cst (.int 0))) (.tup (.cons (.cst (.str "both")) (.cons (.cst (.str "either")) .nil)))) (.op2 (.cmp .Eq) (.bi .len (.cons (.pk 4) .nil)) (.cst (.int 3)))) (.seq (.asg 5 (.op2 (.bin .Add) (.pk 5) (.bi .list (.cons (.sl (.pk 4) (.cst (.int 1)) .nil) .nil))))
    .nil) (.seq (.ite (.not (.and (.op2 (.cmp .In) (.op2 .ix (.pk 4) (.cst (.int 0))) (.tup (.cons (.cst (.str "is")) (.cons (.cst (.str "not")) .nil)))) (.and (.op2 (.cmp .Eq) (.bi .len (.cons (.pk 4) .nil)) (.cst (.int 2))) (.call 19 (.cons (.op2 .ix (.pk 4) (.cst (.int 1))) .nil))))) (.seq (.ret (.cst (.bl false)))
    .nil) .nil)
    .nil))
    .nil))
/-- the slots within the loop over a level -/
def lifE (v0 : W) (s1 : SV) (d m : Int) (w : W) (acc : List W) : NV.Env := [some (.val v0), some s1, some (.val (.int d)), some (.val (.int m)), some (.val w), some (.own (false, acc))]
theorem lif_nt (n : Nat) (v0 : W) (s1 : SV) (d m : Int) (w : W) (acc : List W) (S : Sto) (h : isiW (res S w) [.tuple] = some false) : SS (callT T (n + 1)) lifB (lifE v0 s1 d m w acc) S (.rt (.val (.bl false))) (lifE v0 s1 d m w acc) S := by
  unfold lifB lifE
  repeat (walk_at "nv")
theorem lif_nil (n : Nat) (v0 : W) (s1 : SV) (d m : Int) (acc : List W) (S : Sto) : SS (callT T (n + 1)) lifB (lifE v0 s1 d m (.tup []) acc) S (.rt (.val (.bl false))) (lifE v0 s1 d m (.tup []) acc) S := by
  have h1 := p_eqtup0 (l := []) rfl
  unfold lifB lifE
  repeat (walk_at "nv")
theorem lif_ns (n : Nat) (v0 : W) (s1 : SV) (d m : Int) (a : W) (r acc : List W) (S : Sto) (hg : gdW (.tup (a :: r)) = true) (h : isTy .str a = false) : SS (callT T (n + 1)) lifB (lifE v0 s1 d m (.tup (a :: r)) acc) S (.rt (.val (.bl false))) (lifE v0 s1 d m (.tup (a :: r)) acc) S := by
  obtain ⟨xs, hx⟩ := gds_toD (l := a :: r) (by simp only [gdW, Bool.and_eq_true] at hg; exact hg.2)
  have h1 : PO (.cmp .Eq) (.tup (a :: r)) (.tup []) (.val (.bl false)) := p_eqtup0 hx
  have h2 : PO .ix (.tup (a :: r)) (.int 0) (.val a) := p_ixt (atI_at (j := 0) rfl (by simp))
  have ga : gdW a = true := by
    simp only [gdW, gdWs, Bool.and_eq_true] at hg
    exact hg.2.1
  have h3 : isiW (res S a) [.str] = some false := by
    rw [gd_res ga, gd_isi ga, List.any_cons, h]; rfl
  unfold lifB lifE
  repeat (walk_at "nv")
theorem lif_str (n : Nat) (v0 : W) (s1 : SV) (d m : Int) (z : Str) (r acc : List W) (S : Sto) (hg : gdW (.tup (.str z :: r)) = true) (hl : acc.length + r.length ≤ 1000) :
    SS (callT T (n + 1)) lifB (lifE v0 s1 d m (.tup (.str z :: r)) acc) S (if formed (.tup (.str z :: r)) then .nx else .rt (.val (.bl false))) (lifE v0 s1 d m (.tup (.str z :: r)) (if formed (.tup (.str z :: r)) then acc ++ innerW (.tup (.str z :: r)) else acc)) S := by
  obtain ⟨xs, hx⟩ := gds_toD (l := .str z :: r) (by simp only [gdW, Bool.and_eq_true] at hg; exact hg.2)
  have h1 : PO (.cmp .Eq) (.tup (.str z :: r)) (.tup []) (.val (.bl false)) := p_eqtup0 hx
  have h2 : PO .ix (.tup (.str z :: r)) (.int 0) (.val (.str z)) := p_ixt (atI_at (j := 0) rfl (by simp))
  have h3 := p_in2 (h := z) (a := "is") (b := "not")
  have h4 := p_in2 (h := z) (a := "both") (b := "either")
  have hr : gdWs r = true := by
    simp only [gdW, gdWs, Bool.and_eq_true] at hg
    exact hg.2.2
  have hlen : pBi .len [.tup (.str z :: r)] = some (.val (.int ((W.str z :: r).length : Nat))) := rfl
  have h5 := p_tail (a := .str z) (r := r)
  have h6 : PO (.bin .Add) (.lst acc) (.lst r) (.fresh (acc ++ r)) := p_addl hl
  cases hi : isIN z with
  | true =>
    have hb := excl hi
    have e : formed (.tup (.str z :: r)) = oneWord r := by simp only [formed, hi, if_true]
    have e2 : innerW (.tup (.str z :: r)) = [] := by simp only [innerW, hb]; rfl
    rw [e, e2, List.append_nil]
    have hi' := hi
    unfold isIN at hi'
    rw [hi'] at h3
    unfold isBE at hb
    rw [hb] at h4
    have e3 : (if oneWord r = true then acc else acc) = acc := by split <;> rfl
    rw [e3]
    match r, hg, hr, h1, h2, h3, h4, hlen with
    | [v], hg, hr, h1, h2, h3, h4, hlen =>
      have gv : gdW v = true := by simpa [gdWs] using hr
      have h5 : PO .ix (.tup [.str z, v]) (.int 1) (.val v) := p_ixt (atI_at (j := 1) rfl (by simp))
      have h6 := g_law_is_word n v S gv
      have h7 : PO (.cmp .Eq) (.int (([W.str z, v] : List W).length : Nat)) (.int 2) (.val (.bl true)) := p_eqint' rfl
      show SS _ _ _ _ (if wordW v then .nx else .rt (.val (.bl false))) _ _
      cases hw : wordW v <;> rw [hw] at h6
      · rw [if_neg (by decide)]
        unfold lifB lifE
        repeat (walk_at "nv")
      · rw [if_pos rfl]
        unfold lifB lifE
        repeat (walk_at "nv")
    | [], hg, hr, h1, h2, h3, h4, hlen =>
      have h7 : PO (.cmp .Eq) (.int (([W.str z] : List W).length : Nat)) (.int 2) (.val (.bl false)) := p_eqint' rfl
      show SS _ _ _ _ (.rt (.val (.bl false))) _ _
      unfold lifB lifE
      repeat (walk_at "nv")
    | v :: u :: t, hg, hr, h1, h2, h3, h4, hlen =>
      have h7 : PO (.cmp .Eq) (.int ((W.str z :: v :: u :: t : List W).length : Nat)) (.int 2) (.val (.bl false)) := p_eqint' (decide_eq_false (by simp only [List.length_cons]; omega))
      show SS _ _ _ _ (.rt (.val (.bl false))) _ _
      unfold lifB lifE
      repeat (walk_at "nv")
  | false =>
    have e : formed (.tup (.str z :: r)) = (isBE z && decide (r.length = 2)) := by simp only [formed, hi]; rfl
    have h7 : PO (.cmp .Eq) (.int ((W.str z :: r : List W).length : Nat)) (.int 3) (.val (.bl (decide (r.length = 2)))) := p_eqint' (by rw [decide_eq_decide, List.length_cons]; omega)
    have hi' := hi
    unfold isIN at hi'
    rw [hi'] at h3
    rw [e]
    cases hb : isBE z with
    | false =>
      rw [Bool.false_and, if_neg (by decide), if_neg (by decide)]
      unfold isBE at hb
      rw [hb] at h4
      unfold lifB lifE
      repeat (walk_at "nv")
    | true =>
      have e2 : innerW (.tup (.str z :: r)) = r := by simp only [innerW, hb]; rfl
      rw [e2, Bool.true_and]
      unfold isBE at hb
      rw [hb] at h4
      cases c : decide (r.length = 2) <;> rw [c] at h7
      · rw [if_neg (by decide), if_neg (by decide)]
        unfold lifB lifE
        repeat (walk_at "nv")
      · rw [if_pos rfl, if_pos rfl]
        unfold lifB lifE
        repeat (walk_at "nv")
theorem lif_turn (n : Nat) (v0 : W) (s1 : SV) (d m : Int) (w : W) (acc : List W) (S : Sto) (hg : gdW w = true) (hl : acc.length + 2 ≤ 1000) :
    ∃ ρ', SS (callT T (n + 1)) lifB (lifE v0 s1 d m w acc) S (if formed w then .nx else .rt (.val (.bl false))) ρ' S ∧ (formed w = true → ρ' = lifE v0 s1 d m w (acc ++ innerW w)) := by
  cases w with
  | tup l =>
    cases l with
    | nil => exact ⟨_, lif_nil n v0 s1 d m acc S, fun h => nomatch h⟩
    | cons a r =>
      cases a with
      | str z =>
        by_cases c : r.length ≤ 2
        · refine ⟨_, lif_str n v0 s1 d m z r acc S hg (by omega), fun h => ?_⟩
          rw [if_pos h]
        · have ef : formed (.tup (.str z :: r)) = false := by
            simp only [formed]
            split
            · cases r with
              | nil => simp at c
              | cons a r =>
                cases r with
                | nil => simp at c
                | cons b r => rfl
            · rw [decide_eq_false (by omega), Bool.and_false]
          obtain ⟨xs, hx⟩ := gds_toD (l := .str z :: r) (by simp only [gdW, Bool.and_eq_true] at hg; exact hg.2)
          have h1 : PO (.cmp .Eq) (.tup (.str z :: r)) (.tup []) (.val (.bl false)) := p_eqtup0 hx
          have h2 : PO .ix (.tup (.str z :: r)) (.int 0) (.val (.str z)) := p_ixt (atI_at (j := 0) rfl (by simp))
          have h3 := p_in2 (h := z) (a := "is") (b := "not")
          have h4 := p_in2 (h := z) (a := "both") (b := "either")
          have hlen : pBi .len [.tup (.str z :: r)] = some (.val (.int ((W.str z :: r).length : Nat))) := rfl
          have h7 : PO (.cmp .Eq) (.int ((W.str z :: r : List W).length : Nat)) (.int 3) (.val (.bl false)) := p_eqint' (decide_eq_false (by rw [List.length_cons]; omega))
          have h8 : PO (.cmp .Eq) (.int ((W.str z :: r : List W).length : Nat)) (.int 2) (.val (.bl false)) := p_eqint' (decide_eq_false (by rw [List.length_cons]; omega))
          rw [ef, if_neg (by decide)]
          refine ⟨lifE v0 s1 d m (.tup (.str z :: r)) acc, ?_, fun h => nomatch h⟩
          unfold lifB lifE
          generalize (decide (z = "both") || decide (z = "either")) = bc at h4 ⊢
          generalize (decide (z = "is") || decide (z = "not")) = bd at h3 ⊢
          cases bc <;> cases bd <;> repeat (walk_at "nv")
      | _ => exact ⟨_, lif_ns n v0 s1 d m _ r acc S hg rfl, fun h => nomatch h⟩
  | _ => first
    | exact ⟨_, lif_nt n v0 s1 d m _ acc S rfl, fun h => nomatch h⟩
    | (simp only [gdW] at hg; cases hg)
end K02
set_option Elab.async false
set_option linter.all false
set_option maxRecDepth 100000
set_option maxHeartbeats 1000000
namespace K02
open PySem PySem.Spec PyProof.Rows L2 NV
local macro_rules | `(tactic| walk_at "nv") => `(tactic| first
  | assumption
  | exact E_cst | exact AA_nil | exact RR_nil | exact O_nil | exact S_nil | exact SF_rt | exact E_gc | exact E_edict | exact FL_nil
  | exact A_pk rfl | apply A_v (hm := rfl) | apply AA_cons | apply RR_cons | apply O_some (hm := rfl)
  | apply S_seq | apply SF_nx | apply S_asg | apply S_ite | apply S_ret | exact S_mvv rfl | exact S_mvo rfl | apply S_put | apply S_par | apply S_expr | apply S_tgt | apply S_forr
  | apply E_op2 | apply E_bi | apply E_me | apply E_isi | apply E_not | apply E_ite | apply E_and | apply E_or | apply E_tup | apply E_lst | apply E_sl | apply E_call | apply E_nm | apply E_neg | apply E_mut | apply E_heap | apply I_rng | apply E_chain
  | apply SB_t (hb := by first | rfl | assumption | (rw [Bool.not_eq_true']; assumption) | (rw [Bool.not_eq_false']; assumption)) | apply SB_f (hb := by first | rfl | assumption | (rw [Bool.not_eq_true']; assumption) | (rw [Bool.not_eq_false']; assumption)) | apply EB_t (hb := by first | rfl | assumption | (rw [Bool.not_eq_true']; assumption) | (rw [Bool.not_eq_false']; assumption)) | apply EB_f (hb := by first | rfl | assumption | (rw [Bool.not_eq_true']; assumption) | (rw [Bool.not_eq_false']; assumption)) | apply CH_t (hb := by first | rfl | assumption | (rw [Bool.not_eq_true']; assumption) | (rw [Bool.not_eq_false']; assumption)) | exact CH_f (hb := by first | rfl | assumption | (rw [Bool.not_eq_true']; assumption) | (rw [Bool.not_eq_false']; assumption))
  | exact p_add | exact p_sub | exact ⟨rfl⟩ | exact List.Pairwise.nil | exact List.pairwise_singleton .. | rfl | decide)
theorem isFs_app : ∀ {a b : List W}, isFs (a ++ b) = (isFs a && isFs b)
  | [], b => by simp [isFs]
  | x :: a, b => by simp only [List.cons_append, isFs, isFs_app (a := a), Bool.and_assoc]
theorem sizeFs_app : ∀ {a b : List W}, sizeFs (a ++ b) = sizeFs a + sizeFs b
  | [], b => by simp [sizeFs]
  | x :: a, b => by simp only [List.cons_append, sizeFs, sizeFs_app (a := a)]; omega
theorem depthFs_app : ∀ {a b : List W}, depthFs (a ++ b) = max (depthFs a) (depthFs b)
  | [], b => by simp [depthFs]
  | x :: a, b => by simp only [List.cons_append, depthFs, depthFs_app (a := a)]; omega
theorem level_F : ∀ {l : List W}, l.all formed = true → isFs l = isFs (l.flatMap innerW) ∧ sizeFs l = l.length + sizeFs (l.flatMap innerW) ∧ depthFs l ≤ 1 + depthFs (l.flatMap innerW) ∧ (l ≠ [] → depthFs l = 1 + depthFs (l.flatMap innerW))
  | [], _ => by simp [isFs, sizeFs, depthFs]
  | a :: l, h => by
    rw [List.all_cons, Bool.and_eq_true] at h
    obtain ⟨e1, e2, e3⟩ := step_F h.1
    obtain ⟨f1, f2, f3, f4⟩ := level_F h.2
    rw [List.flatMap_cons]
    simp only [isFs, sizeFs, depthFs, isFs_app, sizeFs_app, depthFs_app, e1, e2, e3, f1, f2, List.length_cons]
    refine ⟨trivial, by omega, by omega, fun _ => ?_⟩
    cases l with
    | nil => simp [depthFs]
    | cons b l =>
      have f4 := f4 (by simp)
      omega
theorem isFs_formed : ∀ {l : List W}, isFs l = true → l.all formed = true
  | [], _ => rfl
  | a :: l, h => by
    simp only [isFs, Bool.and_eq_true] at h
    rw [List.all_cons, Bool.and_eq_true]
    exact ⟨isF_formed h.1, isFs_formed h.2⟩
theorem sizeFs_len : ∀ l : List W, l.length ≤ sizeFs l
  | [] => by simp [sizeFs]
  | a :: l => by
    have h1 := size_pos a
    have h2 := sizeFs_len l
    simp only [sizeFs, List.length_cons]; omega
def specB (l : List W) (d m : Int) : Bool := isFs l && (decide (d + depthFs l ≤ 20) && decide (m + sizeFs l ≤ 60))
theorem specB_no {l : List W} {d m : Int} (hl : l ≠ []) (h : 20 < d + 1 ∨ 60 < m + l.length ∨ l.all formed = false) : specB l d m = false := by
  unfold specB
  rw [Bool.eq_false_iff]
  intro z
  simp only [Bool.and_eq_true, decide_eq_true_eq] at z
  have h1 := sizeFs_len l
  have h2 : 1 ≤ depthFs l := by
    cases l with
    | nil => exact absurd rfl hl
    | cons a l =>
      have := depth_pos a
      simp only [depthFs]; omega
  rcases h with h | h | h
  · omega
  · omega
  · rw [isFs_formed z.1] at h; cases h
theorem specB_go {l : List W} {d m : Int} (hl : l ≠ []) (hf : l.all formed = true) : specB l d m = specB (l.flatMap innerW) (d + 1) (m + l.length) := by
  obtain ⟨e1, e2, _, e3⟩ := level_F hf
  have e3 := e3 hl
  unfold specB
  rw [e1, e2, e3, Bool.eq_iff_iff]
  simp only [Bool.and_eq_true, decide_eq_true_eq]
  constructor
  · rintro ⟨h1, h2, h3⟩; exact ⟨h1, by omega, by omega⟩
  · rintro ⟨h1, h2, h3⟩; exact ⟨h1, by omega, by omega⟩
theorem specB_one (v : W) : specB [v] 0 0 = isFm v := by
  unfold specB isFm
  have e1 : depthFs [v] = depthF v := by simp [depthFs]
  have e2 : sizeFs [v] = sizeF v := by simp [sizeFs]
  rw [e1, e2]
  simp only [isFs, Bool.and_true]
  rw [Bool.eq_iff_iff]
  simp only [Bool.and_eq_true, decide_eq_true_eq]
  constructor
  · rintro ⟨h1, h2, h3⟩; exact ⟨h1, by omega, by omega⟩
  · rintro ⟨h1, h2, h3⟩; exact ⟨h1, by omega, by omega⟩
def lvE (v0 : W) (s1 : SV) (d m : Int) (x : Option W) (acc : List W) : NV.Env := [some (.val v0), some s1, some (.val (.int d)), some (.val (.int m)), x.map SV.val, some (.own (false, acc))]
theorem lif_level (n : Nat) (v0 : W) (s1 : SV) (d m : Int) (S : Sto) : ∀ (l : List W) (x : Option W) (acc : List W), (∀ w ∈ l, gdW w = true) → acc.length + 2 * l.length ≤ 1000 →
    ∃ f ρ', FL (asgT (.tnm 4)) (callT T (n + 1)) lifB l (lvE v0 s1 d m x acc) S f ρ' S ∧ (l.all formed = true → f = .nx ∧ ∃ y, ρ' = lvE v0 s1 d m y (acc ++ l.flatMap innerW)) ∧ (l.all formed = false → f = .rt (.val (.bl false)))
  | [], x, acc, _, _ => ⟨.nx, _, FL_nil, fun _ => ⟨rfl, x, by simp⟩, fun h => nomatch h⟩
  | w :: l, x, acc, hg, hl => by
    rw [List.length_cons] at hl
    have gw := hg w (List.mem_cons_self ..)
    obtain ⟨ρ', h1, h2⟩ := lif_turn n v0 s1 d m w acc S gw (by omega)
    have ht : asgT (.tnm 4) w (lvE v0 s1 d m x acc) = some (lifE v0 s1 d m w acc) := by cases x <;> rfl
    cases hf : formed w with
    | false =>
      rw [hf, if_neg (by decide)] at h1
      refine ⟨_, ρ', FL_ret ht h1, fun h => ?_, fun _ => rfl⟩
      rw [List.all_cons, hf] at h; cases h
    | true =>
      rw [hf, if_pos rfl] at h1
      rw [h2 hf] at h1
      have hi := (inner_gd gw hf).2
      obtain ⟨f, ρ2, h3, h4, h5⟩ := lif_level n v0 s1 d m S l (some w) (acc ++ innerW w) (fun u hu => hg u (List.mem_cons_of_mem _ hu)) (by rw [List.length_append]; omega)
      refine ⟨f, ρ2, FL_cons ht h1 h3, fun h => ?_, fun h => ?_⟩
      · rw [List.all_cons, hf, Bool.true_and] at h
        rw [List.flatMap_cons, ← List.append_assoc]
        exact h4 h
      · rw [List.all_cons, hf, Bool.true_and] at h
        exact h5 h
def bfB : MS := (.seq (.par [2, 3, 5] (.cons (.op2 (.bin .Add) (.pk 2) (.cst (.int 1))) (.cons (.op2 (.bin .Add) (.pk 3) (.bi .len (.cons (.pk 1) .nil))) (.cons (.lst .nil) .nil))))
    (.seq (.ite (.or (.op2 (.cmp .Gt) (.pk 2) (.cst (.int 20))) (.op2 (.cmp .Gt) (.pk 3) (.cst (.int 60)))) (.seq (.ret (.cst (.bl false)))
    .nil) .nil)
    (.seq (.forr (.tnm 4) (.seq (.nm 1)) lifB)
    (.seq (.asg 1 (.nm 5))
    .nil))))
/-- the slots between levels -/
def bfE (v0 : W) (l : List W) (d m : Int) (k : Bool) (x : Option W) : NV.Env := match k, x with
  | true, none => [some (.val v0), some (.val (.lst l)), some (.val (.int d)), some (.val (.int m)), none, some (.val (.lst l))]
  | true, some x => [some (.val v0), some (.val (.lst l)), some (.val (.int d)), some (.val (.int m)), some (.val x), some (.val (.lst l))]
  | false, none => [some (.val v0), some (.own (false, l)), some (.val (.int d)), some (.val (.int m)), none, none]
  | false, some x => [some (.val v0), some (.own (false, l)), some (.val (.int d)), some (.val (.int m)), some (.val x), none]
theorem bf_over (n : Nat) (v0 : W) (l : List W) (d m : Int) (k : Bool) (x : Option W) (S : Sto) (h : 20 < d + 1 ∨ 60 < m + l.length) : ∃ ρ', SS (callT T (n + 1)) bfB (bfE v0 l d m k x) S (.rt (.val (.bl false))) ρ' S := by
  have hlen : pBi .len [.lst l] = some (.val (.int l.length)) := rfl
  unfold bfB
  by_cases c : 20 < d + 1
  · have d1 : decide ((20 : Int) < d + 1) = true := decide_eq_true c
    cases k <;> cases x <;> unfold bfE <;> apply Exists.intro <;> repeat (walk_at "nv")
  · have d1 : decide ((20 : Int) < d + 1) = false := decide_eq_false c
    have d2 : decide ((60 : Int) < m + l.length) = true := decide_eq_true (by omega)
    cases k <;> cases x <;> unfold bfE <;> apply Exists.intro <;> repeat (walk_at "nv")
theorem bf_turn (n : Nat) (v0 : W) (l : List W) (d m : Int) (k : Bool) (x : Option W) (S : Sto) (hg : ∀ w ∈ l, gdW w = true) (h1 : d + 1 ≤ 20) (h2 : m + l.length ≤ 60) (h0 : 0 ≤ m) :
    ∃ f ρ', SS (callT T (n + 1)) bfB (bfE v0 l d m k x) S f ρ' S ∧ (l.all formed = true → f = .nx ∧ ∃ y, ρ' = bfE v0 (l.flatMap innerW) (d + 1) (m + l.length) true y) ∧ (l.all formed = false → f = .rt (.val (.bl false))) := by
  have hlen : pBi .len [.lst l] = some (.val (.int l.length)) := rfl
  have d1 : decide ((20 : Int) < d + 1) = false := decide_eq_false (by omega)
  have d2 : decide ((60 : Int) < m + l.length) = false := decide_eq_false (by omega)
  obtain ⟨f, ρ', q1, q2, q3⟩ := lif_level n v0 (.val (.lst l)) (d + 1) (m + l.length) S l x [] hg (by simp; omega)
  cases hf : l.all formed with
  | false =>
    rw [q3 hf] at q1
    refine ⟨_, ρ', ?_, fun h => (nomatch h), fun _ => rfl⟩
    unfold bfB
    cases k <;> cases x <;> unfold bfE <;> unfold lvE at q1 <;> repeat (first | walk_at "nv" | apply I_ls)
  | true =>
    obtain ⟨rfl, y, rfl⟩ := q2 hf
    rw [List.nil_append] at q1
    refine ⟨_, bfE v0 (l.flatMap innerW) (d + 1) (m + l.length) true y, ?_, fun _ => ⟨rfl, y, rfl⟩, fun h => nomatch h⟩
    unfold bfB
    generalize l.flatMap innerW = li at q1 ⊢
    cases k <;> cases x <;> cases y <;> unfold bfE <;> unfold lvE at q1 <;> repeat (first | walk_at "nv" | apply I_ls)
theorem gds_of : ∀ {l : List W}, (∀ w ∈ l, gdW w = true) → gdWs l = true
  | [], _ => rfl
  | a :: l, h => by
    simp only [gdWs, Bool.and_eq_true]
    exact ⟨h a (List.mem_cons_self ..), gds_of fun w hw => h w (List.mem_cons_of_mem _ hw)⟩
theorem bf_loop (n : Nat) (v0 : W) (S : Sto) : ∀ (fuel : Nat) (l : List W) (d m : Int) (k : Bool) (x : Option W), (∀ w ∈ l, gdW w = true) → d ≤ 20 → 0 ≤ m → m ≤ 60 → 21 ≤ fuel + d →
    ∃ f ρ', WL (callT T (n + 1)) (.op2 (.cmp .NotEq) (.pk 1) (.lst .nil)) bfB fuel (bfE v0 l d m k x) S f ρ' S ∧ (specB l d m = true → f = .nx) ∧ (specB l d m = false → f = .rt (.val (.bl false)))
  | 0, l, d, m, k, x, hg, h1, h2, h3, h4 => by omega
  | fuel + 1, l, d, m, k, x, hg, h1, h2, h3, h4 => by
    obtain ⟨xs, hx⟩ := gds_toD (gds_of hg)
    have hne := p_nenil hx
    by_cases hl : l = []
    · subst hl
      have hne : PO (.cmp .NotEq) (.lst []) (.lst []) (.val (.bl false)) := hne
      refine ⟨.nx, bfE v0 [] d m k x, ?_, fun _ => rfl, fun h => ?_⟩
      · apply W_stop
        cases k <;> cases x <;> unfold bfE <;> repeat (walk_at "nv")
      · exfalso
        have : specB [] d m = true := by unfold specB; simp [isFs, depthFs, sizeFs]; omega
        rw [this] at h; cases h
    · have hne : PO (.cmp .NotEq) (.lst l) (.lst []) (.val (.bl true)) := by
        have e : l.isEmpty = false := by simpa using hl
        rw [e] at hne
        exact hne
      have ht : EV (callT T (n + 1)) (.op2 (.cmp .NotEq) (.pk 1) (.lst .nil)) (bfE v0 l d m k x) S (.val (.bl true)) (bfE v0 l d m k x) S := by
        cases k <;> cases x <;> unfold bfE <;> repeat (walk_at "nv")
      by_cases c : 20 < d + 1 ∨ 60 < m + l.length
      · obtain ⟨ρ', q⟩ := bf_over n v0 l d m k x S c
        refine ⟨_, ρ', W_ret ht q, fun h => ?_, fun _ => rfl⟩
        rw [specB_no hl (by rcases c with c | c; exact .inl c; exact .inr (.inl c))] at h; cases h
      · obtain ⟨f, ρ', q1, q2, q3⟩ := bf_turn n v0 l d m k x S hg (by omega) (by omega) h2
        cases hf : l.all formed with
        | false =>
          rw [q3 hf] at q1
          refine ⟨_, ρ', W_ret ht q1, fun h => ?_, fun _ => rfl⟩
          rw [specB_no hl (.inr (.inr hf))] at h; cases h
        | true =>
          obtain ⟨rfl, y, rfl⟩ := q2 hf
          have ig : ∀ w ∈ l.flatMap innerW, gdW w = true := fun w hw => by
            obtain ⟨u, hu, hw⟩ := List.mem_flatMap.mp hw
            exact (inner_gd (hg u hu) (List.all_eq_true.mp hf u hu)).1 w hw
          obtain ⟨f, ρ2, k1, k2, k3⟩ := bf_loop n v0 S fuel (l.flatMap innerW) (d + 1) (m + l.length) true y ig (by omega) (by omega) (by omega) (by omega)
          rw [specB_go hl hf]
          exact ⟨f, ρ2, W_go ht q1 k1, k2, k3⟩
theorem g_law_is_formula (n : Nat) (v : W) (S : Sto) (h : gdW v = true) : CC (callT T (n + 2)) i_law_is_formula [.val v] S (.val (.bl (isFm v))) [some (.val v)] S := by
  obtain ⟨f, ρ', k1, k2, k3⟩ := bf_loop n v S 4096 [v] 0 0 false none (fun p hp => by rw [List.mem_singleton] at hp; rw [hp]; exact h) (by omega) (by omega) (by omega) (by omega)
  rw [specB_one] at k2 k3
  have k1 : WL (callT T (n + 1)) (.op2 (.cmp .NotEq) (.pk 1) (.lst .nil)) bfB 4096 [some (.val v), some (.own (false, [v])), some (.val (.int 0)), some (.val (.int 0)), none, none] S f ρ' S := k1
  cases hb : isFm v with
  | true =>
    rw [k2 hb] at k1
    have hw := S_whl k1
    apply run_rt (hD := rfl) (hl := rfl)
    · show SS _ m_law_is_formula [some (.val v), none, none, none, none, none] _ _ _ _
      repeat (walk_at "nv")
    · cases ρ' <;> rfl
  | false =>
    rw [k3 hb] at k1
    have hw := S_whl k1
    apply run_rt (hD := rfl) (hl := rfl)
    · show SS _ m_law_is_formula [some (.val v), none, none, none, none, none] _ _ _ _
      repeat (walk_at "nv")
    · cases ρ' <;> rfl
end K02
set_option Elab.async false
set_option linter.all false
set_option maxRecDepth 100000
set_option maxHeartbeats 1000000
namespace NV
open PySem PySem.Spec PyProof.Rows L2
section
variable {cf : CallF} {ρ ρ1 ρ2 : Env} {S S1 S2 : Sto} {a m : M} {w : W} {l : List AV}
theorem E_hmut {k : Mu} {n : Nat} {xs0 xs ys : List W} (h1 : AV1 cf a ρ S (.val (.ref n)) ρ1 S1) (h0 : S1[n]? = some xs0) (h2 : AA cf m ρ1 S1 l ρ2 S2) (hx : S2[n]? = some xs) (hm : muE k xs ρ2 S2 l = some (w, ys)) :
    EV cf (.hmut k a m) ρ S (.val w) ρ2 (S2.set n ys) := ⟨by simp only [evE, h1.h, Out.bind_ok, h0, h2.h, hx, hm]⟩
end
theorem gdD_mono : ∀ {k : Nat} {w : W}, gdD k w = true → ∀ {j : Nat}, k ≤ j → gdD j w = true
  | 0, _, h, _, _ => by simp [gdD] at h
  | k + 1, w, h, j, hj => by
    obtain ⟨i, rfl⟩ : ∃ i, j = i + 1 := ⟨j - 1, by omega⟩
    cases w <;> simp only [gdD] at h ⊢ <;> first | (cases h; done) | skip
    · simp only [Bool.and_eq_true, List.all_eq_true] at h ⊢
      exact ⟨h.1, fun x hx => gdD_mono (h.2 x hx) (by omega)⟩
    · simp only [Bool.and_eq_true, List.all_eq_true] at h ⊢
      exact ⟨h.1, fun x hx => gdD_mono (h.2 x hx) (by omega)⟩
/-- shown in few signs -/
theorem repr_ok {w : W} {x : PyData} (h : w.toD = some x) (h1 : x.depth ≤ 64) (h2 : x.showable = true) (h3 : x.leavesShort 13 = true) (h4 : x.weight ≤ 2 ^ 20) : ∃ z, reprW w = some z := by
  have h6 := PyData.shown_fits (B := 13) (by omega) (by omega) h3 h4
  have e1 : dOk x = true := decide_eq_true h1
  have e2 : szOk x.shown.length = true := decide_eq_true h6
  exact ⟨x.shown, by simp only [reprW, h, e1, h2, e2, Bool.and_true, if_true]⟩
end NV
namespace K02
open PySem PySem.Spec PyProof.Rows L2 NV
local macro_rules | `(tactic| walk_at "nv") => `(tactic| first
  | assumption
  | exact E_cst | exact AA_nil | exact RR_nil | exact O_nil | exact S_nil | exact SF_rt | exact E_gc | exact E_edict | exact FL_nil
  | exact A_pk rfl | apply A_v (hm := rfl) | apply AA_cons | apply RR_cons | apply O_some (hm := rfl)
  | apply S_seq | apply SF_nx | apply S_asg | apply S_ite | apply S_ret | exact S_mvv rfl | exact S_mvo rfl | apply S_put | apply S_par | apply S_expr | apply S_tgt | apply S_forr
  | apply E_op2 | apply E_bi | apply E_me | apply E_isi | apply E_not | apply E_ite | apply E_and | apply E_or | apply E_tup | apply E_lst | apply E_sl | apply E_call | apply E_nm | apply E_neg | apply E_mut | apply E_heap | apply I_rng | apply E_chain
  | apply SB_t (hb := by first | rfl | assumption | (rw [Bool.not_eq_true']; assumption) | (rw [Bool.not_eq_false']; assumption)) | apply SB_f (hb := by first | rfl | assumption | (rw [Bool.not_eq_true']; assumption) | (rw [Bool.not_eq_false']; assumption)) | apply EB_t (hb := by first | rfl | assumption | (rw [Bool.not_eq_true']; assumption) | (rw [Bool.not_eq_false']; assumption)) | apply EB_f (hb := by first | rfl | assumption | (rw [Bool.not_eq_true']; assumption) | (rw [Bool.not_eq_false']; assumption)) | apply CH_t (hb := by first | rfl | assumption | (rw [Bool.not_eq_true']; assumption) | (rw [Bool.not_eq_false']; assumption)) | exact CH_f (hb := by first | rfl | assumption | (rw [Bool.not_eq_true']; assumption) | (rw [Bool.not_eq_false']; assumption))
  | exact p_add | exact p_sub | exact ⟨rfl⟩ | exact List.Pairwise.nil | exact List.pairwise_singleton .. | rfl | decide)
def Fm.pd : Fm → PyData
  | .lit neg z => .tuple [.str (if neg then "not" else "is"), .str z]
  | .bin e a b => .tuple [.str (if e then "either" else "both"), a.pd, b.pd]
theorem Fm.toD : ∀ F : Fm, F.w.toD = some F.pd
  | .lit neg z => rfl
  | .bin e a b => by
    have h1 := Fm.toD a
    have h2 := Fm.toD b
    simp only [Fm.w, Fm.pd, W.toD, W.toDs, h1, h2]
    rfl
theorem Fm.pd_depth : ∀ F : Fm, F.pd.depth = F.depth
  | .lit neg z => rfl
  | .bin e a b => by
    have h1 := Fm.pd_depth a
    have h2 := Fm.pd_depth b
    simp only [Fm.pd, PyData.depth, PyData.depthAll, h1, h2, Fm.depth]
    omega
theorem Fm.pd_show : ∀ F : Fm, F.pd.showable = true
  | .lit neg z => rfl
  | .bin e a b => by
    have h1 := Fm.pd_show a
    have h2 := Fm.pd_show b
    simp only [Fm.pd, PyData.showable, PyData.showableAll, h1, h2, Bool.and_self]
theorem Fm.pd_short : ∀ {F : Fm}, F.ok → F.pd.leavesShort 13 = true
  | .lit neg z, h => by
    rcases h with rfl | rfl | rfl <;> cases neg <;> decide +kernel
  | .bin e a b, h => by
    have h1 := Fm.pd_short h.1
    have h2 := Fm.pd_short h.2
    simp only [Fm.pd, PyData.leavesShort, PyData.leavesShortAll, h1, h2, Bool.and_true]
    cases e <;> decide +kernel
theorem Fm.pd_weight : ∀ {F : Fm}, F.ok → F.pd.weight ≤ 10 * F.size
  | .lit neg z, h => by
    rcases h with rfl | rfl | rfl <;> cases neg <;> decide +kernel
  | .bin e a b, h => by
    have h1 := Fm.pd_weight h.1
    have h2 := Fm.pd_weight h.2
    have h3 : (PyData.str (if e then "either" else "both")).weight ≤ 6 := by cases e <;> decide +kernel
    simp only [Fm.pd, PyData.weight, PyData.weightAll, Fm.size]
    simp only [PyData.weight] at h3
    omega
theorem Fm.repr {F : Fm} (h : F.Fit) : ∃ z, reprW F.w = some z := by
  have h1 := h.d
  have h2 := h.s
  have h3 := Fm.pd_weight h.ok
  exact repr_ok F.toD (by rw [Fm.pd_depth]; omega) F.pd_show (Fm.pd_short h.ok) (by omega)
theorem Fm.w_tup (F : Fm) : ∃ l, F.w = .tup l := by cases F <;> exact ⟨_, rfl⟩
theorem Fm.gdD : ∀ F : Fm, gdD (F.depth + 1) F.w = true
  | .lit neg z => by simp [Fm.w, Fm.depth, NV.gdD]
  | .bin e a b => by
    have h1 := gdD_mono (Fm.gdD a) (j := 1 + max a.depth b.depth) (by omega)
    have h2 := gdD_mono (Fm.gdD b) (j := 1 + max a.depth b.depth) (by omega)
    simp only [Fm.w, Fm.depth, NV.gdD, List.all_cons, List.all_nil, h1, h2, Bool.and_true, Bool.and_eq_true, decide_eq_true_eq]
    refine ⟨by simp, ?_⟩
    rw [Nat.add_comm]; rfl
theorem Fm.parts_gdD : ∀ (F : Fm), ∀ w ∈ F.parts, NV.gdD (F.depth + 1) w = true
  | .lit neg z, w, h => by
    rw [Fm.parts, List.mem_singleton] at h
    rw [h]; exact Fm.gdD _
  | .bin e a b, w, h => by
    have hd : (Fm.bin e a b).depth = 1 + max a.depth b.depth := rfl
    simp only [Fm.parts, List.mem_cons, List.mem_append] at h
    rcases h with h | h | h
    · rw [h]; exact Fm.gdD _
    · exact gdD_mono (Fm.parts_gdD a w h) (by omega)
    · exact gdD_mono (Fm.parts_gdD b w h) (by omega)
theorem lc_right (n : Nat) (S : Sto) (P : List W) (k : Bool) (a0 a6 : W) (x1 : Option SV) (c : M) (p : W → Bool) (hc : ∀ w ∈ P, EV (callT T n) c [some (.val a0), x1, none, none, none, none, some (.val a6), some (.val (.lst P)), some (.val w)] S (.val (.bl (p w))) [some (.val a0), x1, none, none, none, none, some (.val a6), some (.val (.lst P)), some (.val w)] S) (hl : P.length ≤ 1000) :
    EV (callT T n) (.lc [8] (.seq (.nm 7)) (.tnm 8) c (.nm 8)) [some (.val a0), x1, none, none, none, none, some (.val a6), some (if k then .val (.lst P) else .own (false, P)), none] S (.fresh (P.filter p)) [some (.val a0), x1, none, none, none, none, some (.val a6), some (.val (.lst P)), none] S := by
  have hi : II (callT T n) (.seq (.nm 7)) [some (.val a0), x1, none, none, none, none, some (.val a6), some (if k then .val (.lst P) else .own (false, P)), none] S P [some (.val a0), x1, none, none, none, none, some (.val a6), some (.val (.lst P)), none] S := by
    cases k <;> exact I_ls (E_nm rfl)
  have q := E_lcp (own := [8]) (tgt := .tnm 8) (cond := c) (elt := .nm 8) (P := p) (g := id) hi rfl (fun w hw => ?_) (Nat.le_trans hl line1000)
  · rw [List.map_id] at q
    exact q
  · exact ⟨_, rfl, _, hc w hw, fun _ => ⟨.val w, _, E_nm rfl, rfl, rfl⟩, fun _ => rfl⟩
theorem f_right (n : Nat) (S : Sto) (l tl P L : List W) (sz b e : Int) (z : Str)
    (hrep : pBi .repr [.tup l] = some (.val (.str z)))
    (h22 : ∀ S, CC (callT T n) i_law_parts [.val (.tup l)] S (.fresh P) [some (.val (.tup l))] S)
    (h7 : ∀ S, CC (callT T n) i_turned [.val (.tup l)] S (.val (.tup tl)) [some (.val (.tup l))] S)
    (h7' : ∀ S, CC (callT T n) i_turned [.val (.tup tl)] S (.val (.tup l)) [some (.val (.tup tl))] S)
    (h9 : ∀ S, CC (callT T n) i_size_of [.val (.tup l)] S (.val (.int sz)) [some (.val (.tup l))] S)
    (h11 : ∀ S, CC (callT T n) i_letters_of [.val (.tup l)] S (.fresh L) [some (.val (.tup l))] S)
    (h12 : ∀ S, CC (callT T n) i_links_of [.val (.tup l)] S (.val (.tup [.int b, .int e])) [some (.val (.tup l))] S)
    (h12' : ∀ S, CC (callT T n) i_links_of [.val (.tup tl)] S (.val (.tup [.int e, .int b])) [some (.val (.tup tl))] S)
    (h23 : ∀ S, CC (callT T n) i_law_turned [.val (.tup l)] S (.val (.tup tl)) [some (.val (.tup l))] S)
    (hP : ∀ w ∈ P, ∃ h r, w = .tup (.str h :: r)) (hl : P.length ≤ 1000) (hsz : (P.length : Int) = sz) (hL : P.filter isLit = L) (hb : ((P.filter (isHd "both")).length : Int) = b) (he : ((P.filter (isHd "either")).length : Int) = e)
    (hn : 30 ≤ n) (g1 : gdD 22 (.tup l) = true) (g2 : gdD 22 (.tup tl) = true) (g3 : L.all (gdD 22) = true) :
    CC (callT T (n + 1)) i_law_right [.val (.tup l)] S (.val (.bl true)) [some (.val (.tup l))] (S ++ [L ++ [.str "more"]]) := by
  have hLl : L.length ≤ 1000 := by rw [← hL]; exact Nat.le_trans (List.length_filter_le ..) hl
  have q1 := lc_right n S P false (.tup l) (.str z) none (.op2 (.cmp .In) (.op2 .ix (.pk 8) (.cst (.int 0))) (.tup (.cons (.cst (.str "is")) (.cons (.cst (.str "not")) .nil)))) isLit (fun w hw => by
    obtain ⟨hd, r, rfl⟩ := hP w hw
    have h1 : PO .ix (.tup (.str hd :: r)) (.int 0) (.val (.str hd)) := p_ixt (atI_at (j := 0) rfl (by simp))
    have h3 := p_in2 (h := hd) (a := "is") (b := "not")
    show EV _ _ _ _ (.val (.bl (decide (hd = "is") || decide (hd = "not")))) _ _
    repeat (walk_at "nv")) hl
  have qq := fun (y : Str) => lc_right n S P true (.tup l) (.str z) (some (.own (false, L))) (.op2 (.cmp .Eq) (.op2 .ix (.pk 8) (.cst (.int 0))) (.cst (.str y))) (isHd y) (fun w hw => by
    obtain ⟨hd, r, rfl⟩ := hP w hw
    have h1 : PO .ix (.tup (.str hd :: r)) (.int 0) (.val (.str hd)) := p_ixt (atI_at (j := 0) rfl (by simp))
    have h3 := p_eqstr (a := hd) (b := y)
    show EV _ _ _ _ (.val (.bl (decide (hd = y)))) _ _
    repeat (walk_at "nv")) hl
  have q2 := qq "both"
  have q3 := qq "either"
  rw [hL] at q1
  clear qq
  have l1 : pBi .len [.lst (P.filter (isHd "both"))] = some (.val (.int b)) := by rw [← hb]; rfl
  have l2 : pBi .len [.lst (P.filter (isHd "either"))] = some (.val (.int e)) := by rw [← he]; rfl
  have l3 : pBi .len [.lst P] = some (.val (.int sz)) := by rw [← hsz]; rfl
  generalize P.filter (isHd "both") = Pb at q2 l1
  generalize P.filter (isHd "either") = Pe at q3 l2
  clear hb he hL hP hsz
  have s1 : (S ++ [L])[S.length]? = some L := by simp
  have s2 : (S ++ [L]).set S.length (L ++ [.str "more"]) = S ++ [L ++ [.str "more"]] := by simp
  have mu : ∀ ρ S', muE .append L ρ S' [.val (.str "more")] = some (.non, L ++ [.str "more"]) := fun ρ S' => by
    simp only [muE]
    rw [if_pos (by have := line1000; have := sizeLine_eq; omega)]
  have t1 := Sm.refl (S ++ [L]) 22 _ g2
  have tp : ∀ S, Sm S 22 (.tup [.int b, .int e]) (.tup [.int b, .int e]) := fun S => Sm.refl S 22 _ rfl
  have tq : ∀ S, Sm S 22 (.tup [.int e, .int b]) (.tup [.int e, .int b]) := fun S => Sm.refl S 22 _ rfl
  have tL : ∀ S, Sm S 23 (.lst L) (.lst L) := fun S => (SmL.refl g3).lst hLl
  have c1 : Sm (S ++ [L]) 24 (.lst [.tup tl, .int sz, .ref S.length, .tup [.int b, .int e]]) (.lst [.tup tl, .int sz, .lst L, .tup [.int b, .int e]]) :=
    (SmL.cons (t1.mono (by omega)) (.cons .int (.cons ((SmL.refl g3).ref s1 hLl) (.cons ((tp _).mono (by omega)) .nil)))).lst (by simp)
  have c2 : Sm (S ++ [L]) 24 (.lst [.tup tl, .int sz, .lst L, .tup [.int b, .int e]]) (.lst [.tup tl, .int sz, .lst L, .tup [.int b, .int e]]) :=
    (SmL.cons (t1.mono (by omega)) (.cons .int (.cons (tL _) (.cons ((tp _).mono (by omega)) .nil)))).lst (by simp)
  have k1 := g_same (S ++ [L]) 25 n (.lst [.lst [.tup tl, .int sz, .ref S.length, .tup [.int b, .int e]], .lst [.tup tl, .int sz, .lst L, .tup [.int b, .int e]]]) (.lst [.lst [.tup tl, .int sz, .lst L, .tup [.int b, .int e]], .lst [.tup tl, .int sz, .lst L, .tup [.int b, .int e]]])
    ((SmL.cons c1 (.cons c2 .nil)).lst (by simp)) (by omega)
  have k2 := g_same (S ++ [L]) 22 n (.tup l) (.tup l) (Sm.refl _ 22 _ g1) (by omega)
  have k3 := g_same (S ++ [L ++ [.str "more"]]) 24 n (.lst [.lst L, .tup [.int e, .int b]]) (.lst [.lst L, .tup [.int e, .int b]]) ((SmL.cons (tL _) (.cons ((tq _).mono (by omega)) .nil)).lst (by simp)) (by omega)
  rw [← s2] at k3 ⊢
  clear s2 t1 tp tq tL c1 c2 g1 g2 g3
  have e0 : PO .ix (.lst [.tup tl, .int sz, .ref S.length, .tup [.int b, .int e]]) (.int 0) (.val (.tup tl)) := p_ixl rfl
  have e2 : PO .ix (.lst [.tup tl, .int sz, .ref S.length, .tup [.int b, .int e]]) (.int 2) (.val (.ref S.length)) := p_ixl rfl
  have e3 : PO .ix (.tup [.int b, .int e]) (.int 0) (.val (.int b)) := p_ixt rfl
  have e4 : PO .ix (.tup [.int b, .int e]) (.int 1) (.val (.int e)) := p_ixt rfl
  have e5 : PO (.cmp .Eq) (.str z) (.str z) (.val (.bl true)) := by
    have q := p_eqstr (a := z) (b := z)
    rw [decide_eq_true rfl] at q
    exact q
  apply run_rt (hD := rfl) (hl := rfl)
  · show SS _ m_law_right [some (.val (.tup l)), none, none, none, none, none, none, none, none] _ _ _ _
    repeat (first | exact h22 _ | exact h7 _ | exact h7' _ | exact h9 _ | exact h11 _ | exact h12 _ | exact h12' _ | exact h23 _ | walk_at "nv" | exact mu _ _ | apply E_callk | apply E_hmut)
  · rfl
theorem g_right (n : Nat) (S : Sto) {F : Fm} (h : F.Fit) (hn : 30 ≤ n) : ∃ L, CC (callT T (n + 1)) i_law_right [.val F.w] S (.val (.bl true)) [some (.val F.w)] (S ++ [L]) := by
  obtain ⟨z, hz⟩ := Fm.repr h
  have ht := h.turn
  have h22 := fun S => g_law_parts S F n (by have := h.d; omega) (by have := h.s; omega)
  have h7 := fun S => g_turned n S h (by omega)
  have h7' := fun S => g_turned n S ht (by omega)
  have h9 := fun S => g_size_of n S h (by omega)
  have h11 := fun S => g_letters_of n S h (by omega)
  have h12 := fun S => g_links_of n S h (by omega)
  have h12' := fun S => g_links_of n S ht (by omega)
  have h23 := fun S => g_law_turned S F n h.ok (by have := h.d; omega)
  obtain ⟨c1, c2⟩ := F.cnt_turn
  have g1 := gdD_mono F.gdD (j := 22) (by have := h.d; omega)
  have g2 := gdD_mono F.turn.gdD (j := 22) (by have := ht.d; omega)
  rw [Fm.turn_turn] at h7'
  obtain ⟨l, e1⟩ := F.w_tup
  obtain ⟨tl, e2⟩ := F.turn.w_tup
  rw [e1] at h22 h7 h7' h9 h11 h12 h23 g1 hz ⊢
  rw [e2] at h7 h7' h12' h23 g2
  rw [c1, c2] at h12'
  refine ⟨_, f_right n S l tl F.parts _ _ _ _ z ?_ h22 h7 h7' h9 h11 h12 h12' h23 F.parts_hd (by rw [Fm.parts_len]; have := h.s; omega) (by rw [Fm.parts_len]) rfl rfl rfl hn g1 g2 ?_⟩
  · simp only [pBi, hz]; rfl
  · rw [List.all_eq_true]
    intro w hw
    exact gdD_mono (F.parts_gdD w (List.mem_filter.mp hw).1) (by have := h.d; omega)
end K02
set_option Elab.async false
set_option linter.all false
set_option maxRecDepth 100000
set_option maxHeartbeats 1000000
namespace NV
open PySem PySem.Spec PyProof.Rows L2
section
variable {cf : CallF}
/-- a comprehension whose items change the slots -/
theorem lc_inv {tgt : W → Env → Option Env} {F : Env → Sto → Out (Option W)} {own : List Nat} {Inv : List W → Env → Sto → Prop} {R : W → Prop}
    (step : ∀ w ws ρ S, Inv (w :: ws) ρ S → ∃ ρ1 x ρ2 S2, tgt w ρ = some ρ1 ∧ F ρ1 S = .ok (some x) ρ2 S2 ∧ R x ∧ Inv ws (wipeE ρ2 own) S2) :
    ∀ ws acc ρ S, Inv ws ρ S → (∀ x ∈ acc, R x) → acc.length + ws.length ≤ sizeLine → ∃ l ρ' S', lcLoop tgt F own ws acc ρ S = .ok l ρ' S' ∧ Inv [] ρ' S' ∧ (∀ x ∈ l, R x) ∧ l.length = acc.length + ws.length
  | [], acc, ρ, S, h, hr, _ => ⟨acc, ρ, S, rfl, h, hr, by simp⟩
  | w :: ws, acc, ρ, S, h, hr, hl => by
    obtain ⟨ρ1, x, ρ2, S2, h1, h2, h3, h4⟩ := step w ws ρ S h
    rw [List.length_cons] at hl
    obtain ⟨l, ρ', S', k1, k2, k3, k4⟩ := lc_inv step ws (acc ++ [x]) (wipeE ρ2 own) S2 h4 (fun y hy => by
      rcases List.mem_append.mp hy with hy | hy
      · exact hr y hy
      · rw [List.mem_singleton] at hy; rw [hy]; exact h3) (by rw [List.length_append, List.length_singleton]; omega)
    refine ⟨l, ρ', S', ?_, k2, k3, ?_⟩
    · simp only [lcLoop, h1, h2]
      rw [if_pos (by omega)]
      exact k1
    · rw [k4, List.length_append, List.length_singleton, List.length_cons]; omega
theorem E_lci {own : List Nat} {src tgt elt : M} {ws : List W} {ρ ρ1 : Env} {S S1 : Sto} {Inv : List W → Env → Sto → Prop} {R : W → Prop}
    (hi : II cf src ρ S ws ρ1 S1) (hf : own.all (freeS ρ1) = true)
    (step : ∀ w ws ρ S, Inv (w :: ws) ρ S → ∃ ρ1 r ρ2 S2, asgT tgt w ρ = some ρ1 ∧ EV cf elt ρ1 S r ρ2 S2 ∧ R r.frz ∧ Inv ws (wipeE ρ2 own) S2)
    (h0 : Inv ws (wipeE ρ1 own) S1) (hl : ws.length ≤ sizeLine) :
    ∃ l ρ' S', EV cf (.lc own src tgt (.cst (.bl true)) elt) ρ S (.fresh l) (backE ρ1 ρ' own) S' ∧ Inv [] ρ' S' ∧ (∀ x ∈ l, R x) ∧ l.length = ws.length := by
  obtain ⟨l, ρ', S', k1, k2, k3, k4⟩ := lc_inv (tgt := asgT tgt) (F := fun ρ S => (evE cf (.cst (.bl true)) ρ S).bind fun x ρ S => match x with
          | .val (.bl true) => (evE cf elt ρ S).bind fun y ρ S => .ok (some y.frz) ρ S
          | .val (.bl false) => .ok none ρ S
          | _ => .stuck) (own := own) (Inv := Inv) (R := R) (fun w ws ρ S h => by
    obtain ⟨ρ1, r, ρ2, S2, h1, h2, h3, h4⟩ := step w ws ρ S h
    exact ⟨ρ1, r.frz, ρ2, S2, h1, by simp only [evE, Out.bind_ok, h2.h], h3, h4⟩) ws [] _ _ h0 (fun x hx => nomatch hx) (by simpa using hl)
  refine ⟨l, ρ', S', ⟨?_⟩, k2, k3, by simpa using k4⟩
  simp only [evE, hi.h, Out.bind_ok, if_pos hf]
  simp only [evE, Out.bind_ok] at k1
  rw [k1]
end
end NV
namespace K02
open PySem PySem.Spec PyProof.Rows L2 NV
local macro_rules | `(tactic| walk_at "nv") => `(tactic| first
  | assumption
  | exact E_cst | exact AA_nil | exact RR_nil | exact O_nil | exact S_nil | exact SF_rt | exact E_gc | exact E_edict | exact FL_nil
  | exact A_pk rfl | apply A_v (hm := rfl) | apply AA_cons | apply RR_cons | apply O_some (hm := rfl)
  | apply S_seq | apply SF_nx | apply S_asg | apply S_ite | apply S_ret | exact S_mvv rfl | exact S_mvo rfl | apply S_put | apply S_par | apply S_expr | apply S_tgt | apply S_forr
  | apply E_op2 | apply E_bi | apply E_me | apply E_isi | apply E_not | apply E_ite | apply E_and | apply E_or | apply E_tup | apply E_lst | apply E_sl | apply E_call | apply E_nm | apply E_neg | apply E_mut | apply E_heap | apply I_rng | apply E_chain
  | apply SB_t (hb := by first | rfl | assumption | (rw [Bool.not_eq_true']; assumption) | (rw [Bool.not_eq_false']; assumption)) | apply SB_f (hb := by first | rfl | assumption | (rw [Bool.not_eq_true']; assumption) | (rw [Bool.not_eq_false']; assumption)) | apply EB_t (hb := by first | rfl | assumption | (rw [Bool.not_eq_true']; assumption) | (rw [Bool.not_eq_false']; assumption)) | apply EB_f (hb := by first | rfl | assumption | (rw [Bool.not_eq_true']; assumption) | (rw [Bool.not_eq_false']; assumption)) | apply CH_t (hb := by first | rfl | assumption | (rw [Bool.not_eq_true']; assumption) | (rw [Bool.not_eq_false']; assumption)) | exact CH_f (hb := by first | rfl | assumption | (rw [Bool.not_eq_true']; assumption) | (rw [Bool.not_eq_false']; assumption))
  | exact p_add | exact p_sub | exact ⟨rfl⟩ | exact List.Pairwise.nil | exact List.pairwise_singleton .. | rfl | decide)
theorem f_bent_lit (n : Nat) (g : List W) (h : Str) (r : List W) (odd : W) (S : Sto) (hi : isIN h = true) :
    CC (callT T (n + 1)) i_law_bent_at [.own (true, g), .val (.tup (.str h :: r)), .val odd] S (.val odd) [some (.own (true, g)), some (.val (.tup (.str h :: r))), some (.val odd)] S := by
  have h1 : PO .ix (.tup (.str h :: r)) (.int 0) (.val (.str h)) := p_ixt (atI_at (j := 0) rfl (by simp))
  have h2 := p_in2 (h := h) (a := "is") (b := "not")
  unfold isIN at hi
  rw [hi] at h2
  apply run_rt (hD := rfl) (hl := rfl)
  · show SS _ m_law_bent_at [some (.own (true, g)), some (.val (.tup (.str h :: r))), some (.val odd), none] _ _ _ _
    repeat (walk_at "nv")
  · rfl
theorem f_bent_stop (n : Nat) (g g1 : List W) (h : Str) (r : List W) (odd : W) (S : Sto) (hi : isIN h = false)
    (hr : CC (callT T n) i_law_random [.own (true, g), .val (.int 3)] S (.val (.int 0)) [some (.own (true, g1)), some (.val (.int 3))] S) :
    CC (callT T (n + 1)) i_law_bent_at [.own (true, g), .val (.tup (.str h :: r)), .val odd] S (.val odd) [some (.own (true, g1)), some (.val (.tup (.str h :: r))), some (.val odd)] S := by
  have h1 : PO .ix (.tup (.str h :: r)) (.int 0) (.val (.str h)) := p_ixt (atI_at (j := 0) rfl (by simp))
  have h2 := p_in2 (h := h) (a := "is") (b := "not")
  have h3 : PO (.cmp .Eq) (.int 0) (.int 0) (.val (.bl true)) := p_eqint' rfl
  unfold isIN at hi
  rw [hi] at h2
  apply run_rt (hD := rfl) (hl := rfl)
  · show SS _ m_law_bent_at [some (.own (true, g)), some (.val (.tup (.str h :: r))), some (.val odd), none] _ _ _ _
    repeat (walk_at "nv")
  · rfl
theorem f_bent_go (n : Nat) (g g1 g2 g3 : List W) (h : Str) (A B v odd : W) (c : Int) (s : Bool) (S : Sto) (hi : isIN h = false) (hc : c ≠ 0)
    (hr : CC (callT T n) i_law_random [.own (true, g), .val (.int 3)] S (.val (.int c)) [some (.own (true, g1)), some (.val (.int 3))] S)
    (hr2 : CC (callT T n) i_law_random [.own (true, g1), .val (.int 2)] S (.val (.int (if s then 1 else 0))) [some (.own (true, g2)), some (.val (.int 2))] S)
    (hs : CC (callT T n) i_law_bent_at [.own (true, g2), .val (if s then B else A), .val odd] S (.val v) [some (.own (true, g3)), some (.val (if s then B else A)), some (.val odd)] S) :
    CC (callT T (n + 1)) i_law_bent_at [.own (true, g), .val (.tup [.str h, A, B]), .val odd] S (.val (.tup (if s then [.str h, A, v] else [.str h, v, B]))) [some (.own (true, g3)), some (.val (.tup [.str h, A, B])), some (.val odd)] S := by
  have h1 : PO .ix (.tup [.str h, A, B]) (.int 0) (.val (.str h)) := p_ixt (atI_at (j := 0) rfl (by simp))
  have h2 := p_in2 (h := h) (a := "is") (b := "not")
  have h3 : PO (.cmp .Eq) (.int c) (.int 0) (.val (.bl false)) := p_eqint' (decide_eq_false hc)
  unfold isIN at hi
  rw [hi] at h2
  cases s with
  | false =>
    have h4 : PO .ix (.tup [.str h, A, B]) (.int (1 + 0)) (.val A) := p_ixt (atI_at (j := 1) rfl (by simp))
    have h5 : pSl (.tup [.str h, A, B]) none (some (1 + 0)) = some (.val (.tup [.str h])) := by kernel_rfl
    have h6 : pSl (.tup [.str h, A, B]) (some (1 + 0 + 1)) none = some (.val (.tup [B])) := by kernel_rfl
    have h7 : PO (.bin .Add) (.tup [.str h]) (.tup [v]) (.val (.tup [.str h, v])) := ⟨by kernel_rfl⟩
    have h8 : PO (.bin .Add) (.tup [.str h, v]) (.tup [B]) (.val (.tup [.str h, v, B])) := ⟨by kernel_rfl⟩
    have hr2 : CC (callT T n) i_law_random [.own (true, g1), .val (.int 2)] S (.val (.int 0)) [some (.own (true, g2)), some (.val (.int 2))] S := hr2
    have hs : CC (callT T n) i_law_bent_at [.own (true, g2), .val A, .val odd] S (.val v) [some (.own (true, g3)), some (.val A), some (.val odd)] S := hs
    show CC _ _ _ _ (.val (.tup [.str h, v, B])) _ _
    apply run_rt (hD := rfl) (hl := rfl)
    · show SS _ m_law_bent_at [some (.own (true, g)), some (.val (.tup [.str h, A, B])), some (.val odd), none] _ _ _ _
      repeat (walk_at "nv")
    · rfl
  | true =>
    have h4 : PO .ix (.tup [.str h, A, B]) (.int (1 + 1)) (.val B) := p_ixt (atI_at (j := 2) rfl (by simp))
    have h5 : pSl (.tup [.str h, A, B]) none (some (1 + 1)) = some (.val (.tup [.str h, A])) := by kernel_rfl
    have h6 : pSl (.tup [.str h, A, B]) (some (1 + 1 + 1)) none = some (.val (.tup [])) := by kernel_rfl
    have h7 : PO (.bin .Add) (.tup [.str h, A]) (.tup [v]) (.val (.tup [.str h, A, v])) := ⟨by kernel_rfl⟩
    have h8 : PO (.bin .Add) (.tup [.str h, A, v]) (.tup []) (.val (.tup [.str h, A, v])) := ⟨by kernel_rfl⟩
    have hr2 : CC (callT T n) i_law_random [.own (true, g1), .val (.int 2)] S (.val (.int 1)) [some (.own (true, g2)), some (.val (.int 2))] S := hr2
    have hs : CC (callT T n) i_law_bent_at [.own (true, g2), .val B, .val odd] S (.val v) [some (.own (true, g3)), some (.val B), some (.val odd)] S := hs
    show CC _ _ _ _ (.val (.tup [.str h, A, v])) _ _
    apply run_rt (hD := rfl) (hl := rfl)
    · show SS _ m_law_bent_at [some (.own (true, g)), some (.val (.tup [.str h, A, B])), some (.val odd), none] _ _ _ _
      repeat (walk_at "nv")
    · rfl
theorem g_bent_at (n : Nat) (S : Sto) {odd : W} (ho : gdW odd = true) : ∀ (F : Fm) {g : List W} {k : Int}, F.ok → GenOk g k → k + 2 * F.depth < 2 ^ 29 →
    ∃ v g', CC (callT T (n + 3 + F.depth)) i_law_bent_at [.own (true, g), .val F.w, .val odd] S (.val v) [some (.own (true, g')), some (.val F.w), some (.val odd)] S ∧ gdW v = true ∧ GenOk g' (k + 2 * F.depth)
  | .lit neg z, g, k, _, hg, hk => by
    refine ⟨odd, g, ?_, ho, hg.mono (by omega)⟩
    cases neg
    · exact f_bent_lit _ g "is" [.str z] odd S (by decide +kernel)
    · exact f_bent_lit _ g "not" [.str z] odd S (by decide +kernel)
  | .bin e A B, g, k, o, hg, hk => by
    have hd : (Fm.bin e A B).depth = 1 + max A.depth B.depth := rfl
    obtain ⟨h, hw, hi, hh⟩ : ∃ h : Str, (Fm.bin e A B).w = .tup [.str h, A.w, B.w] ∧ isIN h = false ∧ h.length ≤ 1000 := by
      cases e
      · exact ⟨"both", rfl, by decide +kernel, by decide +kernel⟩
      · exact ⟨"either", rfl, by decide +kernel, by decide +kernel⟩
    rw [hw]
    have gA := Fm.gd o.1
    have gB := Fm.gd o.2
    obtain ⟨c, g1, q1, q2, q3⟩ := g_random (n + max A.depth B.depth + 1) hg (by omega) 3 S (by omega)
    by_cases hc : c = 0
    · subst hc
      refine ⟨odd, g1, ?_, ho, q3.mono (by omega)⟩
      have := f_bent_stop (n + max A.depth B.depth + 1 + 2) g g1 h [A.w, B.w] odd S hi q1
      rw [show n + max A.depth B.depth + 1 + 2 + 1 = n + 3 + (Fm.bin e A B).depth by omega] at this
      exact this
    · obtain ⟨s, g2, p1, p2, p3⟩ := g_random (n + max A.depth B.depth + 1) q3 (by omega) 2 S (by omega)
      by_cases hs : s = 0
      · subst hs
        obtain ⟨v, g3, r1, r2, r3⟩ := g_bent_at (n + (max A.depth B.depth - A.depth)) S ho A (g := g2) (k := k + 1 + 1) o.1 p3 (by omega)
        rw [show n + (max A.depth B.depth - A.depth) + 3 + A.depth = n + max A.depth B.depth + 1 + 2 by omega] at r1
        have := f_bent_go (n + max A.depth B.depth + 1 + 2) g g1 g2 g3 h A.w B.w v odd c false S hi hc q1 p1 r1
        rw [show n + max A.depth B.depth + 1 + 2 + 1 = n + 3 + (Fm.bin e A B).depth by omega] at this
        refine ⟨_, g3, this, ?_, r3.mono (by omega)⟩
        show gdW (.tup [.str h, v, B.w]) = true
        simp only [gdW, gdWs, r2, gB, Bool.and_true, Bool.and_eq_true, decide_eq_true_eq]
        exact ⟨by simp, hh⟩
      · have hs : s = 1 := by omega
        subst hs
        obtain ⟨v, g3, r1, r2, r3⟩ := g_bent_at (n + (max A.depth B.depth - B.depth)) S ho B (g := g2) (k := k + 1 + 1) o.2 p3 (by omega)
        rw [show n + (max A.depth B.depth - B.depth) + 3 + B.depth = n + max A.depth B.depth + 1 + 2 by omega] at r1
        have := f_bent_go (n + max A.depth B.depth + 1 + 2) g g1 g2 g3 h A.w B.w v odd c true S hi hc q1 p1 r1
        rw [show n + max A.depth B.depth + 1 + 2 + 1 = n + 3 + (Fm.bin e A B).depth by omega] at this
        refine ⟨_, g3, this, ?_, r3.mono (by omega)⟩
        show gdW (.tup [.str h, A.w, v]) = true
        simp only [gdW, gdWs, r2, gA, Bool.and_true, Bool.and_eq_true, decide_eq_true_eq]
        exact ⟨by simp, hh⟩
def ODD1 : List W := [.non, .int 0, .bl true, .str "p", .tup [], .lst [], .tup [.str "is"], .tup [.str "is", .str "both"], .tup [.str "is", .str ""], .tup [.str "is", .str "P"], .tup [.str "not", .tup [.str "is", .str "p"]], .tup [.str "both", .tup [.str "is", .str "p"]], .tup [.str "or", .tup [.str "is", .str "p"], .tup [.str "is", .str "p"]]]
def ODD2 : List W := [.tup [.str "either", .tup [.str "is", .str "p"], .tup [.str "is", .str "q"], .tup [.str "is", .str "q"]], .lst [.str "is", .str "p"], .tup [.str "is", .str "abcdefghi"], .tup [.str "is", .str "a b"], .tup [.str "is", .int 3], .tup [.int 3, .str "p"]]
theorem ODD_gd : ∀ w ∈ ODD1 ++ ODD2, gdW w = true := by
  have h : (ODD1 ++ ODD2).all gdW = true := by decide +kernel
  exact List.all_eq_true.mp h
theorem ODD_len : (ODD1 ++ ODD2).length = 19 := by decide +kernel
theorem g_bent (n : Nat) (S : Sto) {F : Fm} {g : List W} {k : Int} (o : F.ok) (hg : GenOk g k) (hk : k + 40 * F.depth < 2 ^ 29) :
    ∃ l g', CC (callT T (n + 4 + F.depth)) i_law_bent [.own (true, g), .val F.w] S (.fresh l) [some (.own (true, g')), some (.val F.w)] S ∧ (∀ v ∈ l, gdW v = true) ∧ l.length = 20 ∧ GenOk g' (k + 40 * F.depth) := by
  have e1 : SS (callT T (n + 3 + F.depth)) (.asg 2 (.lst (.cons (.cst .non) (.cons (.cst (.int 0)) (.cons (.cst (.bl true)) (.cons (.cst (.str "p")) (.cons (.tup .nil) (.cons (.lst .nil) (.cons (.tup (.cons (.cst (.str "is")) .nil)) (.cons (.tup (.cons (.cst (.str "is")) (.cons (.cst (.str "both")) .nil))) (.cons (.tup (.cons (.cst (.str "is")) (.cons (.cst (.str "")) .nil))) (.cons (.tup (.cons (.cst (.str "is")) (.cons (.cst (.str "P")) .nil))) (.cons (.tup (.cons (.cst (.str "not")) (.cons (.tup (.cons (.cst (.str "is")) (.cons (.cst (.str "p")) .nil))) .nil))) (.cons (.tup (.cons (.cst (.str "both")) (.cons (.tup (.cons (.cst (.str "is")) (.cons (.cst (.str "p")) .nil))) .nil))) (.cons (.tup (.cons (.cst (.str "or")) (.cons (.tup (.cons (.cst (.str "is")) (.cons (.cst (.str "p")) .nil))) (.cons (.tup (.cons (.cst (.str "is")) (.cons (.cst (.str "p")) .nil))) .nil)))) .nil))))))))))))))) [some (.own (true, g)), some (.val F.w), none, none] S .nx [some (.own (true, g)), some (.val F.w), some (.own (false, ODD1)), none] S := ⟨by kernel_rfl⟩
  have e2 : SS (callT T (n + 3 + F.depth)) (.asg 2 (.op2 (.bin .Add) (.pk 2) (.lst (.cons (.tup (.cons (.cst (.str "either")) (.cons (.tup (.cons (.cst (.str "is")) (.cons (.cst (.str "p")) .nil))) (.cons (.tup (.cons (.cst (.str "is")) (.cons (.cst (.str "q")) .nil))) (.cons (.tup (.cons (.cst (.str "is")) (.cons (.cst (.str "q")) .nil))) .nil))))) (.cons (.lst (.cons (.cst (.str "is")) (.cons (.cst (.str "p")) .nil))) (.cons (.tup (.cons (.cst (.str "is")) (.cons (.cst (.str "abcdefghi")) .nil))) (.cons (.tup (.cons (.cst (.str "is")) (.cons (.cst (.str "a b")) .nil))) (.cons (.tup (.cons (.cst (.str "is")) (.cons (.cst (.int 3)) .nil))) (.cons (.tup (.cons (.cst (.int 3)) (.cons (.cst (.str "p")) .nil))) .nil))))))))) [some (.own (true, g)), some (.val F.w), some (.own (false, ODD1)), none] S .nx [some (.own (true, g)), some (.val F.w), some (.own (false, ODD1 ++ ODD2)), none] S := ⟨by kernel_rfl⟩
  have hi : II (callT T (n + 3 + F.depth)) (.seq (.nm 2)) [some (.own (true, g)), some (.val F.w), some (.own (false, ODD1 ++ ODD2)), none] S (ODD1 ++ ODD2) [some (.own (true, g)), some (.val F.w), some (.val (.lst (ODD1 ++ ODD2))), none] S := I_ls (E_nm rfl)
  have hlen := ODD_len
  obtain ⟨l, ρ', S', k1, k2, k3, k4⟩ := E_lci (own := [3]) (tgt := .tnm 3) (elt := .call 26 (.cons (.pk 0) (.cons (.nm 1) (.cons (.nm 3) .nil)))) (R := fun v => gdW v = true)
    (Inv := fun ws ρ S' => S' = S ∧ (∀ w ∈ ws, gdW w = true) ∧ ws.length ≤ 19 ∧ ∃ g', ρ = [some (.own (true, g')), some (.val F.w), some (.val (.lst (ODD1 ++ ODD2))), none] ∧ GenOk g' (k + (19 - ws.length) * (2 * F.depth)))
    hi rfl (fun w ws ρ S' h => by
      obtain ⟨rfl, hgd, hl, g', rfl, hg'⟩ := h
      rw [List.length_cons] at hl hg'
      have m1 : (19 - ((ws.length + 1 : Nat) : Int)) * (2 * F.depth) + 2 * F.depth = (19 - (ws.length : Int)) * (2 * F.depth) := by
        have : (19 - ((ws.length + 1 : Nat) : Int)) = (19 - (ws.length : Int)) - 1 := by omega
        rw [this, Int.sub_mul]; omega
      have m2 : (19 - (ws.length : Int)) * (2 * F.depth) ≤ 19 * (2 * F.depth) := Int.mul_le_mul_of_nonneg_right (by omega) (by omega)
      obtain ⟨v, g2, r1, r2, r3⟩ := g_bent_at n S' (hgd w (List.mem_cons_self ..)) F (g := g') (k := k + (19 - ((ws.length + 1 : Nat) : Int)) * (2 * F.depth)) o hg' (by omega)
      refine ⟨[some (.own (true, g')), some (.val F.w), some (.val (.lst (ODD1 ++ ODD2))), some (.val w)], .val v, [some (.own (true, g2)), some (.val F.w), some (.val (.lst (ODD1 ++ ODD2))), some (.val w)], S', rfl, ?_, r2, rfl, fun u hu => hgd u (List.mem_cons_of_mem _ hu), by omega, g2, rfl, r3.mono (by omega)⟩
      clear m1 m2 hgd
      generalize ODD1 ++ ODD2 = O
      generalize F.w = fw at r1 ⊢
      repeat (walk_at "nv"))
    ⟨rfl, ODD_gd, by rw [hlen]; omega, g, rfl, hg.mono (by rw [hlen]; omega)⟩ (by rw [hlen]; have := line1000; omega)
  obtain ⟨rfl, _, _, g', rfl, hg'⟩ := k2
  have p1 : PO (.bin .Add) (.lst [F.w]) (.lst l) (.fresh ([F.w] ++ l)) := p_addl (by rw [k4, hlen]; simp)
  refine ⟨[F.w] ++ l, g', ?_, fun v hv => ?_, by rw [List.length_append, k4, hlen]; rfl, hg'.mono (by simp; omega)⟩
  · have q : EV (callT T (n + 3 + F.depth)) (.lc [3] (.seq (.nm 2)) (.tnm 3) (.cst (.bl true)) (.call 26 (.cons (.pk 0) (.cons (.nm 1) (.cons (.nm 3) .nil))))) [some (.own (true, g)), some (.val F.w), some (.own (false, ODD1 ++ ODD2)), none] S' (.fresh l) [some (.own (true, g')), some (.val F.w), some (.val (.lst (ODD1 ++ ODD2))), none] S' := k1
    rw [show n + 4 + F.depth = n + 3 + F.depth + 1 by omega]
    generalize ODD1 ++ ODD2 = O at q e2 hi
    generalize F.w = fw at q e1 e2 p1 ⊢
    apply run_rt (hD := rfl) (hl := rfl)
    · show SS _ m_law_bent [some (.own (true, g)), some (.val fw), none, none] _ _ _ _
      apply S_seq
      · exact e1
      · apply SF_nx
        apply S_seq
        · exact e2
        · apply SF_nx
          repeat (walk_at "nv")
    · rfl
  · rcases List.mem_append.mp hv with h | h
    · rw [List.mem_singleton] at h; rw [h]; exact Fm.gd o
    · exact k3 v h
end K02
set_option Elab.async false
set_option linter.all false
set_option maxRecDepth 100000
set_option maxHeartbeats 1000000
namespace NV
open PySem PySem.Spec PyProof.Rows L2
theorem join_cps : ∀ l : List Str, (Str.join "" l).cps.toList = (l.map fun y => y.cps.toList).flatten
  | [] => rfl
  | [x] => by simp [Str.join]
  | x :: y :: r => by
    have ih := join_cps (y :: r)
    have e : (Str.join "" (x :: y :: r)) = x ++ "" ++ Str.join "" (y :: r) := rfl
    have ap : ∀ a b : Str, (a ++ b).cps.toList = a.cps.toList ++ b.cps.toList := fun a b => by
      show (a.cps ++ b.cps).toList = _
      rw [Array.toList_append]
    have e0 : (Str.ofString "").cps.toList = [] := by decide +kernel
    rw [e, ap, ap, ih, e0]
    simp
theorem txtjoin_cps (l : List Str) : (Txt.join "" l).cps.toList = (l.map fun y => y.cps.toList).flatten := by
  show (Builtin.Str.glued "" l).cps.toList = _
  rw [StrLaws.glued_eq_join, join_cps]
theorem wStrs_map : ∀ l : List Str, wStrs (l.map W.str) = some l
  | [] => rfl
  | a :: l => by simp only [List.map_cons, wStrs, wStrs_map l, Option.map_some]
end NV
namespace K02
open PySem PySem.Spec PyProof.Rows L2 NV
local macro_rules | `(tactic| walk_at "nv") => `(tactic| first
  | assumption
  | exact E_cst | exact AA_nil | exact RR_nil | exact O_nil | exact S_nil | exact SF_rt | exact E_gc | exact E_edict | exact FL_nil
  | exact A_pk rfl | apply A_v (hm := rfl) | apply AA_cons | apply RR_cons | apply O_some (hm := rfl)
  | apply S_seq | apply SF_nx | apply S_asg | apply S_ite | apply S_ret | exact S_mvv rfl | exact S_mvo rfl | apply S_put | apply S_par | apply S_expr | apply S_tgt | apply S_forr
  | apply E_op2 | apply E_bi | apply E_me | apply E_isi | apply E_not | apply E_ite | apply E_and | apply E_or | apply E_tup | apply E_lst | apply E_sl | apply E_call | apply E_nm | apply E_neg | apply E_mut | apply E_heap | apply I_rng | apply E_chain
  | apply SB_t (hb := by first | rfl | assumption | (rw [Bool.not_eq_true']; assumption) | (rw [Bool.not_eq_false']; assumption)) | apply SB_f (hb := by first | rfl | assumption | (rw [Bool.not_eq_true']; assumption) | (rw [Bool.not_eq_false']; assumption)) | apply EB_t (hb := by first | rfl | assumption | (rw [Bool.not_eq_true']; assumption) | (rw [Bool.not_eq_false']; assumption)) | apply EB_f (hb := by first | rfl | assumption | (rw [Bool.not_eq_true']; assumption) | (rw [Bool.not_eq_false']; assumption)) | apply CH_t (hb := by first | rfl | assumption | (rw [Bool.not_eq_true']; assumption) | (rw [Bool.not_eq_false']; assumption)) | exact CH_f (hb := by first | rfl | assumption | (rw [Bool.not_eq_true']; assumption) | (rw [Bool.not_eq_false']; assumption))
  | exact p_add | exact p_sub | exact ⟨rfl⟩ | exact List.Pairwise.nil | exact List.pairwise_singleton .. | rfl | decide)
def wr0 : MS := (.asg 1 (.lst (.cons (.cst (.str "both")) (.cons (.cst (.str "either")) (.cons (.cst (.str "not")) (.cons (.cst (.str "close")) (.cons (.cst (.str "cut")) (.cons (.cst (.str "order")) (.cons (.cst (.str "end")) (.cons (.cst (.str "pair")) .nil))))))))))
def wr1 : MS := (.asg 2 (.op2 (.bin .Add) (.op2 (.bin .Add) (.op2 (.bin .Add) (.pk 1) (.lc [6] (.seq (.nm 1)) (.tnm 6) (.cst (.bl true)) (.op2 (.bin .Add) (.pk 6) (.cst (.str "s"))))) (.lc [6] (.seq (.nm 1)) (.tnm 6) (.cst (.bl true)) (.sl (.pk 6) (.cst (.int 1)) .nil))) (.lst (.cons (.cst (.str "a")) (.cons (.cst (.str "z")) (.cons (.cst (.str "p0")) (.cons (.cst (.str "abcdefgh")) (.cons (.cst (.str "a1234567")) (.cons (.cst (.str "abcdefghi")) (.cons (.cst (.str "a12345678")) (.cons (.cst (.str "")) (.cons (.cst (.str "A")) (.cons (.cst (.str "Both")) (.cons (.cst (.str "aB")) (.cons (.cst (.str "1a")) (.cons (.cst (.str "9")) (.cons (.cst (.str "_a")) .nil)))))))))))))))))
def wr2 : MS := (.asg 2 (.op2 (.bin .Add) (.pk 2) (.lst (.cons (.cst (.str "a_")) (.cons (.cst (.str "a b")) (.cons (.cst (.str " a")) (.cons (.cst (.str "a ")) (.cons (.cst (.str "a\n")) (.cons (.cst (.str "a-1")) (.cons (.cst (.str "a.")) (.cons (.cst .non) (.cons (.cst (.int 0)) (.cons (.cst (.int 1)) (.cons (.cst (.bl true)) (.cons (.cst (.bl false)) (.cons (.tup .nil) (.cons (.lst .nil) (.cons .edict (.cons (.tup (.cons (.cst (.str "a")) .nil)) (.cons (.lst (.cons (.cst (.str "a")) .nil)) (.cons (.tup (.cons (.cst (.str "is")) (.cons (.cst (.str "a")) .nil))) (.cons (.lst (.cons (.lst (.cons (.cst (.str "a")) .nil)) .nil)) (.cons (.op2 (.bin .Pow) (.cst (.int 10)) (.cst (.int 17))) .nil)))))))))))))))))))))))
def wrJ : M := (.me .join (.cst (.str "")) (.cons (.lc [7] (.rng (.cons (.call 14 (.cons (.pk 0) (.cons (.cst (.int 11)) .nil))) .nil)) (.tnm 7) (.cst (.bl true)) (.call 17 (.cons (.pk 0) (.cons (.lst (.cons (.cst (.str "a")) (.cons (.cst (.str "q")) (.cons (.cst (.str "z")) (.cons (.cst (.str "0")) (.cons (.cst (.str "9")) (.cons (.cst (.str "b")) (.cons (.cst (.str "P")) (.cons (.cst (.str " ")) .nil))))))))) .nil)))) .nil))
def wrD : MS := (.seq (.expr (.mut .append 2 (.cons (.me .join (.cst (.str "")) (.cons (.lc [7] (.rng (.cons (.call 14 (.cons (.pk 0) (.cons (.cst (.int 11)) .nil))) .nil)) (.tnm 7) (.cst (.bl true)) (.call 17 (.cons (.pk 0) (.cons (.lst (.cons (.cst (.str "a")) (.cons (.cst (.str "q")) (.cons (.cst (.str "z")) (.cons (.cst (.str "0")) (.cons (.cst (.str "9")) (.cons (.cst (.str "b")) (.cons (.cst (.str "P")) (.cons (.cst (.str " ")) .nil))))))))) .nil)))) .nil)) .nil))) .nil)
def wrSrc : M := (.rng (.cons (.call 14 (.cons (.pk 0) (.cons (.cst (.int 11)) .nil))) .nil))
def wrElt : M := (.call 17 (.cons (.pk 0) (.cons (.lst (.cons (.cst (.str "a")) (.cons (.cst (.str "q")) (.cons (.cst (.str "z")) (.cons (.cst (.str "0")) (.cons (.cst (.str "9")) (.cons (.cst (.str "b")) (.cons (.cst (.str "P")) (.cons (.cst (.str " ")) .nil))))))))) .nil)))
def wrT : MS := (.seq (.asg 5 (.bi .repr (.cons (.pk 4) .nil))) (.seq (.ite (.or (.not (.call 18 (.cons (.lst (.cons (.call 0 (.cons (.nm 4) .nil)) (.cons (.callk 0 [0] .nil (.cons (.nm 4) .nil)) .nil))) (.cons (.op2 (.bin .Mult) (.lst (.cons (.call 19 (.cons (.nm 4) .nil)) .nil)) (.cst (.int 2))) .nil)))) (.op2 (.cmp .NotEq) (.bi .repr (.cons (.pk 4) .nil)) (.pk 5))) (.seq (.ret (.cst (.bl false))) .nil) .nil) .nil))
def wCL : List W := [.str "both", .str "either", .str "not", .str "close", .str "cut", .str "order", .str "end", .str "pair"]
def wV1 : List W := [.str "both", .str "either", .str "not", .str "close", .str "cut", .str "order", .str "end", .str "pair", .str "boths", .str "eithers", .str "nots", .str "closes", .str "cuts", .str "orders", .str "ends", .str "pairs", .str "oth", .str "ither", .str "ot", .str "lose", .str "ut", .str "rder", .str "nd", .str "air", .str "a", .str "z", .str "p0", .str "abcdefgh", .str "a1234567", .str "abcdefghi", .str "a12345678", .str "", .str "A", .str "Both", .str "aB", .str "1a", .str "9", .str "_a"]
def wV2 : List W := [.str "a_", .str "a b", .str " a", .str "a ", .str "a\n", .str "a-1", .str "a.", .non, .int 0, .int 1, .bl true, .bl false, .tup [], .lst [], .dct [] [], .tup [.str "a"], .lst [.str "a"], .tup [.str "is", .str "a"], .lst [.lst [.str "a"]], .int 100000000000000000]
/-- a short text of plain signs -/
def okZ (z : Str) : Prop := z.length ≤ 10 ∧ ∀ c ∈ z.cps.toList, c < 16 ^ 8
def wrCH : List Str := ["a", "q", "z", "0", "9", "b", "P", " "]
theorem join_okZ {l : List W} (h : ∀ x ∈ l, x ∈ wrCH.map W.str) (hl : l.length ≤ 10) : ∃ z, pMe .join (.str "") [.lst l] = some (.val (.str z)) ∧ okZ z := by
  obtain ⟨ys, rfl, hy⟩ : ∃ ys : List Str, l = ys.map W.str ∧ ∀ y ∈ ys, y ∈ wrCH := by
    clear hl
    induction l with
    | nil => exact ⟨[], rfl, fun y hy => nomatch hy⟩
    | cons a l ih =>
      obtain ⟨ys, rfl, hy⟩ := ih fun x hx => h x (List.mem_cons_of_mem _ hx)
      obtain ⟨y, h1, rfl⟩ := List.mem_map.mp (h a (List.mem_cons_self ..))
      exact ⟨y :: ys, rfl, fun u hu => by
        rcases List.mem_cons.mp hu with e | hu
        · rw [e]; exact h1
        · exact hy u hu⟩
  rw [List.length_map] at hl
  have ones : ∀ y ∈ wrCH, y.length = 1 ∧ ∀ c ∈ y.cps.toList, c < 16 ^ 8 := by decide +kernel
  have h0 : (Str.ofString "").length = 0 := by decide
  have hs : ∀ {zs : List Str}, (∀ y ∈ zs, y ∈ wrCH) → (zs.map (·.length)).sum = zs.length ∧ ((zs.map fun y => y.cps.toList).flatten).length = zs.length := fun {zs} hz => by
    induction zs with
    | nil => exact ⟨rfl, rfl⟩
    | cons a r ih =>
      obtain ⟨i1, i2⟩ := ih fun x hx => hz x (List.mem_cons_of_mem _ hx)
      have o := (ones a (hz a (List.mem_cons_self ..))).1
      have o2 : a.cps.toList.length = 1 := by rw [Array.length_toList]; exact o
      simp only [List.map_cons, List.sum_cons, List.length_cons, List.flatten_cons, List.length_append, i1, i2, o, o2]
      omega
  obtain ⟨s1, s2⟩ := hs hy
  refine ⟨Txt.join "" ys, ?_, ?_, ?_⟩
  · simp only [pMe, wStrs_map, Option.bind_some, h0]
    rw [if_pos (by rw [s1]; simp; omega)]
  · show (Txt.join "" ys).cps.size ≤ 10
    rw [← Array.length_toList, txtjoin_cps, s2]; omega
  · intro c hc
    rw [txtjoin_cps] at hc
    obtain ⟨x, hx, hc⟩ := List.mem_flatten.mp hc
    obtain ⟨y, hy', rfl⟩ := List.mem_map.mp hx
    exact (ones y (hy y hy')).2 c hc
def wrE (g vals : List W) (x : Option W) (s : Option W) : NV.Env := [some (.own (true, g)), some (.val (.lst wCL)), some (.own (false, vals)), x.map SV.val, none, none, none, s.map SV.val]
theorem p_rngI {r : Int} (h : 0 ≤ r) (h2 : r ≤ 1000000) : rngL [.int r] = some ((List.range r.toNat).map fun (i : Nat) => .int i) := by
  have := p_rng (n := r.toNat) (by omega)
  rw [Int.toNat_of_nonneg h] at this
  exact this
theorem wr_item (n : Nat) (S : Sto) {g : List W} {k : Int} (hg : GenOk g k) (hk : k + 11 < 2 ^ 29) (vals : List W) (t : W) :
    ∃ z g', EV (callT T (n + 3)) wrJ (wrE g vals (some t) none) S (.val (.str z)) (wrE g' vals (some t) none) S ∧ okZ z ∧ GenOk g' (k + 11) := by
  obtain ⟨r, g1, q1, q2, q3⟩ := g_random (n + 1) hg (by omega) 11 S (by omega)
  have hr := p_rngI q2.1 (by omega)
  have hi : II (callT T (n + 3)) wrSrc (wrE g vals (some t) none) S ((List.range r.toNat).map fun (i : Nat) => .int i) (wrE g1 vals (some t) none) S := by
    refine I_rng (l := [.val (.int r)]) (ws := [.int r]) ?_ rfl hr
    clear hr
    refine AA_cons (x := .val (RV.frz (.val (.int r)))) (A_v ?_ rfl) AA_nil
    show EV _ _ [some (.own (true, g)), some (.val (.lst wCL)), some (.own (false, vals)), some (.val t), none, none, none, none] _ _ [some (.own (true, g1)), some (.val (.lst wCL)), some (.own (false, vals)), some (.val t), none, none, none, none] _
    repeat (walk_at "nv")
  obtain ⟨l, ρ', S', k1, k2, k3, k4⟩ := E_lci (own := [7]) (tgt := .tnm 7) (elt := wrElt) (R := fun v => v ∈ wrCH.map W.str)
    (Inv := fun ws ρ S' => S' = S ∧ ws.length ≤ 10 ∧ ∃ g', ρ = wrE g' vals (some t) none ∧ GenOk g' (k + 1 + (10 - ws.length)))
    hi rfl (fun w ws ρ S' h => by
      obtain ⟨rfl, hl, g', rfl, hg'⟩ := h
      rw [List.length_cons] at hl hg'
      obtain ⟨v, g2, r1, r2, r3⟩ := g_pick n hg' (by omega) (wrCH.map W.str) S' (by decide +kernel)
      refine ⟨wrE g' vals (some t) (some w), .val v, wrE g2 vals (some t) (some w), S', rfl, ?_, r2, rfl, by omega, g2, rfl, r3.mono (by omega)⟩
      show EV _ wrElt [some (.own (true, g')), some (.val (.lst wCL)), some (.own (false, vals)), some (.val t), none, none, none, some (.val w)] _ _ [some (.own (true, g2)), some (.val (.lst wCL)), some (.own (false, vals)), some (.val t), none, none, none, some (.val w)] _
      clear hr hi
      generalize wCL = cl
      have r1 : CC (callT T (n + 3)) i_law_pick [.own (true, g'), .val (.lst [.str "a", .str "q", .str "z", .str "0", .str "9", .str "b", .str "P", .str " "])] S' (.val v) [some (.own (true, g2)), some (.val (.lst [.str "a", .str "q", .str "z", .str "0", .str "9", .str "b", .str "P", .str " "]))] S' := r1
      unfold wrElt
      repeat (walk_at "nv"))
    ⟨rfl, by rw [List.length_map, List.length_range]; omega, g1, rfl, q3.mono (by rw [List.length_map, List.length_range]; omega)⟩ (by rw [List.length_map, List.length_range]; have := line1000; omega)
  obtain ⟨rfl, _, g', rfl, hg'⟩ := k2
  obtain ⟨z, z1, z2⟩ := join_okZ k3 (by rw [k4, List.length_map, List.length_range]; omega)
  refine ⟨z, g', ?_, z2, hg'.mono (by simp; omega)⟩
  have q : EV (callT T (n + 3)) (.lc [7] wrSrc (.tnm 7) (.cst (.bl true)) wrElt) (wrE g vals (some t) none) S' (.fresh l) (wrE g' vals (some t) none) S' := k1
  clear hr hi k1
  show EV _ (.me .join (.cst (.str "")) (.cons (.lc [7] wrSrc (.tnm 7) (.cst (.bl true)) wrElt) .nil)) _ _ _ _ _
  repeat (walk_at "nv")
/-- a value for the tests of words -/
structure OkV (v : W) : Prop where
  r : ∀ S, res S v = v
  w1 : ∀ n S, CC (callT T (n + 1)) i_is_word [.val v] S (.val (.bl (wordW v))) [some (.val v)] S
  w2 : ∀ n S, CC (callT T (n + 1)) i_law_is_word [.val v] S (.val (.bl (wordW v))) [some (.val v)] S
  z : ∃ z, pBi .repr [v] = some (.val (.str z))
theorem OkV.gd {v : W} (h : gdW v = true) (hz : ∃ z, pBi .repr [v] = some (.val (.str z))) : OkV v := ⟨gd_res h, fun n S => g_is_word n v S h, fun n S => g_law_is_word n v S h, hz⟩
theorem OkV.ed : OkV (.dct [] []) := ⟨fun _ => rfl, fun n S => f_is_word_ns n _ S rfl, fun n S => f_law_is_word_ns n _ S rfl, ⟨_, rfl⟩⟩
theorem OkV.z' {z : Str} (h : okZ z) : OkV (.str z) := by
  refine .gd (by simp only [gdW, decide_eq_true_eq]; have := h.1; omega) ?_
  have h3 : PyData.leavesShort 13 (.str z) = true := by
    simp only [PyData.leavesShort, List.all_eq_true, decide_eq_true_eq]
    exact h.2
  have h4 : PyData.weight (.str z) ≤ 2 ^ 20 := by
    have := h.1
    show z.cps.size ≤ _
    have : z.cps.size ≤ 10 := this
    omega
  obtain ⟨y, e⟩ := repr_ok (w := .str z) (x := .str z) rfl (Nat.zero_le _) rfl h3 h4
  exact ⟨y, by simp only [pBi, e]; rfl⟩
def isRep (v : W) : Bool := match pBi .repr [v] with
  | some (.val (.str _)) => true
  | _ => false
theorem isRep_ok {v : W} (h : isRep v = true) : ∃ z, pBi .repr [v] = some (.val (.str z)) := by
  unfold isRep at h
  split at h
  · rename_i z e; exact ⟨z, e⟩
  · cases h
def isEd : W → Bool
  | .dct [] [] => true
  | _ => false
theorem VALS_ok : ∀ v ∈ wV1 ++ wV2, OkV v := by
  have h : (wV1 ++ wV2).all (fun v => isEd v || (gdW v && isRep v)) = true := by decide +kernel
  intro v hv
  have := List.all_eq_true.mp h v hv
  rw [Bool.or_eq_true, Bool.and_eq_true] at this
  rcases this with h | ⟨h1, h2⟩
  · have : v = .dct [] [] := by
      unfold isEd at h
      split at h
      · rfl
      · cases h
    rw [this]; exact .ed
  · exact .gd h1 (isRep_ok h2)
theorem wr_draw (n : Nat) (S : Sto) (w : W) {g : List W} {k : Int} (hg : GenOk g k) (hk : k + 11 < 2 ^ 29) (vals : List W) (hl : vals.length ≤ 900) :
    ∃ z g', SS (callT T (n + 3)) wrD (wrE g vals (some w) none) S .nx (wrE g' (vals ++ [.str z]) (some w) none) S ∧ okZ z ∧ GenOk g' (k + 11) := by
  obtain ⟨z, g', h1, h2, h3⟩ := wr_item n S hg hk vals w
  refine ⟨z, g', ?_, h2, h3⟩
  have mu : ∀ ρ, muE .append vals ρ S [.val (.str z)] = some (.non, vals ++ [.str z]) := fun ρ => by
    simp only [muE]
    rw [if_pos (by have := line1000; omega)]
  have q : EV (callT T (n + 3)) (.mut .append 2 (.cons wrJ .nil)) (wrE g vals (some w) none) S (.val .non) (wrE g' (vals ++ [.str z]) (some w) none) S := by
    have := E_mut (k := .append) (i := 2) (w := .non) (ys := vals ++ [.str z]) (cf := callT T (n + 3)) (ρ := wrE g vals (some w) none) (S := S) (xs0 := (false, vals)) (xs := (false, vals)) (m := .cons wrJ .nil) (l := [.val (RV.frz (.val (.str z)))]) rfl (AA_cons (A_v h1 rfl) AA_nil) rfl (mu _)
    exact this
  show SS _ (.seq (.expr (.mut .append 2 (.cons wrJ .nil))) .nil) _ _ _ _ _
  exact S_seq (S_expr q) (SF_nx S_nil)
theorem g_same2 (n : Nat) (S : Sto) (b : Bool) (hn : 2 ≤ n) : CC (callT T n) i_law_same [.val (.lst [.bl b, .bl b]), .val (.lst [.bl b, .bl b])] S (.val (.bl true)) [some (.val (.lst [.bl b, .bl b])), some (.val (.lst [.bl b, .bl b]))] S :=
  g_same S 2 n _ _ ((SmL.cons .bl (.cons .bl .nil)).lst (by simp)) hn
def wvE (g : List W) (vals t : W) (x : Option (W × W)) : NV.Env := match x with
  | none => [some (.own (true, g)), some (.val (.lst wCL)), some (.val vals), some (.val t), none, none, none, none]
  | some (v, z) => [some (.own (true, g)), some (.val (.lst wCL)), some (.val vals), some (.val t), some (.val v), some (.val z), none, none]
theorem wr_test (n : Nat) (S : Sto) (g : List W) (vals t v : W) (hv : OkV v) (x : Option (W × W)) : ∃ ρ1 y, asgT (.tnm 4) v (wvE g vals t x) = some ρ1 ∧ SS (callT T (n + 2)) wrT ρ1 S .nx (wvE g vals t (some y)) S := by
  obtain ⟨z, hz⟩ := hv.z
  have hz : pBi .repr [res S v] = some (.val (.str z)) := by rw [hv.r]; exact hz
  have w1 := hv.w1 (n + 1) S
  have w2 := hv.w2 (n + 1) S
  have s := g_same2 (n + 2) S (wordW v) (by omega)
  generalize wordW v = b at w1 w2 s
  have m : PO (.bin .Mult) (.lst [.bl b]) (.int 2) (.fresh [.bl b, .bl b]) := ⟨by kernel_rfl⟩
  have e : PO (.cmp .NotEq) (.str z) (.str z) (.val (.bl (!true))) := by
    have q := p_nestr (a := z) (b := z)
    rw [decide_eq_true rfl] at q
    exact q
  unfold wrT
  cases x with
  | none =>
    refine ⟨[some (.own (true, g)), some (.val (.lst wCL)), some (.val vals), some (.val t), some (.val v), none, none, none], (v, .str z), rfl, ?_⟩
    unfold wvE
    generalize wCL = cl
    repeat (first | walk_at "nv" | apply E_callk)
  | some p =>
    obtain ⟨v0, z0⟩ := p
    refine ⟨[some (.own (true, g)), some (.val (.lst wCL)), some (.val vals), some (.val t), some (.val v), some (.val z0), none, none], (v, .str z), rfl, ?_⟩
    unfold wvE
    generalize wCL = cl
    repeat (first | walk_at "nv" | apply E_callk)
theorem g_words (n : Nat) (S : Sto) {g : List W} {k : Int} (hg : GenOk g k) (hk : k + 132 < 2 ^ 29) :
    ∃ g', CC (callT T (n + 4)) i_law_words_right [.own (true, g)] S (.val (.bl true)) [some (.own (true, g'))] S ∧ GenOk g' (k + 132) := by
  have e0 : SS (callT T (n + 3)) wr0 [some (.own (true, g)), none, none, none, none, none, none, none] S .nx [some (.own (true, g)), some (.own (false, wCL)), none, none, none, none, none, none] S := ⟨by kernel_rfl⟩
  have e1 : SS (callT T (n + 3)) wr1 [some (.own (true, g)), some (.own (false, wCL)), none, none, none, none, none, none] S .nx [some (.own (true, g)), some (.val (.lst wCL)), some (.own (false, wV1)), none, none, none, none, none] S := ⟨by kernel_rfl⟩
  have e2 : SS (callT T (n + 3)) wr2 [some (.own (true, g)), some (.val (.lst wCL)), some (.own (false, wV1)), none, none, none, none, none] S .nx (wrE g (wV1 ++ wV2) none none) S := ⟨by kernel_rfl⟩
  have hi : II (callT T (n + 3)) (.rng (.cons (.cst (.int 12)) .nil)) (wrE g (wV1 ++ wV2) none none) S ((List.range 12).map fun (i : Nat) => .int i) (wrE g (wV1 ++ wV2) none none) S := ⟨by kernel_rfl⟩
  have hlen : (wV1 ++ wV2).length ≤ 100 := by decide +kernel
  obtain ⟨ρ', S', q1, q2⟩ := FL_inv (t := asgT (.tnm 3)) (cf := callT T (n + 3)) (sa := wrD)
    (Inv := fun ws ρ S' => S' = S ∧ ws.length ≤ 12 ∧ ∃ g' vals x, ρ = wrE g' vals x none ∧ (ws = [] → x ≠ none) ∧ GenOk g' (k + 11 * (12 - ws.length)) ∧ vals.length + ws.length ≤ 900 ∧ ∀ v ∈ vals, OkV v)
    (fun w ws ρ S' h => by
      obtain ⟨rfl, hl, g', vals, x, rfl, _, hg', hl2, hv⟩ := h
      rw [List.length_cons] at hl hg' hl2
      obtain ⟨z, g2, r1, r2, r3⟩ := wr_draw n S' w hg' (by omega) vals (by omega)
      refine ⟨wrE g' vals (some w) none, wrE g2 (vals ++ [.str z]) (some w) none, S', by cases x <;> rfl, r1, rfl, by omega, g2, vals ++ [.str z], some w, rfl, (fun _ h => nomatch h), r3.mono (by omega), by rw [List.length_append, List.length_singleton]; omega, fun v hv' => ?_⟩
      rcases List.mem_append.mp hv' with h | h
      · exact hv v h
      · rw [List.mem_singleton] at h; rw [h]; exact .z' r2)
    ((List.range 12).map fun (i : Nat) => .int i) (wrE g (wV1 ++ wV2) none none) S
    ⟨rfl, by simp, g, _, none, rfl, (fun h => by simp at h), hg.mono (by simp), by simp only [List.length_map, List.length_range]; omega, VALS_ok⟩
  obtain ⟨rfl, _, g', vals, x, rfl, hx, hg', hl2, hv⟩ := q2
  obtain ⟨t, rfl⟩ : ∃ t, x = some t := by
    cases x with
    | none => exact absurd rfl (hx rfl)
    | some t => exact ⟨t, rfl⟩
  obtain ⟨ρ', S2, p1, p2⟩ := FL_inv (t := asgT (.tnm 4)) (cf := callT T (n + 3)) (sa := wrT)
    (Inv := fun ws ρ S2 => S2 = S' ∧ (∀ v ∈ ws, OkV v) ∧ ∃ x, ρ = wvE g' (.lst vals) t x)
    (fun w ws ρ S2 h => by
      obtain ⟨rfl, hw, x, rfl⟩ := h
      obtain ⟨ρ1, y, r1, r2⟩ := wr_test (n + 1) S2 g' (.lst vals) t w (hw w (List.mem_cons_self ..)) x
      exact ⟨ρ1, _, S2, r1, r2, rfl, fun v hv => hw v (List.mem_cons_of_mem _ hv), _, rfl⟩)
    vals (wvE g' (.lst vals) t none) S' ⟨rfl, hv, none, rfl⟩
  obtain ⟨rfl, _, x, rfl⟩ := p2
  refine ⟨g', ?_, hg'.mono (by simp)⟩
  have hj : II (callT T (n + 3)) (.seq (.nm 2)) (wrE g' vals (some t) none) S2 vals (wvE g' (.lst vals) t none) S2 := I_ls (E_nm rfl)
  apply run_rt (hD := rfl) (hl := rfl)
  · show SS _ m_law_words_right [some (.own (true, g)), none, none, none, none, none, none, none] _ _ _ _
    refine S_seq e0 (SF_nx (S_seq e1 (SF_nx (S_seq e2 (SF_nx (S_seq (S_forr hi q1) (SF_nx (S_seq (S_forr hj p1) (SF_nx (S_seq (S_ret E_cst) SF_rt))))))))))
  · cases x <;> rfl
end K02
set_option Elab.async false
set_option linter.all false
set_option maxRecDepth 100000
set_option maxHeartbeats 1000000
namespace K02
open PySem PySem.Spec PyProof.Rows L2 NV
local macro_rules | `(tactic| walk_at "nv") => `(tactic| first
  | assumption
  | exact E_cst | exact AA_nil | exact RR_nil | exact O_nil | exact S_nil | exact SF_rt | exact E_gc | exact E_edict | exact FL_nil
  | exact A_pk rfl | apply A_v (hm := rfl) | apply AA_cons | apply RR_cons | apply O_some (hm := rfl)
  | apply S_seq | apply SF_nx | apply S_asg | apply S_ite | apply S_ret | exact S_mvv rfl | exact S_mvo rfl | apply S_put | apply S_par | apply S_expr | apply S_tgt | apply S_forr
  | apply E_op2 | apply E_bi | apply E_me | apply E_isi | apply E_not | apply E_ite | apply E_and | apply E_or | apply E_tup | apply E_lst | apply E_sl | apply E_call | apply E_nm | apply E_neg | apply E_mut | apply E_heap | apply I_rng | apply E_chain
  | apply SB_t (hb := by first | rfl | assumption | (rw [Bool.not_eq_true']; assumption) | (rw [Bool.not_eq_false']; assumption)) | apply SB_f (hb := by first | rfl | assumption | (rw [Bool.not_eq_true']; assumption) | (rw [Bool.not_eq_false']; assumption)) | apply EB_t (hb := by first | rfl | assumption | (rw [Bool.not_eq_true']; assumption) | (rw [Bool.not_eq_false']; assumption)) | apply EB_f (hb := by first | rfl | assumption | (rw [Bool.not_eq_true']; assumption) | (rw [Bool.not_eq_false']; assumption)) | apply CH_t (hb := by first | rfl | assumption | (rw [Bool.not_eq_true']; assumption) | (rw [Bool.not_eq_false']; assumption)) | exact CH_f (hb := by first | rfl | assumption | (rw [Bool.not_eq_true']; assumption) | (rw [Bool.not_eq_false']; assumption))
  | exact p_add | exact p_sub | exact ⟨rfl⟩ | exact List.Pairwise.nil | exact List.pairwise_singleton .. | rfl | decide)
def la4 : MS := (.seq (.ite (.not (.call 18 (.cons (.lst (.cons (.call 4 (.cons (.nm 8) .nil)) (.cons (.callk 4 [0] .nil (.cons (.nm 8) .nil)) .nil))) (.cons (.op2 (.bin .Mult) (.lst (.cons (.call 20 (.cons (.nm 8) .nil)) .nil)) (.cst (.int 2))) .nil)))) (.seq (.ret (.cst (.bl false))) .nil) .nil) .nil)
def la3 : MS := (.seq (.asg 2 (.call 24 (.cons (.pk 4) (.cons (.cst (.int 4)) .nil)))) (.seq (.ite (.not (.call 27 (.cons (.nm 2) .nil))) (.seq (.ret (.cst (.bl false))) .nil) .nil) (.seq (.forr (.tnm 8) (.seq (.call 25 (.cons (.pk 4) (.cons (.nm 2) .nil)))) (.seq (.ite (.not (.call 18 (.cons (.lst (.cons (.call 4 (.cons (.nm 8) .nil)) (.cons (.callk 4 [0] .nil (.cons (.nm 8) .nil)) .nil))) (.cons (.op2 (.bin .Mult) (.lst (.cons (.call 20 (.cons (.nm 8) .nil)) .nil)) (.cst (.int 2))) .nil)))) (.seq (.ret (.cst (.bl false))) .nil) .nil) .nil)) .nil)))
def la1 : MS := (.seq (.asg 4 (.call 16 (.cons (.nm 0) (.cons (.nm 1) .nil)))) (.seq (.ite (.not (.call 28 (.cons (.pk 4) .nil))) (.seq (.ret (.cst (.bl false))) .nil) .nil) (.seq (.forr (.tnm 5) (.rng (.cons (.cst (.int 4)) .nil)) (.seq (.asg 2 (.call 24 (.cons (.pk 4) (.cons (.cst (.int 4)) .nil)))) (.seq (.ite (.not (.call 27 (.cons (.nm 2) .nil))) (.seq (.ret (.cst (.bl false))) .nil) .nil) (.seq (.forr (.tnm 8) (.seq (.call 25 (.cons (.pk 4) (.cons (.nm 2) .nil)))) (.seq (.ite (.not (.call 18 (.cons (.lst (.cons (.call 4 (.cons (.nm 8) .nil)) (.cons (.callk 4 [0] .nil (.cons (.nm 8) .nil)) .nil))) (.cons (.op2 (.bin .Mult) (.lst (.cons (.call 20 (.cons (.nm 8) .nil)) .nil)) (.cst (.int 2))) .nil)))) (.seq (.ret (.cst (.bl false))) .nil) .nil) .nil)) .nil)))) .nil)))
def la2 : MS := (.seq (.ite (.or (.not (.call 18 (.cons (.call 4 (.cons (.nm 2) .nil)) (.cons (.call 20 (.cons (.nm 2) .nil)) .nil)))) (.and (.call 20 (.cons (.nm 2) .nil)) (.not (.call 27 (.cons (.nm 2) .nil))))) (.seq (.ret (.cst (.bl false))) .nil) .nil) .nil)
def laL : M := (.lst (.cons (.call 29 (.cons (.cst (.int 20)) .nil)) (.cons (.call 29 (.cons (.cst (.int 21)) .nil)) (.cons (.call 30 (.cons (.cst (.int 30)) .nil)) (.cons (.call 30 (.cons (.cst (.int 31)) .nil)) (.cons (.call 29 (.cons (.cst (.int 2)) .nil)) .nil))))))
def laE0 : MS := (.tgt (.ttup (.cons (.tnm 6) (.cons (.tnm 7) .nil))) (.tup (.cons (.tup (.cons (.cst (.str "is")) (.cons (.cst (.str "p")) .nil))) (.cons (.tup (.cons (.cst (.str "is")) (.cons (.cst (.str "q")) .nil))) .nil))))
def laE1 : MS := (.asg 3 (.lst (.cons (.call 7 (.cons (.tup (.cons (.cst (.str "both")) (.cons (.nm 6) (.cons (.tup (.cons (.cst (.str "either")) (.cons (.nm 7) (.cons (.tup (.cons (.cst (.str "not")) (.cons (.cst (.str "p")) .nil))) .nil)))) .nil)))) .nil)) (.cons (.call 9 (.cons (.call 30 (.cons (.cst (.int 30)) .nil)) .nil)) (.cons (.call 12 (.cons (.tup (.cons (.cst (.str "either")) (.cons (.nm 6) (.cons (.tup (.cons (.cst (.str "both")) (.cons (.nm 7) (.cons (.nm 7) .nil)))) .nil)))) .nil)) (.cons (.lc [9] (.seq (.tup (.cons (.cst (.int 20)) (.cons (.cst (.int 21)) .nil)))) (.tnm 9) (.cst (.bl true)) (.call 4 (.cons (.call 29 (.cons (.nm 9) .nil)) .nil))) .nil))))))
def laE2 : MS := (.ret (.call 18 (.cons (.nm 3) (.cons (.lst (.cons (.tup (.cons (.cst (.str "either")) (.cons (.tup (.cons (.cst (.str "not")) (.cons (.cst (.str "p")) .nil))) (.cons (.tup (.cons (.cst (.str "both")) (.cons (.tup (.cons (.cst (.str "not")) (.cons (.cst (.str "q")) .nil))) (.cons (.nm 6) .nil)))) .nil)))) (.cons (.cst (.int 59)) (.cons (.tup (.cons (.cst (.int 1)) (.cons (.cst (.int 1)) .nil))) (.cons (.lst (.cons (.cst (.bl true)) (.cons (.cst (.bl false)) .nil))) .nil))))) .nil))))
def laE (s : W) (i f : Option W) (g : Option (List W)) (t v : Option W) : NV.Env := [some (.val s), i.map SV.val, f.map SV.val, none, g.map fun g => .own (false, g), t.map SV.val, none, none, v.map SV.val, none]
theorem la4_ok (n : Nat) (S : Sto) (s i f t v : W) (g : List W) (hv : gdW v = true) : SS (callT T (n + 4)) la4 (laE s (some i) (some f) (some g) (some t) (some v)) S .nx (laE s (some i) (some f) (some g) (some t) (some v)) S := by
  have h1 := g_is_formula n v S hv
  have h2 := g_law_is_formula (n + 2) v S hv
  have h3 := g_same2 (n + 4) S (isFm v) (by omega)
  generalize isFm v = b at h1 h2 h3
  have m : PO (.bin .Mult) (.lst [.bl b]) (.int 2) (.fresh [.bl b, .bl b]) := ⟨by kernel_rfl⟩
  show SS _ la4 [some (.val s), some (.val i), some (.val f), none, some (.own (false, g)), some (.val t), none, none, some (.val v), none] _ _ [some (.val s), some (.val i), some (.val f), none, some (.own (false, g)), some (.val t), none, none, some (.val v), none] _
  unfold la4
  repeat (first | walk_at "nv" | apply E_callk)
theorem la4_loop (n : Nat) (S : Sto) (s i f t : W) (g : List W) (l : List W) (hl : ∀ v ∈ l, gdW v = true) (x : Option W) :
    ∃ y, FL (asgT (.tnm 8)) (callT T (n + 4)) la4 l (laE s (some i) (some f) (some g) (some t) x) S .nx (laE s (some i) (some f) (some g) (some t) y) S := by
  obtain ⟨ρ', S', h1, rfl, _, y, rfl⟩ := FL_inv (t := asgT (.tnm 8)) (cf := callT T (n + 4)) (sa := la4)
    (Inv := fun ws ρ S' => S' = S ∧ (∀ v ∈ ws, gdW v = true) ∧ ∃ x, ρ = laE s (some i) (some f) (some g) (some t) x)
    (fun w ws ρ S' h => by
      obtain ⟨rfl, hw, x, rfl⟩ := h
      exact ⟨laE s (some i) (some f) (some g) (some t) (some w), _, S', by cases x <;> rfl, la4_ok n S' s i f t w g (hw w (List.mem_cons_self ..)), rfl, fun v hv => hw v (List.mem_cons_of_mem _ hv), _, rfl⟩)
    l (laE s (some i) (some f) (some g) (some t) x) S ⟨rfl, hl, x, rfl⟩
  exact ⟨y, h1⟩
theorem Fm.size_le : ∀ F : Fm, F.size + 1 ≤ 2 ^ F.depth
  | .lit _ _ => by simp [Fm.size, Fm.depth]
  | .bin _ a b => by
    have h1 := Fm.size_le a
    have h2 := Fm.size_le b
    have h3 : 2 ^ a.depth ≤ 2 ^ max a.depth b.depth := Nat.pow_le_pow_right (by omega) (by omega)
    have h4 : 2 ^ b.depth ≤ 2 ^ max a.depth b.depth := Nat.pow_le_pow_right (by omega) (by omega)
    have h5 : 2 ^ (1 + max a.depth b.depth) = 2 * 2 ^ max a.depth b.depth := by rw [Nat.add_comm, Nat.pow_succ]; omega
    show 1 + a.size + b.size + 1 ≤ 2 ^ (1 + max a.depth b.depth)
    omega
theorem la3_ok (S : Sto) (s i t : W) {g : List W} {k : Int} (hg : GenOk g k) (hk : k + 1300 < 2 ^ 29) (x2 x8 : Option W) :
    ∃ F g' y8 S', SS (callT T 39) la3 (laE s (some i) x2 (some g) (some t) x8) S .nx (laE s (some i) (some F) (some g') (some t) y8) S' ∧ GenOk g' (k + 1300) := by
  obtain ⟨F, g1, h1, o, hd, hg1⟩ := g_formula 31 S 4 hg (by omega)
  have h1 : CC (callT T 39) i_law_formula [.own (true, g), .val (.int 4)] S (.val F.w) [some (.own (true, g1)), some (.val (.int 4))] S := h1
  have hp : (4 : Int) ^ (4 + 1) = 1024 := by decide
  rw [hp] at hg1
  have hs := F.size_le
  have hs2 : 2 ^ F.depth ≤ 2 ^ 5 := Nat.pow_le_pow_right (by omega) hd
  have fit : F.Fit := ⟨o, by omega, by omega⟩
  obtain ⟨L, h2⟩ := g_right 38 S fit (by omega)
  obtain ⟨l, g2, h3, hgd, _, hg2⟩ := g_bent (35 - F.depth) (S ++ [L]) o hg1 (by omega)
  rw [show 35 - F.depth + 4 + F.depth = 39 by omega] at h3
  obtain ⟨y8, h4⟩ := la4_loop 35 (S ++ [L]) s i F.w t g2 l hgd x8
  refine ⟨F.w, g2, y8, S ++ [L], ?_, hg2.mono (by omega)⟩
  generalize F.w = w at h1 h2 h3 h4 ⊢
  have q1 : SS (callT T 39) (.asg 2 (.call 24 (.cons (.pk 4) (.cons (.cst (.int 4)) .nil)))) (laE s (some i) x2 (some g) (some t) x8) S .nx (laE s (some i) (some w) (some g1) (some t) x8) S := by
    cases x2 <;> cases x8 <;> unfold laE <;> repeat (walk_at "nv")
  have q2 : EV (callT T 39) (.call 27 (.cons (.nm 2) .nil)) (laE s (some i) (some w) (some g1) (some t) x8) S (.val (.bl true)) (laE s (some i) (some w) (some g1) (some t) x8) (S ++ [L]) := by
    cases x8 <;> unfold laE <;> repeat (walk_at "nv")
  have q3 : II (callT T 39) (.seq (.call 25 (.cons (.pk 4) (.cons (.nm 2) .nil)))) (laE s (some i) (some w) (some g1) (some t) x8) (S ++ [L]) l (laE s (some i) (some w) (some g2) (some t) x8) (S ++ [L]) := by
    apply I_fr
    cases x8 <;> unfold laE <;> repeat (walk_at "nv")
  exact S_seq q1 (SF_nx (S_seq (S_ite (E_not q2) (SB_f rfl S_nil)) (SF_nx (S_seq (S_forr q3 h4) (SF_nx S_nil)))))
theorem la1_ok (S : Sto) (ns : List Int) (i : Nat) (hi : i < 1000) (x2 x5 x8 : Option W) (x4 : Option (List W)) :
    ∃ F g' t y8 S', SS (callT T 39) la1 (laE (.flst (ns.map W.int)) (some (.int i)) x2 x4 x5 x8) S .nx (laE (.flst (ns.map W.int)) (some (.int i)) F g' t y8) S' := by
  obtain ⟨g, h1, hg⟩ := f_generator 37 ns i hi S
  generalize W.flst (ns.map W.int) = s at h1 ⊢
  generalize hw : W.int (i : Int) = iw at h1 ⊢
  obtain ⟨g1, h2, hg1⟩ := g_words 35 S hg (by omega)
  have q1 : SS (callT T 39) (.asg 4 (.call 16 (.cons (.nm 0) (.cons (.nm 1) .nil)))) (laE s (some iw) x2 x4 x5 x8) S .nx (laE s (some iw) x2 (some g) x5 x8) S := by
    cases x2 <;> cases x4 <;> cases x5 <;> cases x8 <;> unfold laE <;> repeat (walk_at "nv")
  have q2 : EV (callT T 39) (.call 28 (.cons (.pk 4) .nil)) (laE s (some iw) x2 (some g) x5 x8) S (.val (.bl true)) (laE s (some iw) x2 (some g1) x5 x8) S := by
    cases x2 <;> cases x5 <;> cases x8 <;> unfold laE <;> repeat (walk_at "nv")
  have q3 : II (callT T 39) (.rng (.cons (.cst (.int 4)) .nil)) (laE s (some iw) x2 (some g1) x5 x8) S ((List.range 4).map fun (i : Nat) => .int i) (laE s (some iw) x2 (some g1) x5 x8) S := ⟨by kernel_rfl⟩
  obtain ⟨ρ', S', h4, _, F, g', t, y8, rfl, _⟩ := FL_inv (t := asgT (.tnm 5)) (cf := callT T 39) (sa := la3)
    (Inv := fun ws ρ S' => ws.length ≤ 4 ∧ ∃ F g' t y8, ρ = laE s (some iw) F (some g') t y8 ∧ GenOk g' (1000 * i + 132 + 1300 * (4 - ws.length)))
    (fun w ws ρ S' h => by
      obtain ⟨hl, F, g', t, y8, rfl, hg'⟩ := h
      rw [List.length_cons] at hl hg'
      obtain ⟨F2, g2, z8, S2, r1, r2⟩ := la3_ok S' s iw w hg' (by omega) F y8
      exact ⟨laE s (some iw) F (some g') (some w) y8, _, S2, by cases t <;> rfl, r1, by omega, some F2, g2, some w, z8, rfl, r2.mono (by omega)⟩)
    ((List.range 4).map fun (i : Nat) => .int i) (laE s (some iw) x2 (some g1) x5 x8) S ⟨by simp, x2, g1, x5, x8, rfl, hg1.mono (by simp)⟩
  exact ⟨F, some g', t, y8, S', S_seq q1 (SF_nx (S_seq (S_ite (E_not q2) (SB_f rfl S_nil)) (SF_nx (S_seq (S_forr q3 h4) (SF_nx S_nil)))))⟩
def deepF : Nat → Fm
  | 0 => .lit false "p"
  | t + 1 => if t % 2 = 0 then .bin false (deepF t) (.lit true "q") else .bin true (.lit false "r2") (deepF t)
def pairF : List Fm → List Fm
  | a :: b :: r => .bin false a b :: pairF r
  | l => l
def wideF (n : Nat) : Fm := match pairF (pairF (pairF (pairF (pairF (List.replicate n (.lit false "p")))))) with
  | a :: _ => a
  | [] => .lit false "p"
def Fm.okB : Fm → Bool
  | .lit _ z => decide (z = "p") || (decide (z = "q") || decide (z = "r2"))
  | .bin _ a b => a.okB && b.okB
theorem Fm.okB_ok : ∀ {F : Fm}, F.okB = true → F.ok
  | .lit _ z, h => by
    simp only [Fm.okB, Bool.or_eq_true, decide_eq_true_eq] at h
    exact h
  | .bin _ a b, h => by
    simp only [Fm.okB, Bool.and_eq_true] at h
    exact ⟨Fm.okB_ok h.1, Fm.okB_ok h.2⟩
theorem Fm.fitB {F : Fm} (h : (F.okB && (decide (F.depth ≤ 20) && decide (F.size ≤ 60))) = true) : F.Fit := by
  simp only [Bool.and_eq_true, decide_eq_true_eq] at h
  exact ⟨Fm.okB_ok h.1, h.2.1, h.2.2⟩
/-- a formula of the bounds, or plain data that is none -/
def OkF (w : W) : Prop := (∃ F : Fm, F.Fit ∧ w = F.w) ∨ (gdW w = true ∧ isFm w = false)
theorem deep_cc (S : Sto) : CC (callT T 39) i_law_deep [.val (.int 20)] S (.val (deepF 19).w) [some (.val (.int 20))] S := ⟨by kernel_rfl⟩
theorem deep_cc1 (S : Sto) : CC (callT T 39) i_law_deep [.val (.int 21)] S (.val (deepF 20).w) [some (.val (.int 21))] S := ⟨by kernel_rfl⟩
theorem deep_cc2 (S : Sto) : CC (callT T 39) i_law_deep [.val (.int 2)] S (.val (deepF 1).w) [some (.val (.int 2))] S := ⟨by kernel_rfl⟩
theorem wide_cc (S : Sto) : CC (callT T 39) i_law_wide [.val (.int 30)] S (.val (wideF 30).w) [some (.val (.int 30))] S := ⟨by kernel_rfl⟩
theorem wide_cc1 (S : Sto) : CC (callT T 39) i_law_wide [.val (.int 31)] S (.val (wideF 31).w) [some (.val (.int 31))] S := ⟨by kernel_rfl⟩
theorem fit_deep : (deepF 19).Fit := Fm.fitB (by decide +kernel)
theorem fit_deep2 : (deepF 1).Fit := Fm.fitB (by decide +kernel)
theorem fit_wide : (wideF 30).Fit := Fm.fitB (by decide +kernel)
theorem no_deep : gdW (deepF 20).w = true ∧ isFm (deepF 20).w = false := by decide +kernel
theorem no_wide : gdW (wideF 31).w = true ∧ isFm (wideF 31).w = false := by decide +kernel
theorem la2_ok (S : Sto) (s w : W) (i : Option W) (g : Option (List W)) (t v : Option W) (h : OkF w) :
    ∃ S', SS (callT T 39) la2 (laE s i (some w) g t v) S .nx (laE s i (some w) g t v) S' := by
  rcases h with ⟨F, fit, rfl⟩ | ⟨h1, h2⟩
  · have h0 := Fm.isFm fit.ok fit.d fit.s
    have h1 := g_is_formula 35 F.w S (Fm.gd fit.ok)
    have h2 := g_law_is_formula 37 F.w S (Fm.gd fit.ok)
    rw [h0] at h1 h2
    obtain ⟨L, h3⟩ := g_right 38 S fit (by omega)
    have h4 : CC (callT T 39) i_law_same [.val (.bl true), .val (.bl true)] S (.val (.bl true)) [some (.val (.bl true)), some (.val (.bl true))] S := g_same S 1 39 _ _ .bl (by omega)
    generalize F.w = w at h1 h2 h3 ⊢
    refine ⟨S ++ [L], ?_⟩
    unfold la2 laE
    repeat (walk_at "nv")
  · have q1 := g_is_formula 35 w S h1
    have q2 := g_law_is_formula 37 w S h1
    rw [h2] at q1 q2
    have h4 : CC (callT T 39) i_law_same [.val (.bl false), .val (.bl false)] S (.val (.bl true)) [some (.val (.bl false)), some (.val (.bl false))] S := g_same S 1 39 _ _ .bl (by omega)
    refine ⟨S, ?_⟩
    unfold la2 laE
    repeat (walk_at "nv")
def endT : W := .lst [.tup [.str "either", .tup [.str "not", .str "p"], .tup [.str "both", .tup [.str "not", .str "q"], .tup [.str "is", .str "p"]]], .int 59, .tup [.int 1, .int 1], .lst [.bl true, .bl false]]
def endE (s : W) (i f : Option W) (g : Option (List W)) (t v : Option W) : NV.Env := [some (.val s), i.map SV.val, f.map SV.val, some (.val endT), g.map fun g => .own (false, g), t.map SV.val, some (.val (.tup [.str "is", .str "p"])), some (.val (.tup [.str "is", .str "q"])), v.map SV.val, none]
theorem la_end (s : W) (i f : Option W) (g : Option (List W)) (t v : Option W) (S : Sto) : SS (callT T 39) (.seq laE0 (.seq laE1 (.seq laE2 .nil))) (laE s i f g t v) S (.rt (.val (.bl true))) (endE s i f g t v) S := by
  cases i <;> cases f <;> cases g <;> cases t <;> cases v <;> exact ⟨by kernel_rfl⟩
theorem law_true (ns : List Int) (h : ns.length ≤ 63) : ∃ as S, callT T 40 31 [.val (.flst (ns.map W.int))] [] = .ok (.val (.bl true)) as S := by
  obtain ⟨ρ1, S1, q1, _, x1, x2, x4, x5, x8, rfl⟩ := FL_inv (t := asgT (.tnm 1)) (cf := callT T 39) (sa := la1)
    (Inv := fun ws ρ S' => (∀ w ∈ ws, ∃ i : Nat, i < 1000 ∧ w = .int i) ∧ ∃ x1 x2 x4 x5 x8, ρ = laE (.flst (ns.map W.int)) x1 x2 x4 x5 x8)
    (fun w ws ρ S' h => by
      obtain ⟨hw, x1, x2, x4, x5, x8, rfl⟩ := h
      obtain ⟨i, hi, rfl⟩ := hw w (List.mem_cons_self ..)
      obtain ⟨F, g', t, y8, S2, r⟩ := la1_ok S' ns i hi x2 x5 x8 x4
      exact ⟨laE (.flst (ns.map W.int)) (some (.int i)) x2 x4 x5 x8, _, S2, by cases x1 <;> rfl, r, fun v hv => hw v (List.mem_cons_of_mem _ hv), _, _, _, _, _, rfl⟩)
    ((List.range 3).map fun (i : Nat) => .int i) (laE (.flst (ns.map W.int)) none none none none none) []
    ⟨fun w hw => by
      obtain ⟨i, hi, rfl⟩ := List.mem_map.mp hw
      rw [List.mem_range] at hi
      exact ⟨i, by omega, rfl⟩, none, none, none, none, none, rfl⟩
  obtain ⟨ρ2, S2, q2, _, y2, rfl⟩ := FL_inv (t := asgT (.tnm 2)) (cf := callT T 39) (sa := la2)
    (Inv := fun ws ρ S' => (∀ w ∈ ws, OkF w) ∧ ∃ y2, ρ = laE (.flst (ns.map W.int)) x1 y2 x4 x5 x8)
    (fun w ws ρ S' h => by
      obtain ⟨hw, y2, rfl⟩ := h
      obtain ⟨S2, r⟩ := la2_ok S' (.flst (ns.map W.int)) w x1 x4 x5 x8 (hw w (List.mem_cons_self ..))
      exact ⟨laE (.flst (ns.map W.int)) x1 (some w) x4 x5 x8, _, S2, by cases y2 <;> rfl, r, fun v hv => hw v (List.mem_cons_of_mem _ hv), _, rfl⟩)
    [(deepF 19).w, (deepF 20).w, (wideF 30).w, (wideF 31).w, (deepF 1).w] (laE (.flst (ns.map W.int)) x1 x2 x4 x5 x8) S1
    ⟨fun w hw => by
      simp only [List.mem_cons, List.not_mem_nil, or_false] at hw
      rcases hw with rfl | rfl | rfl | rfl | rfl
      · exact .inl ⟨_, fit_deep, rfl⟩
      · exact .inr no_deep
      · exact .inl ⟨_, fit_wide, rfl⟩
      · exact .inr no_wide
      · exact .inl ⟨_, fit_deep2, rfl⟩, x2, rfl⟩
  have hi : II (callT T 39) (.rng (.cons (.cst (.int 3)) .nil)) (laE (.flst (ns.map W.int)) none none none none none) [] ((List.range 3).map fun (i : Nat) => .int i) (laE (.flst (ns.map W.int)) none none none none none) [] := ⟨by kernel_rfl⟩
  have hj : II (callT T 39) (.seq laL) (laE (.flst (ns.map W.int)) x1 x2 x4 x5 x8) S1 [(deepF 19).w, (deepF 20).w, (wideF 30).w, (wideF 31).w, (deepF 1).w] (laE (.flst (ns.map W.int)) x1 x2 x4 x5 x8) S1 := by
    have d1 := deep_cc S1
    have d2 := deep_cc1 S1
    have d3 := wide_cc S1
    have d4 := wide_cc1 S1
    have d5 := deep_cc2 S1
    generalize (deepF 19).w = f1 at d1 ⊢
    generalize (deepF 20).w = f2 at d2 ⊢
    generalize (wideF 30).w = f3 at d3 ⊢
    generalize (wideF 31).w = f4 at d4 ⊢
    generalize (deepF 1).w = f5 at d5 ⊢
    apply I_fr
    unfold laL
    repeat (walk_at "nv")
  have e := la_end (.flst (ns.map W.int)) x1 y2 x4 x5 x8 S2
  have r : SS (callT T 39) m_law (laE (.flst (ns.map W.int)) none none none none none) [] (.rt (.val (.bl true))) _ S2 := S_seq (S_forr hi q1) (SF_nx (S_seq (S_forr hj q2) (SF_nx e)))
  exact ⟨_, S2, (run_rt (T := T) (k := 39) (f := 31) (args := [.val (.flst (ns.map W.int))]) (hD := rfl) (hl := rfl) r rfl).h⟩
end K02
set_option Elab.async false
set_option linter.all false
set_option maxRecDepth 100000
set_option maxHeartbeats 0
/-! # The end -/
namespace K02
open PySem PySem.Spec PyProof.Rows L2 NV
theorem c_is_word : fdB T G d_is_word = true := by kernel_rfl
theorem c_inner_of : fdB T G d_inner_of = true := by kernel_rfl
theorem c_is_formed : fdB T G d_is_formed = true := by kernel_rfl
theorem c_is_formula_in : fdB T G d_is_formula_in = true := by kernel_rfl
theorem c_is_formula : fdB T G d_is_formula = true := by kernel_rfl
theorem c_check_formula : fdB T G d_check_formula = true := by kernel_rfl
theorem c_turned_in : fdB T G d_turned_in = true := by kernel_rfl
theorem c_turned : fdB T G d_turned = true := by kernel_rfl
theorem c_parts_in : fdB T G d_parts_in = true := by kernel_rfl
theorem c_size_of : fdB T G d_size_of = true := by kernel_rfl
theorem c_letters_in : fdB T G d_letters_in = true := by kernel_rfl
theorem c_letters_of : fdB T G d_letters_of = true := by kernel_rfl
theorem c_links_of : fdB T G d_links_of = true := by kernel_rfl
theorem c_law_hash : fdB T G d_law_hash = true := by kernel_rfl
theorem c_law_random : fdB T G d_law_random = true := by kernel_rfl
theorem c_law_cell : fdB T G d_law_cell = true := by kernel_rfl
theorem c_law_generator : fdB T G d_law_generator = true := by kernel_rfl
theorem c_law_pick : fdB T G d_law_pick = true := by kernel_rfl
theorem c_law_same : fdB T G d_law_same = true := by kernel_rfl
theorem c_law_is_word : fdB T G d_law_is_word = true := by kernel_rfl
theorem c_law_is_formula : fdB T G d_law_is_formula = true := by kernel_rfl
theorem c_law_inner : fdB T G d_law_inner = true := by kernel_rfl
theorem c_law_parts : fdB T G d_law_parts = true := by kernel_rfl
theorem c_law_turned : fdB T G d_law_turned = true := by kernel_rfl
theorem c_law_formula : fdB T G d_law_formula = true := by kernel_rfl
theorem c_law_bent : fdB T G d_law_bent = true := by kernel_rfl
theorem c_law_bent_at : fdB T G d_law_bent_at = true := by kernel_rfl
theorem c_law_right : fdB T G d_law_right = true := by kernel_rfl
theorem c_law_words_right : fdB T G d_law_words_right = true := by kernel_rfl
theorem c_law_deep : fdB T G d_law_deep = true := by kernel_rfl
theorem c_law_wide : fdB T G d_law_wide = true := by kernel_rfl
theorem c_law : fdB T G d_law = true := by kernel_rfl
theorem all_ok : ∀ D ∈ T, fdB T G D = true := by
  intro D h
  unfold T at h
  repeat (first | (rw [List.mem_singleton] at h; subst h; assumption) | (rcases List.mem_cons.mp h with h | h; · (subst h; first | exact c_is_word | exact c_inner_of | exact c_is_formed | exact c_is_formula_in | exact c_is_formula | exact c_check_formula | exact c_turned_in | exact c_turned | exact c_parts_in | exact c_size_of | exact c_letters_in | exact c_letters_of | exact c_links_of | exact c_law_hash | exact c_law_random | exact c_law_cell | exact c_law_generator | exact c_law_pick | exact c_law_same | exact c_law_is_word | exact c_law_is_formula | exact c_law_inner | exact c_law_parts | exact c_law_turned | exact c_law_formula | exact c_law_bent | exact c_law_bent_at | exact c_law_right | exact c_law_words_right | exact c_law_deep | exact c_law_wide | exact c_law)))
  cases h
theorem glob {P : Program} {w : World} {K : PySem.W.Frag} {h : Heap} {mg : Str → Option Value} {base : Heap} (X : K.In h) (N : h.Ns mainGlobals mg) (c : He.SaysX fa fn ts [] exB w h K) : Glob P w K mg base (cnOf K T) T G := by
  have m := c.more
  unfold exB at m
  simp only [Bool.and_eq_true] at m
  obtain ⟨m0, m1⟩ := m
  refine glob_of X N c.t.d (fun D hD => List.mem_map_of_mem (f := defD) hD) (fun D hD => List.mem_append_left _ (List.mem_map_of_mem (f := fun D : FD => He.Fa.glo D.name) hD)) (fun x hx => List.mem_append_right _ (List.mem_append_left _ (List.mem_map_of_mem (f := He.Fa.free) hx))) ?_ ?_
  · intro p hp
    rcases List.mem_cons.mp hp with hp | hp; · (subst hp; exact gc_tup rfl X N c.t.d (List.mem_append_right _ (List.mem_append_right _ (List.mem_cons_self ..))) m0 (fun d H => (.cons .strI (.cons .strI (.cons .strI (.cons .strI (.cons .strI (.cons .strI (.cons .strI (.cons .strI .nil))))))))))
    rcases List.mem_cons.mp hp with hp | hp; · (subst hp; exact gc_str X N c.t.d (List.mem_append_right _ (List.mem_append_right _ (List.mem_cons_of_mem _ (List.mem_cons_self ..)))))
    rcases List.mem_cons.mp hp with hp | hp; · (subst hp; exact gc_str X N c.t.d (List.mem_append_right _ (List.mem_append_right _ (List.mem_cons_of_mem _ (List.mem_cons_of_mem _ (List.mem_cons_self ..))))))
    rcases List.mem_cons.mp hp with hp | hp; · (subst hp; exact gc_int X N c.t.d (List.mem_append_right _ (List.mem_append_right _ (List.mem_cons_of_mem _ (List.mem_cons_of_mem _ (List.mem_cons_of_mem _ (List.mem_cons_self ..)))))))
    rcases List.mem_cons.mp hp with hp | hp; · (subst hp; exact gc_int X N c.t.d (List.mem_append_right _ (List.mem_append_right _ (List.mem_cons_of_mem _ (List.mem_cons_of_mem _ (List.mem_cons_of_mem _ (List.mem_cons_of_mem _ (List.mem_cons_self ..))))))))
    rcases List.mem_cons.mp hp with hp | hp; · (subst hp; exact gc_int X N c.t.d (List.mem_append_right _ (List.mem_append_right _ (List.mem_cons_of_mem _ (List.mem_cons_of_mem _ (List.mem_cons_of_mem _ (List.mem_cons_of_mem _ (List.mem_cons_of_mem _ (List.mem_cons_self ..)))))))))
    cases hp
  · intro p hp
    rcases List.mem_cons.mp hp with hp | hp; · (subst hp; exact gd_str X N c.t 0 (ks := ["is", "not", "both", "either"]) (kvs := [("is", "not"), ("not", "is"), ("both", "either"), ("either", "both")]) (List.mem_append_right _ (List.mem_append_right _ (List.mem_cons_of_mem _ (List.mem_cons_of_mem _ (List.mem_cons_of_mem _ (List.mem_cons_of_mem _ (List.mem_cons_of_mem _ (List.mem_cons_of_mem _ (List.mem_cons_self ..))))))))) rfl m1)
    cases hp
end K02
open PySem PySem.W PySem.Calls PyProof.Rows
theorem PySem.Challenge.cw_netsproved_k02_whole_formulas_judged_holds : PySem.Challenge.rw_netsproved_k02_whole_formulas_judged.Holds := by
  w_on; o_law
  refine HandSHeadRun.head_any (r := OpenLaw.row PySem.Challenge.rw_netsproved_k02_whole_formulas_judged) (q := view (OpenLaw.row PySem.Challenge.rw_netsproved_k02_whole_formulas_judged).prog [44]) (H := K02.hk) (ob := K02.ob) (M := 3000) (loose := K02.loose) (d := HandSHeadRun.topDef (OpenLaw.row PySem.Challenge.rw_netsproved_k02_whole_formulas_judged).prog 44) (kwd := []) K02.ob_eq
    (by kernel_rfl) (fun s => by kernel_rfl) K02.run (by kernel_rfl) (by kernel_rfl) (by kernel_rfl) (by rfl) (by first | assumption | decide +kernel) (by decide +kernel) ⟨rfl, rfl, rfl, rfl, rfl, by decide +kernel⟩ ?hw ?hc
  case hw => w_witness2
  case hc =>
    refine NV.walk_tab (l := PySem.Challenge.rw_netsproved_k02_whole_formulas_judged) (n := 63) (k := 40) (j := 31) (T := K02.T) (G := K02.G) (D := K02.d_law) (x := "script") rfl (by decide) (by kernel_rfl) ⟨rfl, by decide, by decide⟩ K02.all_ok rfl rfl (by kernel_rfl) ?hg K02.law_true
    intro w mg h Y N
    obtain ⟨K, KX, c⟩ := Y
    exact ⟨K, NV.cnOf K K02.T, KX, fun base _ _ => K02.glob KX N c⟩
