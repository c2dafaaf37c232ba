import PyProof.Rows.All
import Wide.All
import OpenK.AllK
import Wide.FinOn
import HandS.ForMost
import HandS.More
import HandS.IsInst
import HandS.Deep
import HandS.WideBits
import HandS.Wide
import HandS.Exc
import HandS.ExcField
import HandS.ExcIs
import HandS.ExcInit
import HandS.ExcSuper
import HandS.ExcValue
import KE.DataEq
import KE.DataFind
import PyProof.ReprRoads
import HandS.Zip
import HandS.Style
import HandS.Defaults
import HandS.Ends
import HandS.EndBits
import HandS.HeadEnd
import HandS.HeadHook3
import HandS.HeadHook4
import PySem.Challenge.RW_netsproved_k05_whole_texts_of_formulas
import HandS.Head2
set_option Elab.async false
set_option linter.all false
set_option maxRecDepth 100000
set_option maxHeartbeats 1000000
/-! # Values, the state, how they lie in the abstract heap -/
namespace NV
open PySem PySem.Spec PyProof.Rows L2

/-- a value, as plain data (tuples and settled lists by content; ref: a shared list that may change) -/
inductive W where
  | non | bl (b : Bool) | int (i : Int) | str (s : Str) | tup (l : List W) | lst (l : List W) | dct (ks vs : List W)
  | flst (l : List W) | fn (n : Nat) | ref (n : Nat) | exc (c : Nat) (w : W)
  deriving Inhabited

/-- where a program point stands: what is settled, where the shared lists lie -/
structure Wd where
  F : Addr → Prop
  mu : List Addr

/-- the constants of a law -/
structure Cn where
  K : PySem.W.Frag
  fa : List Addr
  xa : List Addr

def KT (K : PySem.W.Frag) (a : Addr) (vs : List V) : Prop := SqT K (fun _ => none) a vs
theorem KT.sq {K : PySem.W.Frag} {a : Addr} {vs : List V} (h : KT K a vs) (H : Hp) : SqT K H a vs := by
  rcases h with h | h
  · rcases h with h | ⟨o, h⟩ <;> cases h
  · exact .inr h
def KL (K : PySem.W.Frag) (a : Addr) (vs : List V) : Prop := SqL K (fun _ => none) a vs
theorem KL.sq {K : PySem.W.Frag} {a : Addr} {vs : List V} (h : KL K a vs) (H : Hp) : SqL K H a vs := by
  rcases h with h | h
  · rcases h with h | ⟨o, h⟩ <;> cases h
  · exact .inr h

mutual
def Rep (c : Cn) (d : Wd) (H : Hp) : W → V → Prop
  | .non, v => v = .non
  | .bl b, v => v = .bl b
  | .int i, v => v = .int i
  | .str s, v => v = .str s
  | .tup ws, v => ∃ a vs, v = .ref a ∧ ((d.F a ∧ H a = some (.tup vs)) ∨ KT c.K a vs) ∧ RepL c d H ws vs
  | .lst ws, v => ∃ a vs, v = .ref a ∧ d.F a ∧ H a = some (.lst vs) ∧ RepL c d H ws vs
  | .dct ks vs, v => ∃ a kvs, v = .ref a ∧ d.F a ∧ H a = some (.dK kvs) ∧ RepL c d H ks (kvs.map fun p => kV p.1) ∧ RepL c d H vs (kvs.map (·.2))
  | .flst ws, v => ∃ a vs, v = .ref a ∧ ((d.F a ∧ ∃ o, H a = some (.frz o (.lst vs))) ∨ KL c.K a vs) ∧ RepL c d H ws vs
  | .fn n, v => ∃ a, c.fa[n]? = some a ∧ v = .ref a
  | .ref n, v => ∃ a, d.mu[n]? = some a ∧ v = .ref a
  | .exc _ _, _ => False
def RepL (c : Cn) (d : Wd) (H : Hp) : List W → List V → Prop
  | [], vs => vs = []
  | w :: ws, vs => ∃ x r, vs = x :: r ∧ Rep c d H w x ∧ RepL c d H ws r
end

/-- what was settled stands as it stood -/
structure Le (d : Wd) (H : Hp) (d' : Wd) (H' : Hp) : Prop where
  f : ∀ a, d.F a → d'.F a ∧ H' a = H a
  mu : d.mu <+: d'.mu
theorem Le.refl {d : Wd} {H : Hp} : Le d H d H := ⟨fun _ h => ⟨h, rfl⟩, List.prefix_refl _⟩
theorem Le.trans {d d1 d2 : Wd} {H H1 H2 : Hp} (a : Le d H d1 H1) (b : Le d1 H1 d2 H2) : Le d H d2 H2 :=
  ⟨fun x h => ⟨(b.f x (a.f x h).1).1, (b.f x (a.f x h).1).2.trans (a.f x h).2⟩, a.mu.trans b.mu⟩
theorem Le.get {d d' : Wd} {H H' : Hp} (l : Le d H d' H') {n : Nat} {a : Addr} (h : d.mu[n]? = some a) : d'.mu[n]? = some a := by
  obtain ⟨t, e⟩ := l.mu
  rw [← e, List.getElem?_append_left (List.getElem?_eq_some_iff.mp h).1]
  exact h
section
variable {c : Cn} {d d' : Wd} {H H' : Hp}
mutual
theorem Rep.mono (l : Le d H d' H') : ∀ {w : W} {v : V}, Rep c d H w v → Rep c d' H' w v
  | .non, _, h => by simpa only [Rep] using h
  | .bl _, _, h => by simpa only [Rep] using h
  | .int _, _, h => by simpa only [Rep] using h
  | .str _, _, h => by simpa only [Rep] using h
  | .fn _, _, h => by simpa only [Rep] using h
  | .exc _ _, _, h => by simp only [Rep] at h
  | .ref _, _, h => by
    simp only [Rep] at h ⊢
    obtain ⟨a, h1, h2⟩ := h
    exact ⟨a, l.get h1, h2⟩
  | .tup ws, _, h => by
    simp only [Rep] at h ⊢
    obtain ⟨a, vs, e, h1, h2⟩ := h
    refine ⟨a, vs, e, ?_, RepL.mono l h2⟩
    rcases h1 with ⟨f, h1⟩ | h1
    · exact .inl ⟨(l.f a f).1, (l.f a f).2.trans h1⟩
    · exact .inr h1
  | .lst ws, _, h => by
    simp only [Rep] at h ⊢
    obtain ⟨a, vs, e, f, h1, h2⟩ := h
    exact ⟨a, vs, e, (l.f a f).1, (l.f a f).2.trans h1, RepL.mono l h2⟩
  | .dct ks ws, _, h => by
    simp only [Rep] at h ⊢
    obtain ⟨a, kvs, e, f, h1, h2, h3⟩ := h
    exact ⟨a, kvs, e, (l.f a f).1, (l.f a f).2.trans h1, RepL.mono l h2, RepL.mono l h3⟩
  | .flst ws, _, h => by
    simp only [Rep] at h ⊢
    obtain ⟨a, vs, e, h1, h2⟩ := h
    refine ⟨a, vs, e, ?_, RepL.mono l h2⟩
    rcases h1 with ⟨f, o, h1⟩ | h1
    · exact .inl ⟨(l.f a f).1, o, (l.f a f).2.trans h1⟩
    · exact .inr h1
theorem RepL.mono (l : Le d H d' H') : ∀ {ws : List W} {vs : List V}, RepL c d H ws vs → RepL c d' H' ws vs
  | [], _, h => by simpa only [RepL] using h
  | w :: ws, _, h => by
    simp only [RepL] at h ⊢
    obtain ⟨x, r, e, h1, h2⟩ := h
    exact ⟨x, r, e, Rep.mono l h1, RepL.mono l h2⟩
end
theorem RepL.length : ∀ {ws : List W} {vs : List V}, RepL c d H ws vs → vs.length = ws.length
  | [], _, h => by simp only [RepL] at h; rw [h]; rfl
  | w :: ws, _, h => by
    simp only [RepL] at h
    obtain ⟨x, r, e, _, h2⟩ := h
    rw [e, List.length_cons, List.length_cons, RepL.length h2]
theorem RepL.nil : RepL c d H [] [] := by simp only [RepL]
theorem RepL.cons {w : W} {x : V} {ws : List W} {r : List V} (h1 : Rep c d H w x) (h2 : RepL c d H ws r) : RepL c d H (w :: ws) (x :: r) := by
  simp only [RepL]
  exact ⟨x, r, rfl, h1, h2⟩
theorem RepL.uncons {w : W} {ws : List W} {vs : List V} (h : RepL c d H (w :: ws) vs) : ∃ x r, vs = x :: r ∧ Rep c d H w x ∧ RepL c d H ws r := by
  simpa only [RepL] using h
theorem RepL.unnil {vs : List V} (h : RepL c d H [] vs) : vs = [] := by simpa only [RepL] using h
theorem RepL.append : ∀ {ws : List W} {vs : List V} {ws' : List W} {vs' : List V}, RepL c d H ws vs → RepL c d H ws' vs' → RepL c d H (ws ++ ws') (vs ++ vs')
  | [], _, _, _, h, h' => by rw [h.unnil]; exact h'
  | _ :: _, _, _, _, h, h' => by
    obtain ⟨x, r, rfl, h1, h2⟩ := h.uncons
    exact .cons h1 (RepL.append h2 h')
theorem RepL.get : ∀ {ws : List W} {vs : List V} {i : Nat} {w : W}, RepL c d H ws vs → ws[i]? = some w → ∃ v, vs[i]? = some v ∧ Rep c d H w v
  | [], _, _, _, _, e => by simp at e
  | w :: ws, _, 0, _, h, e => by
    obtain ⟨x, r, rfl, h1, _⟩ := h.uncons
    simp at e; subst e
    exact ⟨x, rfl, h1⟩
  | w :: ws, _, i + 1, _, h, e => by
    obtain ⟨x, r, rfl, _, h2⟩ := h.uncons
    obtain ⟨v, a, b⟩ := RepL.get (i := i) h2 (by simpa using e)
    exact ⟨v, by simpa using a, b⟩
theorem RepL.set : ∀ {ws : List W} {vs : List V} (i : Nat) {w : W} {v : V}, RepL c d H ws vs → Rep c d H w v → RepL c d H (ws.set i w) (vs.set i v)
  | [], _, _, _, _, h, _ => by rw [h.unnil]; exact .nil
  | _ :: _, _, 0, _, _, h, r => by
    obtain ⟨x, t, rfl, _, h2⟩ := h.uncons
    exact .cons r h2
  | _ :: _, _, i + 1, _, _, h, r => by
    obtain ⟨x, t, rfl, h1, h2⟩ := h.uncons
    exact .cons h1 (RepL.set i h2 r)
theorem RepL.take : ∀ {ws : List W} {vs : List V} (n : Nat), RepL c d H ws vs → RepL c d H (ws.take n) (vs.take n)
  | _, _, 0, _ => .nil
  | [], _, _ + 1, h => by rw [h.unnil]; exact .nil
  | _ :: _, _, n + 1, h => by
    obtain ⟨x, t, rfl, h1, h2⟩ := h.uncons
    exact .cons h1 (RepL.take n h2)
theorem RepL.drop : ∀ {ws : List W} {vs : List V} (n : Nat), RepL c d H ws vs → RepL c d H (ws.drop n) (vs.drop n)
  | _, _, 0, h => h
  | [], _, _ + 1, h => by rw [h.unnil]; exact .nil
  | _ :: _, _, n + 1, h => by
    obtain ⟨x, t, rfl, _, h2⟩ := h.uncons
    exact RepL.drop n h2
end

/-! ### deep data -/
mutual
def W.toD : W → Option PyData
  | .non => some .none
  | .bl b => some (.bool b)
  | .int i => some (.int i)
  | .str s => some (.str s)
  | .tup ws => (W.toDs ws).map .tuple
  | .lst ws => (W.toDs ws).map .list
  | .flst ws => (W.toDs ws).map .list
  | _ => none
def W.toDs : List W → Option (List PyData)
  | [] => some []
  | w :: ws => match W.toD w, W.toDs ws with
    | some x, some xs => some (x :: xs)
    | _, _ => none
end
section
variable {c : Cn} {d d' : Wd} {H H' : Hp}
mutual
theorem Rep.dp : ∀ {w : W} {v : V} {x : PyData}, Rep c d H w v → w.toD = some x → Dp c.K H v x
  | .non, _, _, h, e => by simp only [Rep] at h; simp only [W.toD] at e; cases e; subst h; exact .non
  | .bl b, _, _, h, e => by simp only [Rep] at h; simp only [W.toD] at e; cases e; subst h; exact .bl b
  | .int i, _, _, h, e => by simp only [Rep] at h; simp only [W.toD] at e; cases e; subst h; exact .int i
  | .str i, _, _, h, e => by simp only [Rep] at h; simp only [W.toD] at e; cases e; subst h; exact .str i
  | .tup ws, _, _, h, e => by
    simp only [Rep] at h; simp only [W.toD] at e
    obtain ⟨a, vs, rfl, h1, h2⟩ := h
    cases q : W.toDs ws with
    | none => rw [q] at e; cases e
    | some ds =>
      rw [q] at e; cases e
      refine .tup (xs := vs) ?_ (RepL.dp h2 q)
      rcases h1 with ⟨_, h1⟩ | h1
      · exact .of h1
      · exact h1.sq H
  | .lst ws, _, _, h, e => by
    simp only [Rep] at h; simp only [W.toD] at e
    obtain ⟨a, vs, rfl, _, h1, h2⟩ := h
    cases q : W.toDs ws with
    | none => rw [q] at e; cases e
    | some ds =>
      rw [q] at e; cases e
      exact .lst (xs := vs) (.of h1) (RepL.dp h2 q)
  | .flst ws, _, _, h, e => by
    simp only [Rep] at h; simp only [W.toD] at e
    obtain ⟨a, vs, rfl, h1, h2⟩ := h
    cases q : W.toDs ws with
    | none => rw [q] at e; cases e
    | some ds =>
      rw [q] at e; cases e
      refine .lst (xs := vs) ?_ (RepL.dp h2 q)
      rcases h1 with ⟨_, o, h1⟩ | h1
      · exact .inl (.inr ⟨o, h1⟩)
      · exact h1.sq H
  | .dct _ _, _, _, _, e => by simp only [W.toD] at e; cases e
  | .fn _, _, _, _, e => by simp only [W.toD] at e; cases e
  | .ref _, _, _, _, e => by simp only [W.toD] at e; cases e
  | .exc _ _, _, _, _, e => by simp only [W.toD] at e; cases e
theorem RepL.dp : ∀ {ws : List W} {vs : List V} {xs : List PyData}, RepL c d H ws vs → W.toDs ws = some xs → DpAll c.K H vs xs
  | [], _, _, h, e => by rw [h.unnil]; simp only [W.toDs] at e; cases e; exact .nil
  | w :: ws, _, _, h, e => by
    obtain ⟨x, r, rfl, h1, h2⟩ := h.uncons
    simp only [W.toDs] at e
    cases q : W.toD w with
    | none => rw [q] at e; cases e
    | some y =>
      cases q2 : W.toDs ws with
      | none => rw [q, q2] at e; cases e
      | some ys =>
        rw [q, q2] at e; cases e
        exact .cons (Rep.dp h1 q) (RepL.dp h2 q2)
end
end
end NV
set_option Elab.async false
set_option linter.all false
set_option maxRecDepth 100000
set_option maxHeartbeats 1000000
/-! # The little language and its evaluator -/
namespace NV
open PySem PySem.Spec PyProof.Rows L2

/-- own: a list of the frame itself; true: it came from the caller and stays in its slot -/
inductive SV where
  | val (w : W) | own (l : Bool × List W)
  deriving Inhabited
abbrev Env := List (Option SV)
abbrev Sto := List (List W)
inductive RV where
  | val (w : W) | fresh (l : List W)
  deriving Inhabited
/-- an argument's value: settled, or a slot's list that is looked at when it is used -/
inductive AV where
  | val (w : W) | pk (i : Nat)
  deriving Inhabited
inductive Out (α : Type) where
  | ok (a : α) (ρ : Env) (S : Sto)
  | exn (k : Nat) (w : W) (ρ : Env) (S : Sto)
  | stuck
def Out.bind {α β : Type} (o : Out α) (f : α → Env → Sto → Out β) : Out β := match o with
  | .ok a ρ S => f a ρ S
  | .exn k w ρ S => .exn k w ρ S
  | .stuck => .stuck
@[simp] theorem Out.bind_ok {α β : Type} (a : α) (ρ : Env) (S : Sto) (f : α → Env → Sto → Out β) : (Out.ok a ρ S).bind f = f a ρ S := rfl
@[simp] theorem Out.bind_exn {α β : Type} (k : Nat) (w : W) (ρ : Env) (S : Sto) (f : α → Env → Sto → Out β) : (Out.exn k w ρ S : Out α).bind f = .exn k w ρ S := rfl
@[simp] theorem Out.bind_stuck {α β : Type} (f : α → Env → Sto → Out β) : (Out.stuck : Out α).bind f = .stuck := rfl
/-- a value settled -/
def RV.frz : RV → W
  | .val w => w
  | .fresh l => .lst l
@[simp] theorem RV.frz_val (w : W) : (RV.val w).frz = w := rfl
@[simp] theorem RV.frz_fresh (l : List W) : (RV.fresh l).frz = .lst l := rfl

/-- built-in functions and types, called; methods that change nothing -/
inductive Bi where
  | len | max2 | min2 | sum | repr | int | list | tuple | dict
  deriving DecidableEq
inductive Me where
  | bitLength | join | count | index | get
  deriving DecidableEq
inductive P where
  | bin (o : Operator) | cmp (o : CmpOp) | ix
  deriving DecidableEq
inductive Ty where
  | str | int | bool | list | tuple | dict
  deriving DecidableEq
inductive Mu where
  | append | extend | pop | popAt
  deriving DecidableEq

/-- expressions -/
inductive M where
  | nil | cons (a b : M)
  | cst (w : W)
  | nm (i : Nat) | pk (i : Nat) | mv (i : Nat)
  | gf (f : Nat) | gc (x : Str) (w : W)
  | gd (x : Str) (ks vs : List W) (a : M)
  | tup (as : M) | lst (as : M)
  | op2 (p : P) (a b : M)
  | neg (a : M)
  | sl (a lo hi : M)
  | bi (b : Bi) (as : M)
  | me (m : Me) (o as : M)
  | isi (a : M) (ts : List Ty)
  | and (a b : M) | or (a b : M) | not (a : M) | ite (t a b : M)
  | chain (o1 o2 : CmpOp) (a b c : M)
  | call (f : Nat) (as : M)
  | callk (f : Nat) (perm : List Nat) (as ks : M)
  | mut (m : Mu) (i : Nat) (as : M)
  | hmut (m : Mu) (o as : M)
  | heap (a : M)
  | lc (own : List Nat) (src tgt cond elt : M)
  | lc2 (own : List Nat) (src tgt cond src2 tgt2 cond2 elt : M)
  | edict | seq (a : M) | rng (as : M) | enum (as : M) | zip (as : M)
  | tnm (i : Nat) | ttup (ts : M)
  deriving Inhabited

/-! ### primitives -/
def szOk (n : Nat) : Bool := decide (n ≤ sizeLine)
def pBin : Operator → W → W → Option RV
  | .Add, .int i, .int j => some (.val (.int (i + j)))
  | .Add, .str a, .str b => if szOk (a.length + b.length) then some (.val (.str (a ++ b))) else none
  | .Add, .lst a, .lst b => if szOk (a.length + b.length) then some (.fresh (a ++ b)) else none
  | .Add, .tup a, .tup b => if !a.isEmpty && szOk (a.length + b.length) then some (.val (.tup (a ++ b))) else none
  | .Sub, .int i, .int j => some (.val (.int (i - j)))
  | .Mult, .int i, .int j => if decide (i.natAbs.log2 + j.natAbs.log2 < 1000000) then some (.val (.int (i * j))) else none
  | .Mult, .lst a, .int k => if decide (-(2 ^ 63) ≤ k) && decide (k < 2 ^ 63) && szOk (a.length * k.toNat) then some (.fresh (List.replicate k.toNat a).flatten) else none
  | .FloorDiv, .int i, .int j => if decide (0 < j) && decide (j.natAbs.log2 < 9000) then some (.val (.int (i / j))) else none
  | .Mod, .int i, .int j => if decide (0 < j) then some (.val (.int (i % j))) else none
  | .Pow, .int i, .int j => if decide (0 ≤ j) && decide ((Builtin.Int.intBits i : Int) * j ≤ 2 ^ 27) then some (.val (.int (i ^ j.toNat))) else none
  | _, _, _ => none
def dOk (x : PyData) : Bool := decide (x.depth ≤ 64)
def wEq (a b : W) : Option Bool := match a.toD, b.toD with
  | some x, some y => if dOk x || dOk y then some (PyData.eqv x y) else none
  | _, _ => none
def wInL (l : List W) (x : W) : Option Bool := match W.toDs l, x.toD with
  | some xs, some d => if dOk d then some (xs.any fun y => PyData.eqv y d) else none
  | _, _ => none
def wIn (x y : W) : Option Bool := match y with
  | .str z => match x with
    | .str s => match s.cps.toList with
      | [c] => some (decide (c ∈ z.cps.toList))
      | _ => none
    | _ => none
  | .lst l => wInL l x
  | .flst l => wInL l x
  | .tup l => wInL l x
  | _ => none
def W.isNon : W → Bool
  | .non => true
  | _ => false
/-- is it this truth value -/
def W.isBl (b : Bool) : W → Bool
  | .bl a => a == b
  | _ => false
def pCmp : CmpOp → W → W → Option Bool
  | .Eq, a, b => wEq a b
  | .NotEq, a, b => (wEq a b).map (!·)
  | .Lt, .int i, .int j => some (decide (i < j))
  | .LtE, .int i, .int j => some (decide (i ≤ j))
  | .Gt, .int i, .int j => some (decide (j < i))
  | .GtE, .int i, .int j => some (decide (j ≤ i))
  | .Is, a, .non => some a.isNon
  | .IsNot, a, .non => some (!a.isNon)
  | .Is, a, .bl b => some (a.isBl b)
  | .In, a, b => wIn a b
  | .NotIn, a, b => (wIn a b).map (!·)
  | _, _, _ => none
def dctFind : List W → List W → Str → Option W
  | .str k :: ks, w :: vs, z => if k = z then some w else dctFind ks vs z
  | .int _ :: ks, _ :: vs, z => dctFind ks vs z
  | _, _, _ => none
def pIx : W → W → Option W
  | .lst l, .int i => atI l i
  | .flst l, .int i => atI l i
  | .tup l, .int i => atI l i
  | .str z, .int i => if szOk z.length then (atI z.cps.toList i).map fun c => .str ⟨#[c]⟩ else none
  | .dct ks vs, .str z => dctFind ks vs z
  | _, _ => none
def pOp2 : P → W → W → Option RV
  | .bin o, a, b => pBin o a b
  | .cmp o, a, b => (pCmp o a b).map fun b => .val (.bl b)
  | .ix, a, b => (pIx a b).map .val
/-- the items of l[lo:hi] -/
def cutW (l : List W) (lo hi : Option Int) : List W := (l.drop (HT.sIx l.length 0 lo)).take (HT.sIx l.length l.length hi - HT.sIx l.length 0 lo)
def pSl : W → Option Int → Option Int → Option RV
  | .lst l, lo, hi => some (.fresh (cutW l lo hi))
  | .flst l, lo, hi => some (.fresh (cutW l lo hi))
  | .str z, lo, hi => if szOk z.length then some (.val (.str (L2.cutS z lo hi))) else none
  | .tup l, lo, hi => if decide (HT.sIx l.length 0 lo = 0) && decide (HT.sIx l.length l.length hi = l.length) then none else some (.val (.tup (cutW l lo hi)))
  | _, _, _ => none
def wInts : List W → Option (List Int)
  | [] => some []
  | .int i :: r => (wInts r).map (i :: ·)
  | _ :: _ => none
def wStrs : List W → Option (List Str)
  | [] => some []
  | .str i :: r => (wStrs r).map (i :: ·)
  | _ :: _ => none
/-- a list of pairs, unlike texts ahead, as a dict -/
def dctOf : List W → Option (List Str × List W)
  | [] => some ([], [])
  | .tup [.str k, v] :: r => match dctOf r with
    | some (ks, vs) => if k ∈ ks then none else some (k :: ks, v :: vs)
    | none => none
  | _ => none
def reprW (a : W) : Option Str := match a.toD with
  | some x => if dOk x && (x.showable && szOk x.shown.length) then some x.shown else none
  | none => none
def pBi : Bi → List W → Option RV
  | .len, [.lst l] => some (.val (.int l.length))
  | .len, [.flst l] => some (.val (.int l.length))
  | .len, [.tup l] => some (.val (.int l.length))
  | .len, [.str z] => if szOk z.length then some (.val (.int z.length)) else none
  | .max2, [.int i, .int j] => some (.val (.int (if j > i then j else i)))
  | .min2, [.int i, .int j] => some (.val (.int (if j < i then j else i)))
  | .sum, [.lst l] => (wInts l).map fun ns => .val (.int ns.sum)
  | .sum, [.flst l] => (wInts l).map fun ns => .val (.int ns.sum)
  | .repr, [.dct [] []] => some (.val (.str "{}"))
  | .repr, [a] => (reprW a).map fun z => .val (.str z)
  | .int, [.int i] => some (.val (.int i))
  | .int, [.bl b] => some (.val (.int (if b then 1 else 0)))
  | .list, [.lst l] => some (.fresh l)
  | .list, [.flst l] => some (.fresh l)
  | .list, [.tup l] => some (.fresh l)
  | .tuple, [.lst l] => some (.val (.tup l))
  | .tuple, [.flst l] => some (.val (.tup l))
  | .tuple, [.tup l] => some (.val (.tup l))
  | .dict, [.lst l] => (dctOf l).map fun p => .val (.dct (p.1.map .str) p.2)
  | _, _ => none
def pMe : Me → W → List W → Option RV
  | .bitLength, .int i, [] => some (.val (.int (Builtin.Int.intBits i)))
  | .join, .str a, [.lst l] => (wStrs l).bind fun ys => if decide ((ys.map (·.length)).sum + ys.length * a.length ≤ 16777216) then some (.val (.str (Txt.join a ys))) else none
  | .count, .lst l, [y] => match W.toDs l, y.toD with
    | some xs, some d => if dOk d then some (.val (.int ((xs.countP fun z => PyData.eqv z d : Nat) : Int))) else none
    | _, _ => none
  | _, _, _ => none
def tyMe : Me → W → Bool
  | .bitLength, .int _ => true
  | .join, .str _ => true
  | .count, .lst _ => true
  | .index, .lst _ => true
  | .get, .dct _ _ => true
  | _, _ => false
def tyOk (m : Me) : Option W → Bool
  | some u => tyMe m u
  | none => false
def isTy : Ty → W → Bool
  | .str, .str _ => true
  | .int, .int _ | .int, .bl _ => true
  | .bool, .bl _ => true
  | .list, .lst _ | .list, .flst _ => true
  | .tuple, .tup _ => true
  | .dict, .dct _ _ => true
  | _, _ => false
def isiW : W → List Ty → Option Bool
  | .fn _, _ | .ref _, _ | .exc _ _, _ => none
  | w, ts => some (ts.any fun t => isTy t w)

/-! ### the environment -/
def sget (ρ : Env) (i : Nat) : Option SV := (ρ[i]?).join
/-- read: a list that was the slot's own is settled -/
def rdEnv (ρ : Env) (i : Nat) : Option (W × Env) := match sget ρ i with
  | some (.val w) => some (w, ρ)
  | some (.own l) => if l.1 then none else some (.lst l.2, ρ.set i (some (.val (.lst l.2))))
  | none => none
def pkEnv (ρ : Env) (i : Nat) : Option W := match sget ρ i with
  | some (.val w) => some w
  | some (.own l) => some (.lst l.2)
  | none => none
/-- a shared list looked at -/
def res (S : Sto) : W → W
  | .ref n => match S[n]? with
    | some l => .lst l
    | none => .ref n
  | w => w
def AV.get (ρ : Env) (S : Sto) : AV → Option W
  | .val w => some (res S w)
  | .pk i => (pkEnv ρ i).map (res S)
def avs (ρ : Env) (S : Sto) : List AV → Option (List W)
  | [] => some []
  | a :: r => match a.get ρ S, avs ρ S r with
    | some w, some ws => some (w :: ws)
    | _, _ => none
/-- arguments that are all settled -/
def vals : List AV → Option (List W)
  | [] => some []
  | .val w :: r => (vals r).map (w :: ·)
  | .pk _ :: _ => none
def wipeE (ρ : Env) : List Nat → Env
  | [] => ρ
  | i :: r => (wipeE ρ r).set i none
/-- behind a comprehension: its own names as they were, if they were settled -/
def backE (ρ ρ' : Env) : List Nat → Env
  | [] => ρ'
  | i :: r => (backE ρ ρ' r).set i (match sget ρ i with
    | some (.val w) => some (.val w)
    | _ => none)

/-! ### targets -/
/-- a slot that may be given another value -/
def freeS (ρ : Env) (i : Nat) : Bool := decide (i < ρ.length) && match sget ρ i with
  | some (.own l) => !l.1
  | _ => true
def putT (ρ : Env) (i : Nat) (s : SV) : Option Env := if freeS ρ i then some (ρ.set i (some s)) else none
def asgT : M → W → Env → Option Env
  | .tnm i, w, ρ => putT ρ i (.val w)
  | .ttup ts, w, ρ => match w with
    | .tup l => asgTs ts l ρ
    | _ => none
  | _, _, _ => none
where asgTs : M → List W → Env → Option Env
  | .nil, [], ρ => some ρ
  | .cons t ts, w :: l, ρ => match asgT t w ρ with
    | some ρ1 => asgTs ts l ρ1
    | none => none
  | _, _, _ => none

/-! ### loops over items -/
def lcLoop (tgt : W → Env → Option Env) (f : Env → Sto → Out (Option W)) (own : List Nat) : List W → List W → Env → Sto → Out (List W)
  | [], acc, ρ, S => .ok acc ρ S
  | w :: r, acc, ρ, S => match tgt w ρ with
    | none => .stuck
    | some ρ1 => match f ρ1 S with
      | .ok (some x) ρ2 S2 => if acc.length < sizeLine then lcLoop tgt f own r (acc ++ [x]) (wipeE ρ2 own) S2 else .stuck
      | .ok none ρ2 S2 => lcLoop tgt f own r acc (wipeE ρ2 own) S2
      | _ => .stuck

/-- a list's own method: what it hands back, the list behind it -/
def muE (m : Mu) (xs : List W) (ρ : Env) (S : Sto) (l : List AV) : Option (W × List W) := match m, l with
  | .append, [.val w] => if xs.length < sizeLine then some (.non, xs ++ [w]) else none
  | .extend, [x] => match x.get ρ S with
    | some (.lst ys) => if xs.length + ys.length ≤ sizeLine then some (.non, xs ++ ys) else none
    | _ => none
  | .pop, [] => match xs[xs.length - 1]? with
    | some y => some (y, xs.dropLast)
    | none => none
  | .popAt, [.val (.int k)] => if decide (-(2 ^ 63) ≤ k) && decide (k < 2 ^ 63) then match seqIndex? k xs.length with
      | some j => match xs[j]? with
        | some y => some (y, xs.eraseIdx j)
        | none => none
      | none => none
    else none
  | _, _ => none

/-! ### the evaluator -/
abbrev CallF := Nat → List SV → Sto → Out RV

/-- the caller's list, for the callee -/
def pinS : SV → SV
  | .val w => .val w
  | .own l => .own (true, l.2)
/-- arguments of a call of one's own def: a slot's own list goes by itself (pk), all else by value -/
def argSV (ρ : Env) : List AV → Option (List SV)
  | [] => some []
  | .val w :: r => (argSV ρ r).map (.val w :: ·)
  | .pk i :: r => match sget ρ i, argSV ρ r with
    | some s, some t => some (pinS s :: t)
    | _, _ => none
/-- the slots behind the call: a slot's own list is what the callee left of it -/
def backA (ρ : Env) : List AV → List (Option SV) → Option Env
  | [], _ => some ρ
  | .val _ :: r, _ :: t => backA ρ r t
  | .pk i :: r, s :: t => match sget ρ i with
    | some (.own l) => match s with
      | some (.own l') => backA (ρ.set i (some (.own (l.1, l'.2)))) r t
      | _ => none
    | _ => backA ρ r t
  | _, [] => none
def pks : List AV → List Nat
  | [] => []
  | .val _ :: r => pks r
  | .pk i :: r => i :: pks r

def rngL : List W → Option (List W)
  | [.int n] => if decide (-(2 ^ 62) ≤ n) && decide (n < 2 ^ 62) then some ((List.range n.toNat).map fun (i : Nat) => .int i) else none
  | [.int m, .int n] => if (decide (-(2 ^ 62) ≤ m) && decide (m < 2 ^ 62)) && (decide (-(2 ^ 62) ≤ n) && decide (n < 2 ^ 62)) then some ((List.range (n - m).toNat).map fun (i : Nat) => .int (m + i)) else none
  | [.int m, .int n, .int c] => if (decide (c ≠ 0) && decide (c.natAbs < 1073741824)) && (Builtin.Range.small m n c && decide (0 ≤ Builtin.Range.rangeSize m n c)) then some ((List.range (Builtin.Range.rangeSize m n c).toNat).map fun (i : Nat) => .int (m + i * c)) else none
  | _ => none
def enumL : Nat → List W → List W
  | _, [] => []
  | n, w :: r => .tup [.int n, w] :: enumL (n + 1) r
def zipL : List W → List W → List W
  | a :: r, b :: t => .tup [a, b] :: zipL r t
  | _, _ => []
def zipW : W → W → Option (List W)
  | .lst a, .lst b => some (zipL a b)
  | .tup a, .tup b => some (zipL a b)
  | _, _ => none
def doCall (cf : CallF) (f : Nat) (l : List AV) (ρ : Env) (S : Sto) : Out RV := match argSV ρ l with
  | some args => if (pks l).Nodup then
      match cf f args S with
      | .ok r ρ' S' => match backA ρ l ρ' with
        | some ρ2 => .ok r ρ2 S'
        | none => .stuck
      | .exn k w ρ' S' => match backA ρ l ρ' with
        | some ρ2 => .exn k w ρ2 S'
        | none => .stuck
      | .stuck => .stuck
    else .stuck
  | none => .stuck
/-- which of the written values each parameter gets -/
def pickL {α : Type} (l : List α) : List Nat → Option (List α)
  | [] => some []
  | i :: r => match l[i]?, pickL l r with
    | some x, some t => some (x :: t)
    | _, _ => none

def argV (g : Env → Sto → Out RV) : M → Env → Sto → Out AV
  | .pk i, ρ, S => match sget ρ i with
    | some _ => .ok (.pk i) ρ S
    | none => .stuck
  | _, ρ, S => (g ρ S).bind fun r ρ S => .ok (.val r.frz) ρ S
def optO (g : Env → Sto → Out RV) : M → Env → Sto → Out (Option Int)
  | .nil, ρ, S => .ok none ρ S
  | _, ρ, S => (g ρ S).bind fun r ρ S => match r with
    | .val (.int i) => .ok (some i) ρ S
    | _ => .stuck
mutual
def evE (cf : CallF) : M → Env → Sto → Out RV
  | .cst w, ρ, S => .ok (.val w) ρ S
  | .gf f, ρ, S => .ok (.val (.fn f)) ρ S
  | .gc _ w, ρ, S => .ok (.val w) ρ S
  | .nm i, ρ, S => match rdEnv ρ i with
    | some (w, ρ') => .ok (.val w) ρ' S
    | none => .stuck
  | .mv i, ρ, S => match sget ρ i with
    | some (.val w) => .ok (.val w) ρ S
    | some (.own l) => if l.1 then .stuck else .ok (.fresh l.2) (ρ.set i none) S
    | none => .stuck
  | .gd _ ks vs a, ρ, S => (evE cf a ρ S).bind fun r ρ S => match pIx (.dct ks vs) r.frz with
    | some w => .ok (.val w) ρ S
    | none => .stuck
  | .tup as, ρ, S => (evA cf as ρ S).bind fun l ρ S => match vals l with
    | some ws => if szOk ws.length then .ok (.val (.tup ws)) ρ S else .stuck
    | none => .stuck
  | .lst as, ρ, S => (evA cf as ρ S).bind fun l ρ S => match vals l with
    | some ws => if szOk ws.length then .ok (.fresh ws) ρ S else .stuck
    | none => .stuck
  | .op2 p a b, ρ, S => (argV (evE cf a) a ρ S).bind fun x ρ S => (argV (evE cf b) b ρ S).bind fun y ρ S => match x.get ρ S, y.get ρ S with
    | some u, some v => match pOp2 p u v with
      | some r => .ok r ρ S
      | none => .stuck
    | _, _ => .stuck
  | .neg a, ρ, S => (evE cf a ρ S).bind fun x ρ S => match x.frz with
    | .int i => .ok (.val (.int (-i))) ρ S
    | _ => .stuck
  | .sl a lo hi, ρ, S => (argV (evE cf a) a ρ S).bind fun x ρ S => (optO (evE cf lo) lo ρ S).bind fun l ρ S => (optO (evE cf hi) hi ρ S).bind fun h ρ S => match x.get ρ S with
    | some u => match pSl u l h with
      | some r => .ok r ρ S
      | none => .stuck
    | none => .stuck
  | .bi b as, ρ, S => (evA cf as ρ S).bind fun l ρ S => match avs ρ S l with
    | some ws => match pBi b ws with
      | some r => .ok r ρ S
      | none => .stuck
    | none => .stuck
  | .me m o as, ρ, S => (argV (evE cf o) o ρ S).bind fun x ρ S => if tyOk m (x.get ρ S) then (evA cf as ρ S).bind fun l ρ S => match x.get ρ S, avs ρ S l with
    | some u, some ws => match pMe m u ws with
      | some r => .ok r ρ S
      | none => .stuck
    | _, _ => .stuck
    else .stuck
  | .isi a ts, ρ, S => (argV (evE cf a) a ρ S).bind fun x ρ S => match x.get ρ S with
    | some u => match isiW u ts with
      | some b => .ok (.val (.bl b)) ρ S
      | none => .stuck
    | none => .stuck
  | .and a b, ρ, S => (evE cf a ρ S).bind fun x ρ S => match x with
    | .val (.bl true) => evE cf b ρ S
    | .val (.bl false) => .ok (.val (.bl false)) ρ S
    | _ => .stuck
  | .or a b, ρ, S => (evE cf a ρ S).bind fun x ρ S => match x with
    | .val (.bl false) => evE cf b ρ S
    | .val (.bl true) => .ok (.val (.bl true)) ρ S
    | _ => .stuck
  | .not a, ρ, S => (evE cf a ρ S).bind fun x ρ S => match x with
    | .val (.bl b) => .ok (.val (.bl (!b))) ρ S
    | _ => .stuck
  | .ite t a b, ρ, S => (evE cf t ρ S).bind fun x ρ S => match x with
    | .val (.bl true) => evE cf a ρ S
    | .val (.bl false) => evE cf b ρ S
    | _ => .stuck
  | .chain o1 o2 a b c, ρ, S => (evE cf a ρ S).bind fun x ρ S => (evE cf b ρ S).bind fun y ρ S => match pCmp o1 x.frz y.frz with
    | some true => (evE cf c ρ S).bind fun z ρ S => match pCmp o2 y.frz z.frz with
      | some r => .ok (.val (.bl r)) ρ S
      | none => .stuck
    | some false => .ok (.val (.bl false)) ρ S
    | none => .stuck
  | .call f as, ρ, S => (evA cf as ρ S).bind fun l ρ S => doCall cf f l ρ S
  | .callk f perm as ks, ρ, S => (evA cf as ρ S).bind fun l1 ρ S => (evA cf ks ρ S).bind fun l2 ρ S => match pickL (l1 ++ l2) perm with
    | some l => doCall cf f l ρ S
    | none => .stuck
  | .mut m i as, ρ, S => match sget ρ i with
    | some (.own _) => (evA cf as ρ S).bind fun l ρ S => match sget ρ i with
      | some (.own xs) => match muE m xs.2 ρ S l with
        | some (w, ys) => .ok (.val w) (ρ.set i (some (.own (xs.1, ys)))) S
        | none => .stuck
      | _ => .stuck
    | _ => .stuck
  | .hmut m o as, ρ, S => (argV (evE cf o) o ρ S).bind fun x ρ S => match x with
    | .val (.ref n) => match S[n]? with
      | some _ => (evA cf as ρ S).bind fun l ρ S => match S[n]? with
        | some xs => match muE m xs ρ S l with
          | some (w, ys) => .ok (.val w) ρ (S.set n ys)
          | none => .stuck
        | none => .stuck
      | none => .stuck
    | _ => .stuck
  | .heap a, ρ, S => (evE cf a ρ S).bind fun r ρ S => match r with
    | .fresh l => .ok (.val (.ref S.length)) ρ (S ++ [l])
    | _ => .stuck
  | .edict, ρ, S => .ok (.val (.dct [] [])) ρ S
  | .lc own src tgt cond elt, ρ, S => (evI cf src ρ S).bind fun ws ρ S => if own.all (freeS ρ) then
      match lcLoop (asgT tgt) (fun ρ S => (evE cf cond ρ S).bind fun x ρ S => match x with
          | .val (.bl true) => (evE cf elt ρ S).bind fun y ρ S => .ok (some y.frz) ρ S
          | .val (.bl false) => .ok none ρ S
          | _ => .stuck) own ws [] (wipeE ρ own) S with
      | .ok l ρ' S' => .ok (.fresh l) (backE ρ ρ' own) S'
      | _ => .stuck
    else .stuck
  | _, _, _ => .stuck
def evA (cf : CallF) : M → Env → Sto → Out (List AV)
  | .nil, ρ, S => .ok [] ρ S
  | .cons a b, ρ, S => (argV (evE cf a) a ρ S).bind fun x ρ S => (evA cf b ρ S).bind fun r ρ S => .ok (x :: r) ρ S
  | _, _, _ => .stuck
/-- what a loop walks -/
def evI (cf : CallF) : M → Env → Sto → Out (List W)
  | .seq a, ρ, S => (evE cf a ρ S).bind fun r ρ S => match r.frz with
    | .lst l | .flst l | .tup l => .ok l ρ S
    | .str z => .ok (z.cps.toList.map fun c => .str ⟨#[c]⟩) ρ S
    | _ => .stuck
  | .rng as, ρ, S => (evA cf as ρ S).bind fun l ρ S => match vals l with
    | some ws => match rngL ws with
      | some r => .ok r ρ S
      | none => .stuck
    | none => .stuck
  | .enum as, ρ, S => (evA cf as ρ S).bind fun l ρ S => match vals l with
    | some [.lst l] | some [.flst l] => .ok (enumL 0 l) ρ S
    | _ => .stuck
  | .zip as, ρ, S => (evA cf as ρ S).bind fun l ρ S => match vals l with
    | some [a, b] => match zipW a b with
      | some r => .ok r ρ S
      | none => .stuck
    | _ => .stuck
  | _, _, _ => .stuck
end
/-- an argument: a slot is only looked at -/
def evV (cf : CallF) (m : M) : Env → Sto → Out AV := argV (evE cf m) m
/-- a slice's part -/
def evO (cf : CallF) (m : M) : Env → Sto → Out (Option Int) := optO (evE cf m) m
end NV
set_option Elab.async false
set_option linter.all false
set_option maxRecDepth 100000
set_option maxHeartbeats 1000000
namespace NV
open PySem PySem.Spec PyProof.Rows L2
theorem loopP {ε : Type} {ps : List Str} {f : (Str × Value) → List (Str × Value) × ε → Sem (ForInStep (List (Str × Value) × ε))} (hf : ∀ p s e, p.1 ∈ ps → s.lookup p.1 = none → f p (s, e) = pure (.yield (s ++ [(p.1, p.2)], e))) :
    ∀ (kw : List (Str × Value)) (s : List (Str × Value)) (e : ε), (∀ p ∈ kw, p.1 ∈ ps) → (kw.Pairwise fun p q => p.1 ≠ q.1) → (∀ p ∈ kw, s.lookup p.1 = none) → forIn kw (s, e) f = (pure (s ++ kw, e) : Sem _)
  | [], s, e, _, _, _ => by rw [List.forIn_nil, List.append_nil]
  | p :: r, s, e, h1, h2, h3 => by
    rw [List.forIn_cons, hf p s e (h1 _ (List.mem_cons_self ..)) (h3 _ (List.mem_cons_self ..)), pure_bind]
    show forIn r (s ++ [(p.1, p.2)], e) f = _
    rw [loopP hf r _ e (fun q hq => h1 q (List.mem_cons_of_mem _ hq)) (List.pairwise_cons.mp h2).2 (fun q hq => ?_), List.append_assoc]; · rfl
    rw [List.lookup_append, h3 q (List.mem_cons_of_mem _ hq), Option.none_or, List.lookup_cons]
    have : (q.1 == p.1) = false := by rw [beq_eq_false_iff_ne]; exact fun z => (List.pairwise_cons.mp h2).1 q hq z.symm
    rw [this]; rfl
theorem bind_plain {fd : FuncData} {ps : List Str} {us : List Value} {kw : List (Str × Value)} (h1 : fd.params.posonlyargs = []) (h2 : fd.params.args.map (·.arg) = ps) (h3 : fd.params.kwonlyargs = []) (h4 : fd.params.vararg = none) (h5 : fd.params.kwarg = none) (h6 : fd.defaults = .none)
    (hl : us.length ≤ ps.length) (hk : ∀ p ∈ kw, p.1 ∈ ps) (hn : kw.Pairwise fun p q => p.1 ≠ q.1) (hu : ∀ p ∈ kw, (ps.zip us).lookup p.1 = none) (ha : ∀ n ∈ ps, ((ps.zip us ++ kw).lookup n).isSome) :
    bindArgs fd ⟨us, kw⟩ = pure (ps.filterMap fun n => ((ps.zip us ++ kw).lookup n).map (n, ·)) := by
  unfold bindArgs
  simp only [h1, h2, h3, h4, h5, h6, List.map_nil, List.nil_append, List.append_nil]
  rw [loopP (ps := ps) (fun p s e hp hs => by
    have : ps.contains p.1 = true := by simpa using hp
    simp only [this, hs, Bool.true_or, if_true, Option.isSome_none, Bool.false_eq_true, if_false]) kw (ps.zip us) _ hk hn hu]
  rw [pure_bind]
  have e1 : seqItems? Value.none = (pure none : Sem (Option (Array Value))) := rfl
  rw [e1, pure_bind]
  have e2 : decide (us.length > ps.length) = false := by rw [decide_eq_false_iff_not]; omega
  have e3 : List.filter (fun n => (List.lookup n (ps.zip us ++ kw)).isNone) ps = [] := by
    rw [List.filter_eq_nil_iff]
    intro n hn
    have := ha n hn
    cases q : List.lookup n (ps.zip us ++ kw) with
    | none => rw [q] at this; cases this
    | some v => simp
  simp only [Option.getD_none, e2, Bool.false_and, Bool.false_eq_true, if_false, List.drop_nil, List.length_nil, Nat.sub_zero, List.take_length, e3, List.isEmpty_nil, Bool.not_true, List.drop_length, List.zip_nil_left, List.forIn_nil, pure_bind]
/-- names in the order in which values are written, the places by parameter -/
theorem lookup_zip : ∀ {ns : List Str} {vs : List Value} {i : Nat} {n : Str} {v : Value}, ns.Nodup → ns[i]? = some n → vs[i]? = some v → (ns.zip vs).lookup n = some v
  | a :: ns, b :: vs, 0, n, v, _, h1, h2 => by cases h1; cases h2; simp [List.zip_cons_cons, List.lookup_cons]
  | a :: ns, b :: vs, i + 1, n, v, hd, h1, h2 => by
    rw [List.zip_cons_cons, List.lookup_cons]
    have h1' : ns[i]? = some n := by simpa using h1
    have h2' : vs[i]? = some v := by simpa using h2
    have hm := List.mem_of_getElem? h1'
    have : (n == a) = false := by rw [beq_eq_false_iff_ne]; rintro rfl; exact (List.nodup_cons.mp hd).1 hm
    rw [this]
    exact lookup_zip (List.nodup_cons.mp hd).2 h1' h2'
theorem lookup_zip_none : ∀ {ns : List Str} {vs : List Value} {n : Str}, n ∉ ns → (ns.zip vs).lookup n = none
  | [], _, n, _ => rfl
  | a :: ns, [], n, _ => rfl
  | a :: ns, b :: vs, n, h => by
    rw [List.zip_cons_cons, List.lookup_cons]
    have : (n == a) = false := by rw [beq_eq_false_iff_ne]; rintro rfl; exact h (List.mem_cons_self ..)
    rw [this]
    exact lookup_zip_none fun z => h (List.mem_cons_of_mem _ z)
theorem filterMap_pick {ns : List Str} {vs : List Value} (hd : ns.Nodup) : ∀ {ps : List Str} {perm : List Nat} {us : List Value}, pickL ns perm = some ps → pickL vs perm = some us → ps.filterMap (fun n => ((ns.zip vs).lookup n).map (n, ·)) = ps.zip us ∧ ∀ n ∈ ps, ((ns.zip vs).lookup n).isSome
  | ps, [], us, h1, h2 => by cases h1; cases h2; exact ⟨rfl, fun n h => by cases h⟩
  | ps, i :: r, us, h1, h2 => by
    simp only [pickL] at h1 h2
    split at h1
    · rename_i x t q1 q2
      cases h1
      split at h2
      · rename_i y u q3 q4
        cases h2
        obtain ⟨k1, k2⟩ := filterMap_pick hd q2 q4
        have q := lookup_zip hd q1 q3
        refine ⟨by rw [List.filterMap_cons, q, k1]; rfl, fun n hn => ?_⟩
        rcases List.mem_cons.mp hn with z | z
        · rw [z, q]; rfl
        · exact k2 n z
      · cases h2
    · cases h1
theorem zip_takeL : ∀ {ns : List Str} {vs : List Value}, (ns.take vs.length).zip vs = ns.zip vs
  | [], _ => by simp
  | _ :: _, [] => rfl
  | a :: ns, b :: vs => by
    show ((a :: ns.take vs.length).zip (b :: vs)) = _
    rw [List.zip_cons_cons, List.zip_cons_cons, zip_takeL]
structure Plain (ps : List Str) (p : Arguments) : Prop where
  po : p.posonlyargs = []
  ar : p.args.map (·.arg) = ps
  ko : p.kwonlyargs = []
  va : p.vararg = none
  kw : p.kwarg = none
/-- us: by place, then by keyword -/
theorem bind_kw {fd : FuncData} {ps ks : List Str} {us ws vals : List Value} {perm : List Nat} (P : Plain ps fd.params) (h6 : fd.defaults = .none) (hw : ws.length = ks.length) (hp : us.length ≤ ps.length) (hn : (ps.take us.length ++ ks).Nodup) (hm : ∀ x ∈ ks, x ∈ ps)
    (h1 : pickL (ps.take us.length ++ ks) perm = some ps) (h2 : pickL (us ++ ws) perm = some vals) : bindArgs fd ⟨us, ks.zip ws⟩ = pure (ps.zip vals) := by
  have e : ps.zip us ++ ks.zip ws = (ps.take us.length ++ ks).zip (us ++ ws) := by
    rw [List.zip_append (by rw [List.length_take]; omega)]
    rw [zip_takeL]
  obtain ⟨k1, k2⟩ := filterMap_pick hn h1 h2
  rw [bind_plain P.po P.ar P.ko P.va P.kw h6 hp (fun p h => hm _ (List.of_mem_zip h).1) ?_ ?_ (by rw [e]; exact k2), e, k1]
  · have hk : ks.Nodup := (List.nodup_append.mp hn).2.1
    have : (ks.zip ws).map (·.1) = ks := List.map_fst_zip (by omega)
    rw [← this] at hk
    exact List.pairwise_map.mp hk
  · intro p h
    rw [← zip_takeL]
    refine lookup_zip_none fun z => ?_
    exact (List.nodup_append.mp hn).2.2 _ z _ (List.of_mem_zip h).1 rfl
end NV
set_option Elab.async false
set_option linter.all false
set_option maxRecDepth 100000
set_option maxHeartbeats 1000000
/-! # The state of the little language in the abstract heap -/
namespace NV
open PySem PySem.Spec PyProof.Rows L2

/-- a point that is looked back to: what was settled, the heap; B: lists that may be written; P: slots that hold lists of the caller -/
structure Ent where
  d : Wd
  H : Hp
  B : Addr → Prop
  P : List (Nat × Addr)

def ownAt (ρ : Env) (σ : L2.St) (i : Nat) (a : Addr) : Prop := (∃ l, ρ[i]? = some (some (.own l))) ∧ σ[i]? = some (some (.ref a))
def owns (ρ : Env) (σ : L2.St) (a : Addr) : Prop := ∃ i, ownAt ρ σ i a

/-- a list's content, as it stands now -/
def CRep (c : Cn) (d : Wd) (H : Hp) (w : W) (v : V) : Prop := match w with
  | .lst l => ∃ a vs, v = .ref a ∧ H a = some (.lst vs) ∧ RepL c d H l vs
  | w => Rep c d H w v
def SvR (c : Cn) (d : Wd) (H : Hp) : SV → V → Prop
  | .val w, v => Rep c d H w v
  | .own l, v => ∃ a vs, v = .ref a ∧ H a = some (.lst vs) ∧ RepL c d H l.2 vs ∧ ¬ d.F a ∧ a ∉ d.mu

structure Sim (c : Cn) (e : Ent) (d : Wd) (ρ : Env) (S : Sto) (σ : L2.St) (H : Hp) : Prop where
  le0 : Le e.d e.H d H
  dom : ∀ a, d.F a → H a ≠ none
  fr : ∀ a o, e.H a = some o → ¬ e.B a → a ∉ e.d.mu → H a = some o
  new : ∀ a, d.F a → e.d.F a ∨ e.H a = none ∨ e.B a
  mun : ∀ a, a ∈ d.mu → a ∈ e.d.mu ∨ e.H a = none
  dm : ∀ a, e.H a ≠ none → H a ≠ none
  mlen : d.mu.length = S.length
  nodup : d.mu.Nodup
  cell : ∀ (l : Nat) (ws : List W), S[l]? = some ws → ∃ a vs, d.mu[l]? = some a ∧ H a = some (.lst vs) ∧ RepL c d H ws vs ∧ ¬ d.F a
  len : ρ.length = σ.length
  slot : ∀ (i : Nat) (s : SV), ρ[i]? = some (some s) → ∃ v, σ[i]? = some (some v) ∧ SvR c d H s v
  own : ∀ (i : Nat) (a : Addr), ownAt ρ σ i a → e.B a ∨ e.H a = none
  inj : ∀ (i j : Nat) (a : Addr), ownAt ρ σ i a → ownAt ρ σ j a → i = j
  par : ∀ p ∈ e.P, σ[p.1]? = some (some (.ref p.2)) ∧ ∃ l : List W, ρ[p.1]? = some (some (.own (true, l)))

/-- looked at from here -/
def rb (e : Ent) (d : Wd) (H : Hp) (ρ : Env) (σ : L2.St) : Ent := ⟨d, H, owns ρ σ, e.P⟩

section
variable {c : Cn} {e : Ent} {d d' : Wd} {ρ ρ' : Env} {S S' : Sto} {σ σ' : L2.St} {H H' : Hp}

theorem Sim.ownH (s : Sim c e d ρ S σ H) {i : Nat} {a : Addr} (h : ownAt ρ σ i a) : ∃ l vs, ρ[i]? = some (some (.own l)) ∧ H a = some (.lst vs) ∧ RepL c d H l.2 vs ∧ ¬ d.F a ∧ a ∉ d.mu := by
  obtain ⟨⟨l, h1⟩, h2⟩ := h
  obtain ⟨v, q, r⟩ := s.slot i _ h1
  rw [h2] at q; cases q
  obtain ⟨b, vs, eb, r1, r2, r3, r4⟩ := r
  cases eb
  exact ⟨l, vs, h1, r1, r2, r3, r4⟩
theorem Sim.ownsH (s : Sim c e d ρ S σ H) {a : Addr} (h : owns ρ σ a) : H a ≠ none ∧ ¬ d.F a ∧ a ∉ d.mu := by
  obtain ⟨i, h⟩ := h
  obtain ⟨l, vs, _, h2, _, h3, h4⟩ := s.ownH h
  exact ⟨by rw [h2]; simp, h3, h4⟩
theorem Sim.muH (s : Sim c e d ρ S σ H) {a : Addr} (h : a ∈ d.mu) : H a ≠ none ∧ ¬ d.F a := by
  obtain ⟨l, hl, ha⟩ := List.getElem_of_mem h
  have hl' : l < S.length := by rw [← s.mlen]; exact hl
  obtain ⟨b, vs, h1, h2, _, h4⟩ := s.cell l S[l] (List.getElem?_eq_getElem hl')
  rw [List.getElem?_eq_getElem hl, ha] at h1; cases h1
  exact ⟨by rw [h2]; simp, h4⟩
theorem Sim.mono0 (s : Sim c e d ρ S σ H) (t : Sim c (NV.rb e d H ρ σ) d' ρ' S' σ' H') : Le d H d' H' := t.le0
theorem Sim.rb (s : Sim c e d ρ S σ H) : Sim c (NV.rb e d H ρ σ) d ρ S σ H where
  le0 := .refl
  dom := s.dom
  fr := fun _ _ h _ _ => h
  new := fun _ h => .inl h
  mun := fun _ h => .inl h
  dm := fun _ h => h
  mlen := s.mlen
  nodup := s.nodup
  cell := s.cell
  len := s.len
  slot := s.slot
  own := fun i a h => .inl ⟨i, h⟩
  inj := s.inj
  par := s.par
theorem Sim.gone (s : Sim c e d ρ S σ H) {a : Addr} (h : H a = none) : e.H a = none := by
  cases q : e.H a with
  | none => rfl
  | some o => exact absurd h (s.dm a (by rw [q]; simp))
theorem Sim.comp (s : Sim c e d ρ S σ H) (t : Sim c (NV.rb e d H ρ σ) d' ρ' S' σ' H') : Sim c e d' ρ' S' σ' H' where
  le0 := s.le0.trans t.le0
  dom := t.dom
  fr := fun a o h hb hm => by
    have h1 := s.fr a o h hb hm
    refine t.fr a o h1 (fun hw => ?_) (fun hm' => ?_)
    · obtain ⟨i, hi⟩ := hw
      rcases s.own i a hi with z | z
      · exact hb z
      · rw [z] at h; cases h
    · rcases s.mun a hm' with z | z
      · exact hm z
      · rw [z] at h; cases h
  new := fun a h => by
    rcases t.new a h with z | z | z
    · exact s.new a z
    · exact .inr (.inl (s.gone z))
    · obtain ⟨i, hi⟩ := z
      rcases s.own i a hi with z | z
      · exact .inr (.inr z)
      · exact .inr (.inl z)
  mun := fun a h => by
    rcases t.mun a h with z | z
    · exact s.mun a z
    · exact .inr (s.gone z)
  dm := fun a h => t.dm a (s.dm a h)
  mlen := t.mlen
  nodup := t.nodup
  cell := t.cell
  len := t.len
  slot := t.slot
  own := fun i a h => by
    rcases t.own i a h with z | z
    · obtain ⟨j, hj⟩ := z
      exact s.own j a hj
    · exact .inr (s.gone z)
  inj := t.inj
  par := t.par

/-- an expression's value -/
def RvR (c : Cn) (e : Ent) (d : Wd) (ρ : Env) (σ : L2.St) (H : Hp) : RV → V → Prop
  | .val w, v => Rep c d H w v
  | .fresh l, v => ∃ a vs, v = .ref a ∧ H a = some (.lst vs) ∧ RepL c d H l vs ∧ ¬ d.F a ∧ a ∉ d.mu ∧ e.H a = none ∧ ¬ owns ρ σ a
def AvR (c : Cn) (d : Wd) (σ : L2.St) (H : Hp) : AV → V → Prop
  | .val w, v => Rep c d H w v
  | .pk i, v => σ[i]? = some (some v)
def AvsR (c : Cn) (d : Wd) (σ : L2.St) (H : Hp) : List AV → List V → Prop
  | [], vs => vs = []
  | x :: r, vs => ∃ v t, vs = v :: t ∧ AvR c d σ H x v ∧ AvsR c d σ H r t
theorem AvR.mono (l : Le d H d' H') : ∀ {x : AV} {v : V}, AvR c d σ H x v → AvR c d' σ H' x v
  | .val _, _, h => Rep.mono l h
  | .pk _, _, h => h
theorem AvsR.mono (l : Le d H d' H') : ∀ {xs : List AV} {vs : List V}, AvsR c d σ H xs vs → AvsR c d' σ H' xs vs
  | [], _, h => h
  | _ :: _, _, ⟨v, t, e, h1, h2⟩ => ⟨v, t, e, h1.mono l, AvsR.mono l h2⟩
/-- a fresh value stays what it is while something else is reckoned -/
theorem RvR.keep (s : Sim c e d ρ S σ H) (t : Sim c (NV.rb e d H ρ σ) d' ρ' S' σ' H') {r : RV} {v : V} (h : RvR c e d ρ σ H r v) : RvR c e d' ρ' σ' H' r v := by
  cases r with
  | val w => exact Rep.mono t.le0 h
  | fresh l =>
    obtain ⟨a, vs, ev, h1, h2, h3, h4, h5, h6⟩ := h
    have hm : H a ≠ none := by rw [h1]; simp
    refine ⟨a, vs, ev, t.fr a _ h1 h6 h4, RepL.mono t.le0 h2, fun z => ?_, fun z => ?_, h5, fun z => ?_⟩
    · rcases t.new a z with q | q | q
      · exact h3 q
      · exact hm q
      · exact h6 q
    · rcases t.mun a z with q | q
      · exact h4 q
      · exact hm q
    · obtain ⟨i, hi⟩ := z
      rcases t.own i a hi with q | q
      · exact h6 q
      · exact hm q
/-- more is settled -/
def Wd.more (d : Wd) (N : Addr → Prop) : Wd := ⟨fun a => d.F a ∨ N a, d.mu⟩
theorem Le.more {N : Addr → Prop} : Le d H (d.more N) H := ⟨fun _ h => ⟨.inl h, rfl⟩, List.prefix_refl _⟩
theorem SvR.mono (l : Le d H d' H') (hm : d'.mu = d.mu) : ∀ {s : SV} {v : V}, SvR c d H s v → (∀ a vs, v = .ref a → H a = some (.lst vs) → ¬ d.F a → H' a = some (.lst vs) ∧ ¬ d'.F a) → SvR c d' H' s v
  | .val _, _, h, _ => Rep.mono l h
  | .own _, _, ⟨a, vs, e, h1, h2, h3, h4⟩, k => ⟨a, vs, e, (k a vs e h1 h3).1, RepL.mono l h2, (k a vs e h1 h3).2, by rw [hm]; exact h4⟩
/-- more is settled (N), the environment told otherwise: no further own lists -/
theorem Sim.ren (s : Sim c e d ρ S σ H) {N : Addr → Prop} (h1 : ∀ a, N a → H a ≠ none) (h2 : ∀ a, N a → e.H a = none ∨ e.B a) (h3 : ∀ a, N a → ¬ owns ρ' σ a) (h4 : ∀ a, N a → a ∉ d.mu)
    (hl : ρ'.length = ρ.length) (ho : ∀ j a, ownAt ρ' σ j a → ownAt ρ σ j a)
    (hs : ∀ (j : Nat) (s' : SV), ρ'[j]? = some (some s') → ρ[j]? = some (some s') ∨ ∃ v, σ[j]? = some (some v) ∧ SvR c (d.more N) H s' v)
    (hp : ∀ p ∈ e.P, ∃ l : List W, ρ'[p.1]? = some (some (.own (true, l)))) : Sim c e (d.more N) ρ' S σ H where
  le0 := s.le0.trans .more
  dom := fun a h => Or.elim h (s.dom a) (h1 a)
  fr := s.fr
  new := fun a h => Or.elim h (s.new a) fun z => .inr (h2 a z)
  mun := s.mun
  dm := s.dm
  mlen := s.mlen
  nodup := s.nodup
  cell := fun l ws q => by
    obtain ⟨a, vs, q1, q2, q3, q4⟩ := s.cell l ws q
    exact ⟨a, vs, q1, q2, RepL.mono .more q3, fun z => Or.elim z q4 fun z => h4 a z (List.mem_of_getElem? q1)⟩
  len := hl.trans s.len
  slot := fun i sv q => by
    rcases hs i sv q with q' | h
    · obtain ⟨v, q1, q2⟩ := s.slot i sv q'
      refine ⟨v, q1, ?_⟩
      cases sv with
      | val w => exact Rep.mono .more q2
      | own l =>
        obtain ⟨a, vs, e1, r1, r2, r3, r4⟩ := q2
        exact ⟨a, vs, e1, r1, RepL.mono .more r2, fun z => Or.elim z r3 fun z => h3 a z ⟨i, ⟨l, q⟩, by rw [q1, e1]⟩, r4⟩
    · exact h
  own := fun i a h => s.own i a (ho i a h)
  inj := fun i j a h h' => s.inj i j a (ho i a h) (ho j a h')
  par := fun p hp' => ⟨(s.par p hp').1, hp p hp'⟩
theorem Sim.settle (s : Sim c e d ρ S σ H) {N : Addr → Prop} (h1 : ∀ a, N a → H a ≠ none) (h2 : ∀ a, N a → e.H a = none ∨ e.B a) (h3 : ∀ a, N a → ¬ owns ρ σ a) (h4 : ∀ a, N a → a ∉ d.mu) : Sim c e (d.more N) ρ S σ H :=
  s.ren h1 h2 h3 h4 rfl (fun _ _ h => h) (fun _ _ h => .inl h) fun p hp => (s.par p hp).2
/-- L3 -/
theorem Sim.frz (s : Sim c e d ρ S σ H) {r : RV} {v : V} (h : RvR c e d ρ σ H r v) : ∃ d', Sim c e d' ρ S σ H ∧ Le d H d' H ∧ Rep c d' H r.frz v := by
  cases r with
  | val w => exact ⟨d, s, .refl, h⟩
  | fresh l =>
    obtain ⟨a, vs, ev, h1, h2, h3, h4, h5, h6⟩ := h
    refine ⟨d.more (· = a), s.settle (fun b z => by subst z; rw [h1]; simp) (fun b z => by subst z; exact .inl h5) (fun b z => by subst z; exact h6) (fun b z => by subst z; exact h4), .more, ?_⟩
    simp only [RV.frz, Rep]
    exact ⟨a, vs, ev, .inr rfl, h1, RepL.mono .more h2⟩

/-! ### a heap that has grown -/
structure Grow (d : Wd) (H : Hp) (N : Addr → Prop) (H' : Hp) : Prop where
  same : Same H H'
  new : ∀ a, N a → H a = none ∧ H' a ≠ none
theorem Grow.le (g : Grow d H N H') (hd : ∀ a, d.F a → H a ≠ none) : Le d H (d.more N) H' where
  f := fun a h => ⟨.inl h, by
    cases q : H a with
    | none => exact absurd q (hd a h)
    | some o => exact g.same a o q⟩
  mu := List.prefix_refl _
theorem Sim.grow (s : Sim c e d ρ S σ H) {N : Addr → Prop} (g : Grow d H N H') : Sim c e (d.more N) ρ S σ H' where
  le0 := s.le0.trans (g.le s.dom)
  dom := fun a h => Or.elim h (fun z => by
    cases q : H a with
    | none => exact absurd q (s.dom a z)
    | some o => rw [g.same a o q]; simp) fun z => (g.new a z).2
  fr := fun a o h hb hm => g.same a o (s.fr a o h hb hm)
  new := fun a h => Or.elim h (s.new a) fun z => .inr (.inl (s.gone (g.new a z).1))
  mun := s.mun
  dm := fun a h => by
    have := s.dm a h
    cases q : H a with
    | none => exact absurd q this
    | some o => rw [g.same a o q]; simp
  mlen := s.mlen
  nodup := s.nodup
  cell := fun l ws q => by
    obtain ⟨a, vs, q1, q2, q3, q4⟩ := s.cell l ws q
    exact ⟨a, vs, q1, g.same a _ q2, RepL.mono (g.le s.dom) q3, fun z => Or.elim z q4 fun z => by rw [(g.new a z).1] at q2; cases q2⟩
  len := s.len
  slot := fun i sv q => by
    obtain ⟨v, q1, q2⟩ := s.slot i sv q
    refine ⟨v, q1, ?_⟩
    cases sv with
    | val w => exact Rep.mono (g.le s.dom) q2
    | own l =>
      obtain ⟨a, vs, e1, r1, r2, r3, r4⟩ := q2
      exact ⟨a, vs, e1, g.same a _ r1, RepL.mono (g.le s.dom) r2, fun z => Or.elim z r3 (fun z => by rw [(g.new a z).1] at r1; cases r1), r4⟩
  own := s.own
  inj := s.inj
  par := s.par
/-- what a primitive leaves -/
def PrimPost (c : Cn) (d : Wd) (H : Hp) (r : RV) (v : V) (H' : Hp) : Prop := ∃ N, Grow d H N H' ∧ match r with
  | .val w => Rep c (d.more N) H' w v
  | .fresh l => ∃ a vs, v = .ref a ∧ H' a = some (.lst vs) ∧ H a = none ∧ ¬ N a ∧ RepL c (d.more N) H' l vs
/-- L6 -/
theorem Sim.prim (s : Sim c e d ρ S σ H) {r : RV} {v : V} (h : PrimPost c d H r v H') : ∃ d', Sim c e d' ρ S σ H' ∧ RvR c e d' ρ σ H' r v := by
  obtain ⟨N, g, h⟩ := h
  refine ⟨d.more N, s.grow g, ?_⟩
  cases r with
  | val w => exact h
  | fresh l =>
    obtain ⟨a, vs, e1, h1, h2, h3, h4⟩ := h
    exact ⟨a, vs, e1, h1, h4, fun z => Or.elim z (fun z => s.dom a z h2) h3, fun z => (s.muH z).1 h2, s.gone h2, fun z => (s.ownsH z).1 h2⟩
theorem PrimPost.same {w : W} {v : V} (h : Rep c d H w v) : PrimPost c d H (.val w) v H := ⟨fun _ => False, ⟨fun _ _ h => h, fun _ z => False.elim z⟩, Rep.mono .more h⟩
theorem Grow.one {p : Addr} {o : HO} (hp : H p = none) : Grow d H (· = p) (upd H p o) := ⟨fun a u q => by rw [upd_ne (ne_of_none q hp)]; exact q, fun a z => by subst z; exact ⟨hp, by rw [upd_same]; simp⟩⟩
theorem Grow.none {p : Addr} {o : HO} (hp : H p = none) : Grow d H (fun _ => False) (upd H p o) := ⟨fun a u q => by rw [upd_ne (ne_of_none q hp)]; exact q, fun a z => False.elim z⟩
theorem PrimPost.freshL {l : List W} {vs : List V} {p : Addr} (hd : ∀ a, d.F a → H a ≠ none) (hp : H p = none) (h : RepL c d H l vs) : PrimPost c d H (.fresh l) (.ref p) (upd H p (.lst vs)) :=
  ⟨fun _ => False, .none hp, p, vs, rfl, upd_same, hp, id, RepL.mono ((Grow.none hp).le hd) h⟩
theorem PrimPost.newT {l : List W} {vs : List V} {p : Addr} (hd : ∀ a, d.F a → H a ≠ none) (hp : H p = none) (h : RepL c d H l vs) : PrimPost c d H (.val (.tup l)) (.ref p) (upd H p (.tup vs)) :=
  ⟨(· = p), .one hp, by
    simp only [Rep]
    exact ⟨p, vs, rfl, .inl ⟨.inr rfl, upd_same⟩, RepL.mono ((Grow.one hp).le hd) h⟩⟩

/-! ### slots -/
theorem sget_iff {ρ : Env} {i : Nat} {s : SV} : sget ρ i = some s ↔ ρ[i]? = some (some s) := by
  unfold sget
  cases q : ρ[i]? with
  | none => simp
  | some o => cases o <;> simp
theorem CRep.of {w : W} {v : V} (h : Rep c d H w v) : CRep c d H w v := by
  cases w with
  | lst l =>
    simp only [Rep] at h
    obtain ⟨a, vs, e, _, h1, h2⟩ := h
    exact ⟨a, vs, e, h1, h2⟩
  | _ => exact h
theorem Sim.pk (s : Sim c e d ρ S σ H) {i : Nat} {v : V} {w : W} (hv : σ[i]? = some (some v)) (h : pkEnv ρ i = some w) : CRep c d H w v := by
  unfold pkEnv at h
  split at h
  · rename_i w' q
    cases h
    obtain ⟨v', q1, q2⟩ := s.slot i _ (sget_iff.mp q)
    rw [hv] at q1; cases q1
    exact .of q2
  · rename_i l q
    cases h
    obtain ⟨v', q1, q2⟩ := s.slot i _ (sget_iff.mp q)
    rw [hv] at q1; cases q1
    obtain ⟨a, vs, e1, r1, r2, _⟩ := q2
    exact ⟨a, vs, e1, r1, r2⟩
  · cases h
theorem Sim.res (s : Sim c e d ρ S σ H) {v : V} {w : W} (h : CRep c d H w v) : CRep c d H (NV.res S w) v := by
  unfold NV.res
  split
  · rename_i n
    split
    · rename_i l q
      have h : ∃ a, d.mu[n]? = some a ∧ v = .ref a := by
        have h : Rep c d H (.ref n) v := h
        simp only [Rep] at h
        first | exact h | (obtain ⟨a, h1, h2⟩ := h; exact ⟨a, h2, h1⟩)
      obtain ⟨a, h1, h2⟩ := h
      obtain ⟨b, vs, q1, q2, q3, _⟩ := s.cell n l q
      rw [h1] at q1; cases q1
      exact ⟨a, vs, h2, q2, q3⟩
    · exact h
  · exact h
theorem Sim.av (s : Sim c e d ρ S σ H) {x : AV} {v : V} {w : W} (hx : AvR c d σ H x v) (h : x.get ρ S = some w) : CRep c d H w v := by
  cases x with
  | val w' => cases h; exact s.res (.of hx)
  | pk i =>
    simp only [AV.get] at h
    cases q : pkEnv ρ i with
    | none => rw [q] at h; cases h
    | some w' => rw [q] at h; cases h; exact s.res (s.pk hx q)
/-- contents of several -/
def CRepL (c : Cn) (d : Wd) (H : Hp) : List W → List V → Prop
  | [], vs => vs = []
  | w :: ws, vs => ∃ v t, vs = v :: t ∧ CRep c d H w v ∧ CRepL c d H ws t
theorem Sim.avs (s : Sim c e d ρ S σ H) : ∀ {xs : List AV} {vs : List V} {ws : List W}, AvsR c d σ H xs vs → NV.avs ρ S xs = some ws → CRepL c d H ws vs
  | [], _, _, h, q => by cases q; exact h
  | x :: r, _, _, ⟨v, t, e1, h1, h2⟩, q => by
    simp only [NV.avs] at q
    split at q
    · rename_i w ws q1 q2
      cases q
      exact ⟨v, t, e1, s.av h1 q1, Sim.avs s h2 q2⟩
    · cases q
/-- L7: a slot read, its list settled -/
theorem Sim.rd (s : Sim c e d ρ S σ H) {i : Nat} {w : W} (h : rdEnv ρ i = some (w, ρ')) : ∃ v d', σ[i]? = some (some v) ∧ Sim c e d' ρ' S σ H ∧ Rep c d' H w v := by
  unfold rdEnv at h
  split at h
  · rename_i w' q
    cases h
    obtain ⟨v, q1, q2⟩ := s.slot i _ (sget_iff.mp q)
    exact ⟨v, d, q1, s, q2⟩
  · rename_i l q
    split at h; · cases h
    rename_i hl
    cases h
    have q := sget_iff.mp q
    obtain ⟨v, q1, a, vs, e1, r1, r2, r3, r4⟩ := s.slot i _ q
    have ho : ownAt ρ σ i a := ⟨⟨l, q⟩, by rw [q1, e1]⟩
    have hi : i < ρ.length := (List.getElem?_eq_some_iff.mp q).1
    have back : ∀ j b, ownAt (ρ.set i (some (.val (.lst l.2)))) σ j b → j ≠ i ∧ ownAt ρ σ j b := fun j b ⟨⟨k, z⟩, z2⟩ => by
      by_cases hj : j = i
      · subst hj; rw [List.getElem?_set_self hi] at z; cases z
      · rw [List.getElem?_set_ne (Ne.symm hj)] at z; exact ⟨hj, ⟨k, z⟩, z2⟩
    have notown : ¬ owns (ρ.set i (some (.val (.lst l.2)))) σ a := fun ⟨j, hj⟩ => by
      obtain ⟨n, hj'⟩ := back j a hj
      exact n (s.inj j i a hj' ho)
    refine ⟨v, d.more (· = a), q1, s.ren (fun b z => by subst z; rw [r1]; simp) (fun b z => by subst z; exact (s.own i _ ho).symm) (fun b z => by subst z; exact notown) (fun b z => by subst z; exact r4) (List.length_set ..)
      (fun j b h => (back j b h).2) (fun j s' z => ?_) (fun p hp => ?_), ?_⟩
    · by_cases hj : j = i
      · subst hj
        rw [List.getElem?_set_self hi] at z
        cases z
        refine .inr ⟨v, q1, ?_⟩
        show Rep c (d.more (· = a)) H (.lst l.2) v
        simp only [Rep]
        exact ⟨a, vs, e1, .inr rfl, r1, RepL.mono .more r2⟩
      · rw [List.getElem?_set_ne (Ne.symm hj)] at z; exact .inl z
    · obtain ⟨p1, p2⟩ := s.par p hp
      by_cases hj : p.1 = i
      · obtain ⟨l', p2⟩ := p2
        rw [hj, q] at p2
        cases p2
        exact absurd rfl hl
      · rw [List.getElem?_set_ne (Ne.symm hj)]
        exact p2
    · simp only [Rep]
      exact ⟨a, vs, e1, .inr rfl, r1, RepL.mono .more r2⟩
  · cases h
end
end NV
set_option Elab.async false
set_option linter.all false
set_option maxRecDepth 100000
set_option maxHeartbeats 1000000
/-! # The primitives keep what they say -/
namespace NV
open PySem PySem.Spec PyProof.Rows L2
def rNo : R2 := fun _ _ _ _ => False
theorem OpR.no {X : Cx} {f : Value → Value → Sem Value} : OpR X f rNo := fun _ _ _ _ _ _ _ _ _ _ _ _ h => h.elim

def rB (K : PySem.W.Frag) : Operator → R2
  | .Add => fun x y H Q => rI0 (fun i j => .int (i + j)) x y H Q ∨ (∃ i j, x = .str i ∧ y = .str j ∧ i.length + j.length ≤ sizeLine ∧ Q (.str (i ++ j)) H) ∨ rCat x y H Q ∨ rCatT K x y H Q
  | .Sub => rI0 fun i j => .int (i - j)
  | .Mult => fun x y H Q => rI CMulW (fun i j => .int (i * j)) x y H Q ∨ rRep x y H Q
  | .FloorDiv => rI CDivW fun i j => .int (i / j)
  | .Mod => rI (fun _ j => 0 < j) fun i j => .int (i % j)
  | .Pow => rI (fun i j => 0 ≤ j ∧ (Builtin.Int.intBits i : Int) * j ≤ 2 ^ 27) fun i j => .int (i ^ j.toNat)
  | _ => rNo
section
variable {X : Cx}
theorem op_powW : OpR X (binaryOp .Pow) (rI (fun i j => 0 ≤ j ∧ (Builtin.Int.intBits i : Int) * j ≤ 2 ^ 27) fun i j => .int (i ^ j.toNat)) := opI fun _ _ _ _ _ _ _ hc q => pow_int hc.1 hc.2 q
theorem opr_bin (o : Operator) : OpR X (binaryOp o) (rB X.K o) := by
  cases o with
  | Add => exact op_add.or (op_add_str.or (op_cat.or op_catT))
  | Sub => exact op_sub
  | Mult => exact op_mulW.or op_rep
  | FloorDiv => exact op_fdivW
  | Mod => exact op_mod
  | Pow => exact op_powW
  | _ => exact OpR.no
end
section
variable {c : Cn} {d : Wd} {H : Hp}
theorem CRep.int {i : Int} {x : V} (h : CRep c d H (.int i) x) : x = .int i := by simpa only [CRep, Rep] using h
theorem CRep.bl {i : Bool} {x : V} (h : CRep c d H (.bl i) x) : x = .bl i := by simpa only [CRep, Rep] using h
theorem CRep.str {i : Str} {x : V} (h : CRep c d H (.str i) x) : x = .str i := by simpa only [CRep, Rep] using h
theorem CRep.non {x : V} (h : CRep c d H .non x) : x = .non := by simpa only [CRep, Rep] using h
theorem CRep.lst {l : List W} {x : V} (h : CRep c d H (.lst l) x) : ∃ a vs, x = .ref a ∧ H a = some (.lst vs) ∧ RepL c d H l vs := h
theorem CRep.tup {l : List W} {x : V} (h : CRep c d H (.tup l) x) : ∃ a vs, x = .ref a ∧ SqT c.K H a vs ∧ RepL c d H l vs := by
  simp only [CRep, Rep] at h
  obtain ⟨a, vs, e, h1, h2⟩ := h
  refine ⟨a, vs, e, ?_, h2⟩
  rcases h1 with ⟨_, h1⟩ | h1
  · exact .of h1
  · exact h1.sq H
theorem CRep.flst {l : List W} {x : V} (h : CRep c d H (.flst l) x) : ∃ a vs, x = .ref a ∧ SqL c.K H a vs ∧ RepL c d H l vs := by
  simp only [CRep, Rep] at h
  obtain ⟨a, vs, e, h1, h2⟩ := h
  refine ⟨a, vs, e, ?_, h2⟩
  rcases h1 with ⟨_, o, h1⟩ | h1
  · exact .inl (.inr ⟨o, h1⟩)
  · exact h1.sq H
theorem CRep.dp {w : W} {v : V} {x : PyData} (h : CRep c d H w v) (e : w.toD = some x) : Dp c.K H v x := by
  cases w with
  | lst ws =>
    obtain ⟨a, vs, rfl, h1, h2⟩ := h.lst
    simp only [W.toD] at e
    cases q : W.toDs ws with
    | none => rw [q] at e; cases e
    | some ds =>
      rw [q] at e; cases e
      exact .lst (xs := vs) (.of h1) (RepL.dp h2 q)
  | _ => exact Rep.dp h e
theorem szOk_iff {n : Nat} (h : szOk n = true) : n ≤ sizeLine := of_decide_eq_true h
theorem RepL.int_eq {i : Int} : Rep c d H (.int i) (.int i) := by simp only [Rep]
theorem Rep.intI {i : Int} : Rep c d H (.int i) (.int i) := by simp only [Rep]
theorem Rep.blI {i : Bool} : Rep c d H (.bl i) (.bl i) := by simp only [Rep]
theorem Rep.strI {i : Str} : Rep c d H (.str i) (.str i) := by simp only [Rep]
theorem Rep.nonI : Rep c d H .non .non := by simp only [Rep]
theorem RepL.flat {l : List W} {vs : List V} (h : RepL c d H l vs) : ∀ k : Nat, RepL c d H (List.replicate k l).flatten (List.replicate k vs).flatten
  | 0 => .nil
  | k + 1 => by
    rw [List.replicate_succ, List.flatten_cons, List.replicate_succ, List.flatten_cons]
    exact h.append (RepL.flat h k)
theorem bin_ok {o : Operator} {u w : W} {x y : V} {r : RV} {Q : VK} (hd : ∀ a, d.F a → H a ≠ none) (hx : CRep c d H u x) (hy : CRep c d H w y) (hp : pBin o u w = some r) (h : ∀ v H', PrimPost c d H r v H' → Q v H') :
    rB c.K o x y H Q := by
  unfold pBin at hp
  split at hp
  · cases hp
    exact .inl ⟨_, _, hx.int, hy.int, h _ _ (.same .intI)⟩
  · split at hp
    · rename_i hz
      cases hp
      exact .inr (.inl ⟨_, _, hx.str, hy.str, szOk_iff hz, h _ _ (.same .strI)⟩)
    · cases hp
  · split at hp
    · rename_i hz
      cases hp
      obtain ⟨a, vs, rfl, h1, h2⟩ := hx.lst
      obtain ⟨b, ws, rfl, h3, h4⟩ := hy.lst
      exact .inr (.inr (.inl ⟨a, b, vs, ws, rfl, rfl, h1, h3, by rw [h2.length, h4.length]; exact szOk_iff hz, fun p hp => h _ _ (.freshL hd hp (h2.append h4))⟩))
    · cases hp
  · split at hp
    · rename_i l m hz
      cases hp
      rw [Bool.and_eq_true] at hz
      obtain ⟨a, vs, rfl, h1, h2⟩ := hx.tup
      obtain ⟨b, ws, rfl, h3, h4⟩ := hy.tup
      refine .inr (.inr (.inr ⟨a, b, vs, ws, rfl, rfl, h1, h3, fun z => ?_, by rw [h2.length, h4.length]; exact szOk_iff hz.2, fun z => ?_, fun z p hp => h _ _ (.newT hd hp (h2.append h4))⟩))
      · have := h2.length
        rw [z] at this
        have e : l = [] := List.length_eq_zero_iff.mp this.symm
        rw [e] at hz; simp at hz
      · have := h4.length
        rw [z] at this
        have e : m = [] := List.length_eq_zero_iff.mp this.symm
        rw [e, List.append_nil] at h
        exact h _ _ (.same hx)
    · cases hp
  · cases hp
    exact ⟨_, _, hx.int, hy.int, h _ _ (.same .intI)⟩
  · split at hp
    · rename_i hz
      cases hp
      simp only [decide_eq_true_eq] at hz
      exact .inl ⟨_, _, hx.int, hy.int, hz, h _ _ (.same .intI)⟩
    · cases hp
  · split at hp
    · rename_i hz
      cases hp
      simp only [Bool.and_eq_true, decide_eq_true_eq] at hz
      obtain ⟨a, vs, rfl, h1, h2⟩ := hx.lst
      exact .inr ⟨a, _, vs, rfl, hy.int, h1, hz.1.1, hz.1.2, by rw [h2.length]; exact szOk_iff hz.2, fun p hp => h _ _ (.freshL hd hp (h2.flat _))⟩
    · cases hp
  · split at hp
    · rename_i hz
      cases hp
      simp only [Bool.and_eq_true, decide_eq_true_eq] at hz
      exact ⟨_, _, hx.int, hy.int, hz, h _ _ (.same .intI)⟩
    · cases hp
  · split at hp
    · rename_i hz
      cases hp
      exact ⟨_, _, hx.int, hy.int, of_decide_eq_true hz, h _ _ (.same .intI)⟩
    · cases hp
  · split at hp
    · rename_i hz
      cases hp
      simp only [Bool.and_eq_true, decide_eq_true_eq] at hz
      exact ⟨_, _, hx.int, hy.int, hz, h _ _ (.same .intI)⟩
    · cases hp
  · cases hp
end

/-! ### comparisons -/
def rEqP (K : PySem.W.Frag) (neg : Bool) : R2 := fun x y H Q => ∃ d e, Dp K H x d ∧ Dp K H y e ∧ (dOk d || dOk e) = true ∧ d.plain = true ∧ e.plain = true ∧ Q (.bl (if neg then !PyData.eqv d e else PyData.eqv d e)) H
def rInP (K : PySem.W.Frag) (neg : Bool) : R2 := fun x y H Q => ∃ d ds, Dp K H x d ∧ (Dp K H y (.list ds) ∨ Dp K H y (.tuple ds)) ∧ dOk d = true ∧ d.plain = true ∧ PyData.plainAll ds = true ∧
  Q (.bl (if neg then !ds.any fun z => PyData.eqv z d else ds.any fun z => PyData.eqv z d)) H
mutual
theorem plain_toD : ∀ (w : W) (x : PyData), w.toD = some x → x.plain = true
  | .non, _, e => by simp only [W.toD] at e; cases e; rfl
  | .bl _, _, e => by simp only [W.toD] at e; cases e; rfl
  | .int _, _, e => by simp only [W.toD] at e; cases e; rfl
  | .str _, _, e => by simp only [W.toD] at e; cases e; rfl
  | .tup ws, _, e => by
    simp only [W.toD] at e
    cases q : W.toDs ws with
    | none => rw [q] at e; cases e
    | some ds => rw [q] at e; cases e; simp only [PyData.plain]; exact plain_toDs ws ds q
  | .lst ws, _, e => by
    simp only [W.toD] at e
    cases q : W.toDs ws with
    | none => rw [q] at e; cases e
    | some ds => rw [q] at e; cases e; simp only [PyData.plain]; exact plain_toDs ws ds q
  | .flst ws, _, e => by
    simp only [W.toD] at e
    cases q : W.toDs ws with
    | none => rw [q] at e; cases e
    | some ds => rw [q] at e; cases e; simp only [PyData.plain]; exact plain_toDs ws ds q
  | .dct _ _, _, e => by simp only [W.toD] at e; cases e
  | .fn _, _, e => by simp only [W.toD] at e; cases e
  | .ref _, _, e => by simp only [W.toD] at e; cases e
  | .exc _ _, _, e => by simp only [W.toD] at e; cases e
theorem plain_toDs : ∀ (ws : List W) (xs : List PyData), W.toDs ws = some xs → PyData.plainAll xs = true
  | [], _, e => by simp only [W.toDs] at e; cases e; rfl
  | w :: ws, _, e => by
    simp only [W.toDs] at e
    cases q : W.toD w with
    | none => rw [q] at e; cases e
    | some y =>
      cases q2 : W.toDs ws with
      | none => rw [q, q2] at e; cases e
      | some ys =>
        rw [q, q2] at e; cases e
        simp only [PyData.plainAll, plain_toD w y q, plain_toDs ws ys q2, Bool.and_self]
end
section
variable {X : Cx}
theorem min_ok {d e : PyData} {u : Nat} (h : (dOk d || dOk e) = true) (hu : u + 100 < cLine) : u + min d.depth e.depth < cLine := by
  unfold dOk at h
  simp only [Bool.or_eq_true, decide_eq_true_eq] at h
  omega
theorem op_eqP (hu : X.A.units + 100 < cLine) : OpR X (compareOp .Eq) (rEqP X.K false) := by
  intro pins s σ H x y v u Q I rx ry h
  obtain ⟨d, e, hd, he, hk, pd, pe, q⟩ := h
  obtain ⟨as, r1⟩ := Dp.reads I d x v hd rx
  obtain ⟨bs, r2⟩ := Dp.reads I e y u he ry
  exact SeqAt.eq_plain r1 r2 pd pe (min_ok hk hu) ⟨.bl _, H, I, rfl, q⟩
theorem op_neP (hu : X.A.units + 100 < cLine) : OpR X (compareOp .NotEq) (rEqP X.K true) := by
  intro pins s σ H x y v u Q I rx ry h
  obtain ⟨d, e, hd, he, hk, pd, pe, q⟩ := h
  obtain ⟨as, r1⟩ := Dp.reads I d x v hd rx
  obtain ⟨bs, r2⟩ := Dp.reads I e y u he ry
  exact SeqAt.ne_plain r1 r2 pd pe (min_ok hk hu) ⟨.bl _, H, I, rfl, q⟩
theorem op_inP (hu : X.A.units + 100 < cLine) : OpR X (compareOp .In) (rInP X.K false) := by
  intro pins s σ H x y v u Q I rx ry h
  obtain ⟨d, ds, hd, he, hk, pd, pe, q⟩ := h
  obtain ⟨as, r1⟩ := Dp.reads I d x v hd rx
  have hk' := of_decide_eq_true hk
  rcases he with he | he
  · obtain ⟨bs, r2⟩ := Dp.reads I _ y u he ry
    exact SeqAt.in_list_data r2 r1 pe pd (by omega) ⟨.bl _, H, I, rfl, q⟩
  · obtain ⟨bs, r2⟩ := Dp.reads I _ y u he ry
    exact SeqAt.in_tuple_data r2 r1 pe pd (by omega) ⟨.bl _, H, I, rfl, q⟩
theorem op_ninP (hu : X.A.units + 100 < cLine) : OpR X (compareOp .NotIn) (rInP X.K true) := by
  intro pins s σ H x y v u Q I rx ry h
  obtain ⟨d, ds, hd, he, hk, pd, pe, q⟩ := h
  obtain ⟨as, r1⟩ := Dp.reads I d x v hd rx
  have hk' := of_decide_eq_true hk
  rcases he with he | he
  · obtain ⟨bs, r2⟩ := Dp.reads I _ y u he ry
    exact SeqAt.notIn_list_data r2 r1 pe pd (by omega) ⟨.bl _, H, I, rfl, q⟩
  · obtain ⟨bs, r2⟩ := Dp.reads I _ y u he ry
    exact SeqAt.notIn_tuple_data r2 r1 pe pd (by omega) ⟨.bl _, H, I, rfl, q⟩
theorem op_isB : OpR X (compareOp .Is) (fun x y H Q => ∃ b, y = .bl b ∧ Q (.bl (decide (x = .bl b))) H) := by
  intro pins s σ H x y v u Q I rx ry h
  obtain ⟨b, rfl, q⟩ := h
  cases ry
  cases x with
  | non => cases rx; exact wpAny_pure ⟨.bl false, H, I, rfl, q⟩
  | bl a =>
    cases rx
    refine is_bool ⟨.bl (a == b), H, I, rfl, ?_⟩
    have e : decide (V.bl a = V.bl b) = (a == b) := dec_bl
    rw [← e]; exact q
  | int i => obtain ⟨t, rfl⟩ := rx; exact wpAny_pure ⟨.bl false, H, I, rfl, q⟩
  | str i => obtain ⟨t, rfl⟩ := rx; exact wpAny_pure ⟨.bl false, H, I, rfl, q⟩
  | byt i => obtain ⟨t, rfl⟩ := rx; exact wpAny_pure ⟨.bl false, H, I, rfl, q⟩
  | flt i => obtain ⟨t, rfl⟩ := rx; exact wpAny_pure ⟨.bl false, H, I, rfl, q⟩
  | ref a => cases rx; exact wpAny_pure ⟨.bl false, H, I, rfl, q⟩
  | ty n => cases rx; exact wpAny_pure ⟨.bl false, H, I, rfl, q⟩
end
def rC (K : PySem.W.Frag) : CmpOp → R2
  | .Eq => rEqP K false
  | .NotEq => rEqP K true
  | .Lt => rI0 fun i j => .bl (decide (i < j))
  | .LtE => rI0 fun i j => .bl (decide (i ≤ j))
  | .Gt => rI0 fun i j => .bl (decide (j < i))
  | .GtE => rI0 fun i j => .bl (decide (j ≤ i))
  | .Is => fun x y H Q => (y = .non ∧ Q (.bl (decide (x = .non))) H) ∨ (∃ b, y = .bl b ∧ Q (.bl (decide (x = .bl b))) H)
  | .IsNot => fun x y H Q => y = .non ∧ Q (.bl (!decide (x = .non))) H
  | .In => fun x y H Q => rInP K false x y H Q ∨ ∃ (c : Nat) (z : Str), x = .str ⟨#[c]⟩ ∧ y = .str z ∧ Q (.bl (decide (c ∈ z.cps.toList))) H
  | .NotIn => fun x y H Q => rInP K true x y H Q ∨ ∃ (c : Nat) (z : Str), x = .str ⟨#[c]⟩ ∧ y = .str z ∧ Q (.bl (!decide (c ∈ z.cps.toList))) H
theorem opr_cmp {X : Cx} (hu : X.A.units + 100 < cLine) (o : CmpOp) : OpR X (compareOp o) (rC X.K o) := by
  cases o with
  | Eq => exact op_eqP hu
  | NotEq => exact op_neP hu
  | Lt => exact op_lt
  | LtE => exact op_le
  | Gt => exact op_gt
  | GtE => exact op_ge
  | Is => exact op_isN.or op_isB
  | IsNot => exact op_notN
  | In => exact (op_inP hu).or op_in_sign
  | NotIn => exact (op_ninP hu).or op_notIn_sign
section
variable {c : Cn} {d : Wd} {H : Hp}
theorem isNon_iff {u : W} {x : V} (hx : CRep c d H u x) (hf : ∀ k w, u ≠ .exc k w) : decide (x = .non) = u.isNon := by
  cases u with
  | non => rw [hx.non]; rfl
  | bl b => rw [hx.bl]; rfl
  | int b => rw [hx.int]; rfl
  | str b => rw [hx.str]; rfl
  | tup l => obtain ⟨a, vs, e, _⟩ := hx.tup; rw [e]; rfl
  | lst l => obtain ⟨a, vs, e, _⟩ := hx.lst; rw [e]; rfl
  | flst l => obtain ⟨a, vs, e, _⟩ := hx.flst; rw [e]; rfl
  | dct k l =>
    have h : Rep c d H (.dct k l) x := hx
    simp only [Rep] at h
    obtain ⟨a, _, e, _⟩ := h; rw [e]; rfl
  | fn n =>
    have h : Rep c d H (.fn n) x := hx
    simp only [Rep] at h
    obtain ⟨a, _, e⟩ := h; rw [e]; rfl
  | ref n =>
    have h : Rep c d H (.ref n) x := hx
    simp only [Rep] at h
    obtain ⟨a, _, e⟩ := h; rw [e]; rfl
  | exc k w => exact absurd rfl (hf k w)
theorem isBl_iff {u : W} {x : V} {b : Bool} (hx : CRep c d H u x) : decide (x = .bl b) = u.isBl b := by
  cases u with
  | non => rw [hx.non]; rfl
  | bl a => rw [hx.bl]; exact dec_bl
  | int b => rw [hx.int]; rfl
  | str b => rw [hx.str]; rfl
  | tup l => obtain ⟨a, vs, e, _⟩ := hx.tup; rw [e]; rfl
  | lst l => obtain ⟨a, vs, e, _⟩ := hx.lst; rw [e]; rfl
  | flst l => obtain ⟨a, vs, e, _⟩ := hx.flst; rw [e]; rfl
  | dct k l =>
    have h : Rep c d H (.dct k l) x := hx
    simp only [Rep] at h
    obtain ⟨a, _, e, _⟩ := h; rw [e]; rfl
  | fn n =>
    have h : Rep c d H (.fn n) x := hx
    simp only [Rep] at h
    obtain ⟨a, _, e⟩ := h; rw [e]; rfl
  | ref n =>
    have h : Rep c d H (.ref n) x := hx
    simp only [Rep] at h
    obtain ⟨a, _, e⟩ := h; rw [e]; rfl
  | exc k w =>
    have h : Rep c d H (.exc k w) x := hx
    simp only [Rep] at h
theorem exc_no {k : Nat} {w : W} {x : V} (h : CRep c d H (.exc k w) x) : False := by
  have h : Rep c d H (.exc k w) x := h
  simp only [Rep] at h
theorem eq_ok {u w : W} {x y : V} {r : Bool} {neg : Bool} {Q : VK} (hx : CRep c d H u x) (hy : CRep c d H w y) (hp : wEq u w = some r) (h : Q (.bl (if neg then !r else r)) H) : rEqP c.K neg x y H Q := by
  unfold wEq at hp
  split at hp
  · rename_i a b ha hb
    split at hp
    · rename_i hz
      cases hp
      exact ⟨a, b, hx.dp ha, hy.dp hb, hz, plain_toD _ _ ha, plain_toD _ _ hb, h⟩
    · cases hp
  · cases hp
theorem one_sign {s : Str} {k : Nat} (h : s.cps.toList = [k]) : s = ⟨#[k]⟩ := by
  obtain ⟨⟨l⟩⟩ := s
  have h : l = [k] := h
  rw [h]
theorem inL_ok {l : List W} {u : W} {x y : V} {r : Bool} {neg : Bool} {Q : VK} (hx : CRep c d H u x) (hy : ∀ xs, W.toDs l = some xs → Dp c.K H y (.list xs) ∨ Dp c.K H y (.tuple xs)) (hp : wInL l u = some r) (h : Q (.bl (if neg then !r else r)) H) : rInP c.K neg x y H Q := by
  unfold wInL at hp
  split at hp
  · rename_i a b ha hb
    split at hp
    · rename_i hz
      cases hp
      exact ⟨b, a, hx.dp hb, hy a ha, hz, plain_toD _ _ hb, plain_toDs _ _ ha, h⟩
    · cases hp
  · cases hp
theorem in_ok {u w : W} {x y : V} {r : Bool} {neg : Bool} {Q : VK} (hx : CRep c d H u x) (hy : CRep c d H w y) (hp : wIn u w = some r) (h : Q (.bl (if neg then !r else r)) H) :
    rInP c.K neg x y H Q ∨ ∃ (c : Nat) (z : Str), x = .str ⟨#[c]⟩ ∧ y = .str z ∧ Q (.bl (if neg then !decide (c ∈ z.cps.toList) else decide (c ∈ z.cps.toList))) H := by
  unfold wIn at hp
  split at hp
  · split at hp
    · split at hp
      · rename_i hs
        cases hp
        refine .inr ⟨_, _, ?_, hy.str, h⟩
        rw [hx.str, one_sign hs]
      · cases hp
    · cases hp
  · refine .inl (inL_ok hx (fun xs e => .inl ?_) hp h)
    exact hy.dp (by simp only [W.toD, e]; rfl)
  · refine .inl (inL_ok hx (fun xs e => .inl ?_) hp h)
    exact hy.dp (by simp only [W.toD, e]; rfl)
  · refine .inl (inL_ok hx (fun xs e => .inr ?_) hp h)
    exact hy.dp (by simp only [W.toD, e]; rfl)
  · cases hp
theorem cmp_ok {o : CmpOp} {u w : W} {x y : V} {r : Bool} {Q : VK} (hx : CRep c d H u x) (hy : CRep c d H w y) (hp : pCmp o u w = some r) (h : Q (.bl r) H) : rC c.K o x y H Q := by
  unfold pCmp at hp
  split at hp
  · exact eq_ok (neg := false) hx hy hp h
  · cases q : wEq u w with
    | none => rw [q] at hp; cases hp
    | some b => rw [q] at hp; cases hp; exact eq_ok (neg := true) hx hy q h
  · cases hp; exact ⟨_, _, hx.int, hy.int, h⟩
  · cases hp; exact ⟨_, _, hx.int, hy.int, h⟩
  · cases hp; exact ⟨_, _, hx.int, hy.int, h⟩
  · cases hp; exact ⟨_, _, hx.int, hy.int, h⟩
  · cases hp
    refine .inl ⟨hy.non, ?_⟩
    rw [isNon_iff hx (fun k w e => by subst e; exact exc_no hx)]
    exact h
  · cases hp
    refine ⟨hy.non, ?_⟩
    rw [isNon_iff hx (fun k w e => by subst e; exact exc_no hx)]
    exact h
  · cases hp
    refine .inr ⟨_, hy.bl, ?_⟩
    rw [isBl_iff hx]
    exact h
  · exact in_ok (neg := false) hx hy hp h
  · cases q : wIn u w with
    | none => rw [q] at hp; cases hp
    | some b => rw [q] at hp; cases hp; exact in_ok (neg := true) hx hy q h
  · cases hp
end

/-! ### subscripts, slices -/
theorem atI_rep {c : Cn} {d : Wd} {H : Hp} {l : List W} {vs : List V} {i : Int} {w : W} (h : RepL c d H l vs) (e : atI l i = some w) : ∃ v, atI vs i = some v ∧ Rep c d H w v := by
  unfold atI at e ⊢
  rw [h.length]
  cases q : ixN l.length i with
  | none => rw [q] at e; cases e
  | some j =>
    rw [q] at e
    exact h.get e
def rIxK : R2 := fun x y H Q => ∃ a kvs k v, x = .ref a ∧ H a = some (.dK kvs) ∧ y = kV k ∧ valV kvs k = some v ∧ Q v H
theorem ix_dct {X : Cx} (hu : X.A.units + 100 < cLine) : IxR X rIxK := by
  intro value slice pins s σ H x y v u Q I rx ry h hs
  obtain ⟨a, kvs, k, w, rfl, ha, rfl, hv, q⟩ := h
  cases rx
  have g : DGet H a (kV k) (some w) := .inl ⟨kvs, k, .inl ha, rfl, hv.symm⟩
  have hT := dict_typeIs I g
  unfold subscriptTail
  refine wpAny_bind ?_
  rw [getitemInPython_of_ne hT.not_modules]
  refine wpAny_bind (wpAny_specialOf hT PySem.F.slot_dict_getitem.lookup ?_)
  have fin : wpAny (model X.prog X.w) X.A (subscripted slice false (.ref a) u) (fun r s₃ => wpAny (model X.prog X.w) X.A (letTemporaryGo value (.ref a) r >>= fun _ => pure r) (EP X pins σ Q) X.xe s₃) X.xe s := by
    rw [hs]
    exact wpAny_operating (wpAny_mono (d_getItem (Q := EP X pins σ Q) (by omega) I g ry fun w' s3 I3 rw' => ⟨w, H, I3, rw', q⟩) (fun r s₃ h₃ => wpAny_bind (wpAny_letTemporaryGo (wpAny_pure h₃))) fun _ _ x => x)
  first
    | exact wpAny_pure (wpAny_bind fin)
    | exact wpAny_bind (wpAny_pure (wpAny_bind fin))
    | exact wpAny_bind fin
def rI' (K : PySem.W.Frag) : R2 := fun x y H Q => rIxL K x y H Q ∨ rIxT K x y H Q ∨ rIxS x y H Q ∨ rIxK x y H Q
theorem ixr_all {X : Cx} (hu : X.A.units + 100 < cLine) : IxR X (rI' X.K) := ix_list.or (ix_tup.or (ix_str.or (ix_dct hu)))
section
variable {c : Cn} {d : Wd} {H : Hp}
theorem dctFind_ok : ∀ {kvs : List (Key × V)} {ks vs : List W} {z : Str} {w : W}, RepL c d H ks (kvs.map fun p => kV p.1) → RepL c d H vs (kvs.map (·.2)) → dctFind ks vs z = some w →
    ∃ v, valV kvs (.inr z) = some v ∧ Rep c d H w v
  | [], ks, vs, z, w, h1, h2, e => by
    cases ks with
    | nil => simp [dctFind] at e
    | cons k ks => obtain ⟨x, r, q, _⟩ := h1.uncons; cases q
  | p :: r, ks, vs, z, w, h1, h2, e => by
    cases ks with
    | nil => have := h1.length; simp at this
    | cons k ks =>
      cases vs with
      | nil => have := h2.length; simp at this
      | cons u vs =>
        obtain ⟨x, t, q, a1, a2⟩ := h1.uncons
        obtain ⟨x', t', q', b1, b2⟩ := h2.uncons
        cases q; cases q'
        cases k with
        | str k' =>
          unfold dctFind at e
          have hk : kV p.1 = .str k' := by simpa only [Rep] using a1
          have hp : p.1 = .inr k' := by
            cases hp : p.1 with
            | inl i => rw [hp] at hk; cases hk
            | inr s => rw [hp] at hk; cases hk; rfl
          split at e
          · rename_i ez
            cases e
            exact ⟨p.2, valV_pos (by rw [hp, ez]), b1⟩
          · rename_i ez
            obtain ⟨v, e1, e2⟩ := dctFind_ok a2 b2 e
            exact ⟨v, (valV_neg (by rw [hp]; intro z; exact ez (Sum.inr.inj z))).trans e1, e2⟩
        | int k' =>
          unfold dctFind at e
          have hk : kV p.1 = .int k' := by simpa only [Rep] using a1
          have hp : p.1 = .inl k' := by
            cases hp : p.1 with
            | inl i => rw [hp] at hk; cases hk; rfl
            | inr s => rw [hp] at hk; cases hk
          obtain ⟨v, e1, e2⟩ := dctFind_ok a2 b2 e
          exact ⟨v, (valV_neg (by rw [hp]; intro z; cases z)).trans e1, e2⟩
        | _ => simp [dctFind] at e
theorem ix_ok {u w r : W} {x y : V} {Q : VK} (hx : CRep c d H u x) (hy : CRep c d H w y) (hp : pIx u w = some r) (h : ∀ v, Rep c d H r v → Q v H) : rI' c.K x y H Q := by
  unfold pIx at hp
  split at hp
  · obtain ⟨a, vs, rfl, h1, h2⟩ := hx.lst
    obtain ⟨v, e, q⟩ := atI_rep h2 hp
    exact .inl ⟨a, vs, _, v, rfl, hy.int, .of h1, e, h v q⟩
  · obtain ⟨a, vs, rfl, h1, h2⟩ := hx.flst
    obtain ⟨v, e, q⟩ := atI_rep h2 hp
    exact .inl ⟨a, vs, _, v, rfl, hy.int, h1, e, h v q⟩
  · obtain ⟨a, vs, rfl, h1, h2⟩ := hx.tup
    obtain ⟨v, e, q⟩ := atI_rep h2 hp
    exact .inr (.inl ⟨a, vs, _, v, rfl, hy.int, h1, e, h v q⟩)
  · rename_i z i
    split at hp
    · rename_i hz
      cases q : atI z.cps.toList i with
      | none => rw [q] at hp; cases hp
      | some k =>
        rw [q] at hp; cases hp
        exact .inr (.inr (.inl ⟨z, i, k, hx.str, hy.int, szOk_iff hz, q, h _ .strI⟩))
    · cases hp
  · have h' : Rep c d H (.dct _ _) x := hx
    simp only [Rep] at h'
    obtain ⟨a, kvs, rfl, _, h1, h2, h3⟩ := h'
    obtain ⟨v, e, q⟩ := dctFind_ok h2 h3 hp
    exact .inr (.inr (.inr ⟨a, kvs, .inr _, v, rfl, h1, hy.str, e, h v q⟩))
  · cases hp
theorem RepL.cut {l : List W} {vs : List V} {lo hi : Option Int} (h : RepL c d H l vs) : RepL c d H (cutW l lo hi) (cutV vs lo hi) := by
  unfold cutW cutV
  rw [h.length]
  exact (h.drop _).take _
def rS' (K : PySem.W.Frag) : V → Option Int → Option Int → Hp → VK → Prop := fun x lo hi H Q => (rSlL K x lo hi H Q ∨ rSlT K x lo hi H Q) ∨ rSlS x lo hi H Q
theorem slr_all {X : Cx} : SlR X (rS' X.K) := (sl_list.or sl_tup).or sl_str
theorem sl_ok {u : W} {x : V} {lo hi : Option Int} {r : RV} {Q : VK} (hd : ∀ a, d.F a → H a ≠ none) (hx : CRep c d H u x) (hp : pSl u lo hi = some r) (h : ∀ v H', PrimPost c d H r v H' → Q v H') : rS' c.K x lo hi H Q := by
  unfold pSl at hp
  split at hp
  · cases hp
    obtain ⟨a, vs, rfl, h1, h2⟩ := hx.lst
    exact .inl (.inl ⟨a, vs, rfl, .of h1, fun p hp => h _ _ (.freshL hd hp h2.cut)⟩)
  · cases hp
    obtain ⟨a, vs, rfl, h1, h2⟩ := hx.flst
    exact .inl (.inl ⟨a, vs, rfl, h1, fun p hp => h _ _ (.freshL hd hp h2.cut)⟩)
  · split at hp
    · rename_i hz
      cases hp
      have hx := hx.str
      exact .inr ⟨_, hx, szOk_iff hz, h _ _ (.same (by simp only [Rep]))⟩
    · cases hp
  · split at hp
    · cases hp
    · rename_i hz
      cases hp
      obtain ⟨a, vs, rfl, h1, h2⟩ := hx.tup
      refine .inl (.inr ⟨a, vs, rfl, h1, fun z => hz ?_, fun p hp => h _ _ (.newT hd hp h2.cut)⟩)
      rw [h2.length] at z
      rw [Bool.and_eq_true, decide_eq_true_eq, decide_eq_true_eq]
      exact z
  · cases hp
end
end NV
set_option Elab.async false
set_option linter.all false
set_option maxRecDepth 100000
set_option maxHeartbeats 1000000
/-! # Built-in functions, methods, isinstance -/
namespace NV
open PySem PySem.Spec PyProof.Rows L2
def biV : Bi → Value
  | .len => .builtin "len"
  | .max2 => .builtin "max"
  | .min2 => .builtin "min"
  | .sum => .builtin "sum"
  | .repr => .builtin "repr"
  | .int => .type "int"
  | .list => .type "list"
  | .tuple => .type "tuple"
  | .dict => .type "dict"
def biN : Bi → Str
  | .len => "len"
  | .max2 => "max"
  | .min2 => "min"
  | .sum => "sum"
  | .repr => "repr"
  | .int => "int"
  | .list => "list"
  | .tuple => "tuple"
  | .dict => "dict"
theorem bi_boot (b : Bi) : bootBuiltins (biN b) = some (biV b) := by cases b <;> decide +kernel
abbrev RCl := List V → Hp → VK → Prop
def rRepr (K : PySem.W.Frag) : RCl := fun vs H Q => ∃ v d, vs = [v] ∧ Dp K H v d ∧ d.plain = true ∧ dOk d = true ∧ d.showable = true ∧ d.shown.length ≤ sizeLine ∧ Q (.str d.shown) H
def rDictP (K : PySem.W.Frag) : RCl := fun xs H Q => ∃ (a : Addr) (ps : List Addr) (kvs : List (Key × V)), xs = [.ref a] ∧ SqL K H a (ps.map V.ref) ∧ Paired (fun p kv => SqT K H p [kV kv.1, kv.2]) ps kvs ∧
    ∀ p, H p = none → Q (.ref p) (upd H p (.dK (mergeK [] kvs)))
def rRepr0 : List V → Hp → VK → Prop := fun vs H Q => ∃ a, vs = [.ref a] ∧ H a = some (.dK []) ∧ Q (.str "{}") H
def rBi (K : PySem.W.Frag) : Bi → RCl
  | .len => fun xs H Q => (∃ p ys, xs = [.ref p] ∧ (SqL K H p ys ∨ SqT K H p ys) ∧ Q (.int ys.length) H) ∨ ∃ z, xs = [.str z] ∧ z.length ≤ sizeLine ∧ Q (.int z.length) H
  | .max2 => fun xs H Q => ∃ i j, xs = [.int i, .int j] ∧ Q (.int (if j > i then j else i)) H
  | .min2 => fun xs H Q => ∃ i j, xs = [.int i, .int j] ∧ Q (.int (if j < i then j else i)) H
  | .sum => rSum K
  | .repr => fun vs H Q => rRepr K vs H Q ∨ rRepr0 vs H Q
  | .int => fun xs H Q => (∃ i, xs = [.int i] ∧ Q (.int i) H) ∨ ∃ k, xs = [.bl k] ∧ Q (.int (if k then 1 else 0)) H
  | .list => fun xs H Q => ∃ p ys, xs = [.ref p] ∧ (SqL K H p ys ∨ SqT K H p ys) ∧ ∀ l, H l = none → Q (.ref l) (upd H l (.lst ys))
  | .tuple => fun xs H Q => ∃ p ys, xs = [.ref p] ∧ ((SqL K H p ys ∧ ∀ l, H l = none → Q (.ref l) (upd H l (.tup ys))) ∨ (SqT K H p ys ∧ Q (.ref p) H))
  | .dict => rDictP K
section
variable {X : Cx}
theorem plain_hasDict : ∀ d : PyData, d.plain = true → d.hasDict = false := by
  have key : (∀ d : PyData, d.plain = true → d.hasDict = false) := by
    intro d
    exact PyData.rec (motive_1 := fun d => d.plain = true → d.hasDict = false) (motive_2 := fun l => PyData.plainAll l = true → PyData.hasDictAll l = false) (motive_3 := fun _ => True) (motive_4 := fun _ => True)
      (fun _ => rfl) (fun _ _ => rfl) (fun _ _ => rfl) (fun _ _ => rfl)
      (fun xs ih h => by simp only [PyData.hasDict]; exact ih (by simpa only [PyData.plain] using h))
      (fun xs ih h => by simp only [PyData.hasDict]; exact ih (by simpa only [PyData.plain] using h))
      (fun _ _ h => by simp only [PyData.plain] at h; cases h)
      (fun _ => rfl)
      (fun x xs i1 i2 h => by
        simp only [PyData.plainAll, Bool.and_eq_true] at h
        simp only [PyData.hasDictAll, i1 h.1, i2 h.2, Bool.or_self])
      trivial (fun _ _ _ _ => trivial) (fun _ _ _ _ => trivial) d
  exact key
theorem call_repr (hu : X.A.units + 100 < cLine) (hg : X.A.guards = some []) : CallR X (.builtin "repr") (rRepr X.K) := by
  intro pins s σ H xs us Q I r h
  obtain ⟨v, d, rfl, hd, pl, hk, hs, hz, q⟩ := h
  obtain ⟨u, rfl, ru⟩ := vals1 r
  have hk' : d.depth ≤ 64 := of_decide_eq_true hk
  cases hd with
  | non => cases ru; exact PySem.P.repr_of_none ⟨.str _, H, I.tok _, ⟨_, rfl⟩, q⟩
  | bl b => cases ru; exact PySem.P.repr_of_bool ⟨.str _, H, I.tok _, ⟨_, rfl⟩, by cases b <;> exact q⟩
  | int i =>
    obtain ⟨t, rfl⟩ := ru
    simp only [PyData.showable, decide_eq_true_eq] at hs
    exact PySem.P.repr_of_int hs ⟨.str _, H, I.tok _, ⟨_, rfl⟩, q⟩
  | str x => obtain ⟨t, rfl⟩ := ru; exact PySem.P.repr_of_str ⟨.str _, H, I.tok _, ⟨_, rfl⟩, q⟩ hz
  | lst h1 h2 =>
    obtain rfl : u = Value.ref _ := ru
    obtain ⟨as, rd⟩ := Dp.reads I _ _ _ (.lst h1 h2) rfl
    exact repr_of_reads' rd hs (fun z => by rw [plain_hasDict _ pl] at z; cases z) hg (by omega) (fun _ _ e => e) (fun h' u tk k => ⟨.str _, H, I.kept (t' := tk) k, ⟨u, rfl⟩, q⟩) hz
  | tup h1 h2 =>
    obtain rfl : u = Value.ref _ := ru
    obtain ⟨as, rd⟩ := Dp.reads I _ _ _ (.tup h1 h2) rfl
    exact repr_of_reads' rd hs (fun z => by rw [plain_hasDict _ pl] at z; cases z) hg (by omega) (fun _ _ e => e) (fun h' u tk k => ⟨.str _, H, I.kept (t' := tk) k, ⟨u, rfl⟩, q⟩) hz
theorem call_repr0 (hu : X.A.units + 100 < cLine) (hg : X.A.guards = some []) : CallR X (.builtin "repr") rRepr0 := by
  intro pins s σ H xs us Q I r h
  obtain ⟨a, rfl, ha, q⟩ := h
  obtain ⟨u, rfl, ru⟩ := vals1 r
  obtain rfl : u = Value.ref _ := ru
  obtain ⟨_, hs, vs, hv, o, es, ep, h1, h2, h3, h4⟩ := dk_of I.hok ha
  have hv : vs = [] := by cases hv; rfl
  subst hv
  have he : es.toList = [] := by
    have hp := h4.2.1
    generalize es.toList = l at hp
    cases hp
    rfl
  have rd : Reads s.heap (.ref a) (.dict []) (a :: [] ++ []) := by
    refine .dict h1 h2.1 h3 ?_ ?_
    · rw [he]; exact .nil
    · rw [he]; exact .nil
  refine repr_of_reads' rd rfl (fun _ z => ?_) hg (by have : (PyData.dict []).depth ≤ 2 := by decide
                                                      omega) (fun _ _ e => e) (fun h' u tk k => ⟨.str _, H, I.kept (t' := tk) k, ⟨u, rfl⟩, q⟩) (by decide)
  have z : sysModules = a := by simpa using z
  rw [← z] at hs
  exact absurd hs (by decide)
theorem callr_bi (hc : X.calm = true) (hu : X.A.units + 100 < cLine) (hg : X.A.guards = some []) (b : Bi) : CallR X (biV b) (rBi X.K b) := by
  cases b with
  | len => exact call_len_seq.or call_len_str
  | max2 => exact call_max2 hc
  | min2 => exact call_min2 hc
  | sum => exact cr_sum hc
  | repr => exact (call_repr hu hg).or (call_repr0 hu hg)
  | int => exact call_int1
  | list => exact call_list_of
  | tuple => exact call_tuple_of
  | dict => exact call_dictP hc
end
section
variable {c : Cn} {d : Wd} {H : Hp}
theorem CRepL.one {w : W} {vs : List V} (h : CRepL c d H [w] vs) : ∃ v, vs = [v] ∧ CRep c d H w v := by
  obtain ⟨v, t, rfl, h1, h2⟩ := h
  have h2 : t = [] := h2
  subst h2
  exact ⟨v, rfl, h1⟩
theorem CRepL.two {w u : W} {vs : List V} (h : CRepL c d H [w, u] vs) : ∃ v x, vs = [v, x] ∧ CRep c d H w v ∧ CRep c d H u x := by
  obtain ⟨v, t, rfl, h1, h2⟩ := h
  obtain ⟨x, rfl, h3⟩ := CRepL.one h2
  exact ⟨v, x, rfl, h1, h3⟩
theorem wInts_ok : ∀ {l : List W} {vs : List V} {ns : List Int}, RepL c d H l vs → wInts l = some ns → vs = ns.map V.int
  | [], _, _, h, e => by rw [h.unnil]; simp only [wInts] at e; cases e; rfl
  | .int i :: r, _, _, h, e => by
    obtain ⟨x, t, rfl, h1, h2⟩ := h.uncons
    simp only [wInts] at e
    cases q : wInts r with
    | none => rw [q] at e; cases e
    | some ns =>
      rw [q] at e; cases e
      have h1 : x = .int i := by simpa only [Rep] using h1
      rw [h1, wInts_ok h2 q]
      rfl
  | .non :: _, _, _, _, e => by simp [wInts] at e
  | .bl _ :: _, _, _, _, e => by simp [wInts] at e
  | .str _ :: _, _, _, _, e => by simp [wInts] at e
  | .tup _ :: _, _, _, _, e => by simp [wInts] at e
  | .lst _ :: _, _, _, _, e => by simp [wInts] at e
  | .flst _ :: _, _, _, _, e => by simp [wInts] at e
  | .dct _ _ :: _, _, _, _, e => by simp [wInts] at e
  | .fn _ :: _, _, _, _, e => by simp [wInts] at e
  | .ref _ :: _, _, _, _, e => by simp [wInts] at e
  | .exc _ _ :: _, _, _, _, e => by simp [wInts] at e
theorem wStrs_ok : ∀ {l : List W} {vs : List V} {ns : List Str}, RepL c d H l vs → wStrs l = some ns → vs = ns.map V.str
  | [], _, _, h, e => by rw [h.unnil]; simp only [wStrs] at e; cases e; rfl
  | .str i :: r, _, _, h, e => by
    obtain ⟨x, t, rfl, h1, h2⟩ := h.uncons
    simp only [wStrs] at e
    cases q : wStrs r with
    | none => rw [q] at e; cases e
    | some ns =>
      rw [q] at e; cases e
      have h1 : x = .str i := by simpa only [Rep] using h1
      rw [h1, wStrs_ok h2 q]
      rfl
  | .non :: _, _, _, _, e => by simp [wStrs] at e
  | .bl _ :: _, _, _, _, e => by simp [wStrs] at e
  | .int _ :: _, _, _, _, e => by simp [wStrs] at e
  | .tup _ :: _, _, _, _, e => by simp [wStrs] at e
  | .lst _ :: _, _, _, _, e => by simp [wStrs] at e
  | .flst _ :: _, _, _, _, e => by simp [wStrs] at e
  | .dct _ _ :: _, _, _, _, e => by simp [wStrs] at e
  | .fn _ :: _, _, _, _, e => by simp [wStrs] at e
  | .ref _ :: _, _, _, _, e => by simp [wStrs] at e
  | .exc _ _ :: _, _, _, _, e => by simp [wStrs] at e
theorem putK_new {κ : Type} [DecidableEq κ] {kvs : List (κ × V)} {k : κ} {v : V} (h : k ∉ kvs.map (·.1)) : putK kvs k v = kvs ++ [(k, v)] := by
  unfold putK
  rw [if_neg]
  intro z
  rw [List.any_eq_true] at z
  obtain ⟨p, hp, e⟩ := z
  exact h (List.mem_map.mpr ⟨p, hp, of_decide_eq_true e⟩)
theorem merge_new : ∀ {more kvs : List (Key × V)}, (kvs.map (·.1) ++ more.map (·.1)).Nodup → mergeK kvs more = kvs ++ more
  | [], kvs, _ => by simp [mergeK]
  | p :: r, kvs, h => by
    show mergeK (putK kvs p.1 p.2) r = _
    have hn : p.1 ∉ kvs.map (·.1) := fun z => by
      have := (List.nodup_append.mp h).2.2
      exact this _ z _ (by simp) rfl
    rw [putK_new hn, merge_new]
    · simp
    · simpa using h
theorem dctOf_ok : ∀ {l : List W} {vs : List V} {ks : List Str} {ws : List W}, RepL c d H l vs → dctOf l = some (ks, ws) →
    ks.Nodup ∧ ∃ (ps : List Addr) (kvs : List (Key × V)), vs = ps.map V.ref ∧ Paired (fun p kv => SqT c.K H p [kV kv.1, kv.2]) ps kvs ∧ kvs.map (·.1) = ks.map Sum.inr ∧ RepL c d H ws (kvs.map (·.2))
  | [], _, _, _, h, e => by
    simp only [dctOf] at e; cases e
    exact ⟨.nil, [], [], h.unnil, .nil, rfl, .nil⟩
  | .tup [.str k, v] :: r, _, _, _, h, e => by
    obtain ⟨x, t, rfl, h1, h2⟩ := h.uncons
    simp only [dctOf] at e
    cases q : dctOf r with
    | none => rw [q] at e; cases e
    | some p =>
      obtain ⟨ks, ws⟩ := p
      rw [q] at e
      simp only at e
      split at e
      · cases e
      · rename_i hk
        cases e
        obtain ⟨i0, ps, kvs, rfl, i1, i2, i3⟩ := dctOf_ok h2 q
        obtain ⟨a, us, rfl, s1, s2⟩ := CRep.tup (.of h1)
        obtain ⟨u1, t1, rfl, a1, a2⟩ := s2.uncons
        obtain ⟨u2, t2, rfl, b1, b2⟩ := a2.uncons
        have a1 : u1 = .str k := by simpa only [Rep] using a1
        rw [a1, b2.unnil] at s1
        exact ⟨List.nodup_cons.mpr ⟨hk, i0⟩, a :: ps, (.inr k, u2) :: kvs, rfl, .cons s1 i1, by simp [i2], .cons b1 i3⟩
  | .tup [] :: r, _, _, _, _, e => by simp [dctOf] at e
  | .tup [_] :: r, _, _, _, _, e => by simp [dctOf] at e
  | .tup (.non :: _ :: _) :: r, _, _, _, _, e => by simp [dctOf] at e
  | .tup (.bl _ :: _ :: _) :: r, _, _, _, _, e => by simp [dctOf] at e
  | .tup (.int _ :: _ :: _) :: r, _, _, _, _, e => by simp [dctOf] at e
  | .tup (.tup _ :: _ :: _) :: r, _, _, _, _, e => by simp [dctOf] at e
  | .tup (.lst _ :: _ :: _) :: r, _, _, _, _, e => by simp [dctOf] at e
  | .tup (.flst _ :: _ :: _) :: r, _, _, _, _, e => by simp [dctOf] at e
  | .tup (.dct _ _ :: _ :: _) :: r, _, _, _, _, e => by simp [dctOf] at e
  | .tup (.fn _ :: _ :: _) :: r, _, _, _, _, e => by simp [dctOf] at e
  | .tup (.ref _ :: _ :: _) :: r, _, _, _, _, e => by simp [dctOf] at e
  | .tup (.exc _ _ :: _ :: _) :: r, _, _, _, _, e => by simp [dctOf] at e
  | .tup (.str _ :: _ :: _ :: _) :: r, _, _, _, _, e => by simp [dctOf] at e
  | .non :: _, _, _, _, _, e => by simp [dctOf] at e
  | .bl _ :: _, _, _, _, _, e => by simp [dctOf] at e
  | .int _ :: _, _, _, _, _, e => by simp [dctOf] at e
  | .str _ :: _, _, _, _, _, e => by simp [dctOf] at e
  | .lst _ :: _, _, _, _, _, e => by simp [dctOf] at e
  | .flst _ :: _, _, _, _, _, e => by simp [dctOf] at e
  | .dct _ _ :: _, _, _, _, _, e => by simp [dctOf] at e
  | .fn _ :: _, _, _, _, _, e => by simp [dctOf] at e
  | .ref _ :: _, _, _, _, _, e => by simp [dctOf] at e
  | .exc _ _ :: _, _, _, _, _, e => by simp [dctOf] at e
theorem RepL.strs : ∀ ks : List Str, RepL c d H (ks.map W.str) (ks.map V.str)
  | [] => .nil
  | _ :: r => .cons .strI (RepL.strs r)
theorem nodup_inr {ks : List Str} (h : ks.Nodup) : (ks.map (Sum.inr : Str → Key)).Nodup := by
  rw [List.nodup_iff_pairwise_ne, List.pairwise_map]
  exact h.imp fun h z => h (Sum.inr.inj z)
theorem bi_ok {b : Bi} {ws : List W} {vs : List V} {r : RV} {Q : VK} (hd : ∀ a, d.F a → H a ≠ none) (hx : CRepL c d H ws vs) (hp : pBi b ws = some r) (h : ∀ v H', PrimPost c d H r v H' → Q v H') : rBi c.K b vs H Q := by
  unfold pBi at hp
  split at hp
  · cases hp
    obtain ⟨v, rfl, hv⟩ := hx.one
    obtain ⟨a, us, rfl, h1, h2⟩ := hv.lst
    exact .inl ⟨a, us, rfl, .inl (.of h1), h _ _ (.same (by rw [h2.length]; exact .intI))⟩
  · cases hp
    obtain ⟨v, rfl, hv⟩ := hx.one
    obtain ⟨a, us, rfl, h1, h2⟩ := hv.flst
    exact .inl ⟨a, us, rfl, .inl h1, h _ _ (.same (by rw [h2.length]; exact .intI))⟩
  · cases hp
    obtain ⟨v, rfl, hv⟩ := hx.one
    obtain ⟨a, us, rfl, h1, h2⟩ := hv.tup
    exact .inl ⟨a, us, rfl, .inr h1, h _ _ (.same (by rw [h2.length]; exact .intI))⟩
  · split at hp
    · rename_i hz
      cases hp
      obtain ⟨v, rfl, hv⟩ := hx.one
      exact .inr ⟨_, by rw [hv.str], szOk_iff hz, h _ _ (.same .intI)⟩
    · cases hp
  · cases hp
    obtain ⟨v, u, rfl, h1, h2⟩ := hx.two
    exact ⟨_, _, by rw [h1.int, h2.int], h _ _ (.same .intI)⟩
  · cases hp
    obtain ⟨v, u, rfl, h1, h2⟩ := hx.two
    exact ⟨_, _, by rw [h1.int, h2.int], h _ _ (.same .intI)⟩
  · rename_i l
    cases q : wInts l with
    | none => rw [q] at hp; cases hp
    | some ns =>
      rw [q] at hp; cases hp
      obtain ⟨v, rfl, hv⟩ := hx.one
      obtain ⟨a, us, rfl, h1, h2⟩ := hv.lst
      exact ⟨a, ns, rfl, by rw [← wInts_ok h2 q]; exact .of h1, h _ _ (.same .intI)⟩
  · rename_i l
    cases q : wInts l with
    | none => rw [q] at hp; cases hp
    | some ns =>
      rw [q] at hp; cases hp
      obtain ⟨v, rfl, hv⟩ := hx.one
      obtain ⟨a, us, rfl, h1, h2⟩ := hv.flst
      exact ⟨a, ns, rfl, by rw [← wInts_ok h2 q]; exact h1, h _ _ (.same .intI)⟩
  · cases hp
    obtain ⟨v, rfl, hv⟩ := hx.one
    have hv : Rep c d H (.dct [] []) v := hv
    simp only [Rep] at hv
    obtain ⟨a, kvs, rfl, _, h1, h2, _⟩ := hv
    have : kvs = [] := by
      have h2 : kvs.map (fun p => kV p.1) = [] := h2
      simpa using h2
    subst this
    exact .inr ⟨a, rfl, h1, h _ _ (.same .strI)⟩
  · rename_i a _
    unfold reprW at hp
    split at hp
    · rename_i x hx'
      split at hp
      · rename_i hz
        cases hp
        simp only [Bool.and_eq_true] at hz
        obtain ⟨v, rfl, hv⟩ := hx.one
        exact .inl ⟨v, x, rfl, hv.dp hx', plain_toD _ _ hx', hz.1, hz.2.1, szOk_iff hz.2.2, h _ _ (.same .strI)⟩
      · cases hp
    · cases hp
  · cases hp
    obtain ⟨v, rfl, hv⟩ := hx.one
    exact .inl ⟨_, by rw [hv.int], h _ _ (.same .intI)⟩
  · cases hp
    obtain ⟨v, rfl, hv⟩ := hx.one
    exact .inr ⟨_, by rw [hv.bl], h _ _ (.same .intI)⟩
  · cases hp
    obtain ⟨v, rfl, hv⟩ := hx.one
    obtain ⟨a, us, rfl, h1, h2⟩ := hv.lst
    exact ⟨a, us, rfl, .inl (.of h1), fun p hp => h _ _ (.freshL hd hp h2)⟩
  · cases hp
    obtain ⟨v, rfl, hv⟩ := hx.one
    obtain ⟨a, us, rfl, h1, h2⟩ := hv.flst
    exact ⟨a, us, rfl, .inl h1, fun p hp => h _ _ (.freshL hd hp h2)⟩
  · cases hp
    obtain ⟨v, rfl, hv⟩ := hx.one
    obtain ⟨a, us, rfl, h1, h2⟩ := hv.tup
    exact ⟨a, us, rfl, .inr h1, fun p hp => h _ _ (.freshL hd hp h2)⟩
  · cases hp
    obtain ⟨v, rfl, hv⟩ := hx.one
    obtain ⟨a, us, rfl, h1, h2⟩ := hv.lst
    exact ⟨a, us, rfl, .inl ⟨.of h1, fun p hp => h _ _ (.newT hd hp h2)⟩⟩
  · cases hp
    obtain ⟨v, rfl, hv⟩ := hx.one
    obtain ⟨a, us, rfl, h1, h2⟩ := hv.flst
    exact ⟨a, us, rfl, .inl ⟨h1, fun p hp => h _ _ (.newT hd hp h2)⟩⟩
  · cases hp
    obtain ⟨v, rfl, hv⟩ := hx.one
    obtain ⟨a, us, e, h1, h2⟩ := hv.tup
    exact ⟨a, us, by rw [e], .inr ⟨h1, by rw [← e]; exact h _ _ (.same hv)⟩⟩
  · rename_i l
    cases q : dctOf l with
    | none => rw [q] at hp; cases hp
    | some p =>
      obtain ⟨ks, ws⟩ := p
      rw [q] at hp; cases hp
      obtain ⟨v, rfl, hv⟩ := hx.one
      obtain ⟨a, us, rfl, h1, h2⟩ := hv.lst
      obtain ⟨nd, ps, kvs, rfl, i1, i2, i3⟩ := dctOf_ok h2 q
      refine ⟨a, ps, kvs, rfl, .of h1, i1, fun p hp => h _ _ ⟨(· = p), .one hp, ?_⟩⟩
      have em : mergeK [] kvs = kvs := by
        rw [merge_new]; · rfl
        · rw [i2]; simpa using nodup_inr nd
      rw [em]
      simp only [Rep]
      have g : Le d H (d.more (· = p)) (upd H p (.dK kvs)) := (Grow.one hp).le hd
      refine ⟨p, kvs, rfl, .inr rfl, upd_same, ?_, i3.mono g⟩
      have e : kvs.map (fun p => kV p.1) = ks.map V.str := by
        have := congrArg (List.map kV) i2
        rw [List.map_map, List.map_map] at this
        exact this
      rw [e]
      exact .strs ks
  · cases hp
end
end NV
set_option Elab.async false
set_option linter.all false
set_option maxRecDepth 100000
set_option maxHeartbeats 1000000
/-! # The judgement: an expression of the text does what the little expression says -/
namespace NV
open PySem PySem.Spec PyProof.Rows L2

/-- what stands around an expression: names by slot, scope, functions, free built-in names, constants of the module -/
structure Ck where
  N : List Str
  sc : Scope
  fns : List Str
  free : List Str
  gcs : List (Str × W)
  gds : List (Str × List W × List W)
  pars : List (List Str)
  top : Bool

/-- an exception: its class's number, its value -/
abbrev EX := Nat → W → Wd → L2.St → Hp → Prop
section
variable {α β : Type}
def TPost (c : Cn) (ex : EX) (R : Ent → Wd → Env → L2.St → Hp → α → β → Prop) (e : Ent) (σ : L2.St) (o : Out α) (Q : β → Hp → Prop) : Prop := match o with
  | .ok a ρ' S' => ∀ b d' H', Sim c e d' ρ' S' σ H' → R e d' ρ' σ H' a b → Q b H'
  | .exn k w ρ' S' => ∀ d' H', Sim c e d' ρ' S' σ H' → ex k w d' σ H'
  | .stuck => False
def TP (c : Cn) (ex : EX) (R : Ent → Wd → Env → L2.St → Hp → α → β → Prop) (g : Env → Sto → Out α) : L2.St → Hp → (β → Hp → Prop) → Prop := fun σ H Q =>
  ∃ e d ρ S, Sim c e d ρ S σ H ∧ TPost c ex R e σ (g ρ S) Q
end
section
variable {α α' β β' : Type} {c : Cn} {ex : EX} {R : Ent → Wd → Env → L2.St → Hp → α → β → Prop} {R' : Ent → Wd → Env → L2.St → Hp → α' → β' → Prop} {σ : L2.St} {H : Hp} {e : Ent} {d : Wd} {ρ : Env} {S : Sto}
/-- the first step of two -/
theorem Sim.step (s : Sim c e d ρ S σ H) {o : Out α} {f : α → Env → Sto → Out α'} {Q : β → Hp → Prop} {Q' : β' → Hp → Prop} (h : TPost c ex R' e σ (o.bind f) Q')
    (k : ∀ a ρ1 S1 b d1 H1, Sim c (NV.rb e d H ρ σ) d1 ρ1 S1 σ H1 → R (NV.rb e d H ρ σ) d1 ρ1 σ H1 a b → TPost c ex R' e σ (f a ρ1 S1) Q' → Q b H1) : TPost c ex R (NV.rb e d H ρ σ) σ o Q := by
  cases o with
  | ok a ρ1 S1 => exact fun b d1 H1 s1 r1 => k a ρ1 S1 b d1 H1 s1 r1 h
  | exn n w ρ1 S1 => exact fun d1 H1 s1 => h d1 H1 (s.comp s1)
  | stuck => exact h
theorem Sim.tp (s : Sim c e d ρ S σ H) {g : Env → Sto → Out α} {f : α → Env → Sto → Out α'} {Q : β → Hp → Prop} {Q' : β' → Hp → Prop} (h : TPost c ex R' e σ ((g ρ S).bind f) Q')
    (k : ∀ a ρ1 S1 b d1 H1, Sim c (NV.rb e d H ρ σ) d1 ρ1 S1 σ H1 → R (NV.rb e d H ρ σ) d1 ρ1 σ H1 a b → TPost c ex R' e σ (f a ρ1 S1) Q' → Q b H1) : TP c ex R g σ H Q :=
  ⟨_, d, ρ, S, s.rb, s.step h k⟩
theorem TPost.imp {o : Out α} {Q Q' : β → Hp → Prop} (h : TPost c ex R e σ o Q) (k : ∀ b H, Q b H → Q' b H) : TPost c ex R e σ o Q' := by
  cases o with
  | ok a ρ1 S1 => exact fun b d1 H1 s1 r1 => k b H1 (h b d1 H1 s1 r1)
  | exn n w ρ1 S1 => exact h
  | stuck => exact h
end
/-- an expression's reading; an argument's; a test's -/
abbrev TV (c : Cn) (ex : EX) (g : Env → Sto → Out RV) : TE := TP c ex (RvR c) g
abbrev TAv (c : Cn) (ex : EX) (g : Env → Sto → Out AV) : TE := TP c ex (fun _ d _ σ H x v => AvR c d σ H x v) g
abbrev TAs (c : Cn) (ex : EX) (g : Env → Sto → Out (List AV)) : TA := TP c ex (fun _ d _ σ H x v => AvsR c d σ H x v) g
def tst (g : Env → Sto → Out RV) : Env → Sto → Out Bool := fun ρ S => (g ρ S).bind fun r ρ S => match r with
  | .val (.bl b) => .ok b ρ S
  | _ => .stuck
abbrev TBo (c : Cn) (ex : EX) (g : Env → Sto → Out Bool) : TT := TP c ex (fun _ _ _ _ _ a b => b = a) g

theorem pe_imp {X : Cx} {e : Expr} {t t' : TE} (h : PE X e t) (k : ∀ σ H Q, t' σ H Q → t σ H Q) : PE X e t' := ⟨fun pins s σ H Q I q => h.run pins s σ H Q I (k σ H Q q)⟩
theorem pt_imp {X : Cx} {e : Expr} {t t' : TT} (h : PT X e t) (k : ∀ σ H Q, t' σ H Q → t σ H Q) : PT X e t' := ⟨fun pins s σ H Q I q => h.run pins s σ H Q I (k σ H Q q)⟩
theorem pw_imp {X : Cx} {e : Expr} {t t' : TT} (h : PW X e t) (k : ∀ σ H Q, t' σ H Q → t σ H Q) : PW X e t' := ⟨fun w pins s σ H Q I q => h.run w pins s σ H Q I (k σ H Q q)⟩
theorem pa_imp {X : Cx} {e : List Expr} {t t' : TA} (h : PA X e t) (k : ∀ σ H Q, t' σ H Q → t σ H Q) : PA X e t' := ⟨fun w pins s σ H Q I q => h.run w pins s σ H Q I (k σ H Q q)⟩

/-- a call of one's own def, by values -/
def SpC (c : Cn) (ex : EX) (cf : CallF) (f : Nat) (σ : L2.St) : List V → Hp → VK → Prop := fun vs H Q =>
  ∃ e d args S, e.d = d ∧ e.H = H ∧ Sim c e d (args.map some) S (vs.map some) H ∧ (∀ i a, ownAt (args.map some) (vs.map some) i a → (i, a) ∈ e.P) ∧ (∀ a, e.B a → owns (args.map some) (vs.map some) a) ∧
    match cf f args S with
    | .ok r as S' => ∀ v d' H', Sim c e d' as S' (vs.map some) H' → RvR c e d' as (vs.map some) H' r v → Q v H'
    | .exn k w as S' => ∀ d' H', Sim c e d' as S' (vs.map some) H' → ex k w d' σ H'
    | .stuck => False

/-- what is written at a call binds as these values -/
def BindO (k : Ck) (f : Nat) (us : List Value) (kw : List (Str × Value)) (vals : List Value) : Prop := ∃ ps, k.pars[f]? = some ps ∧ ∀ fd : FuncData, Plain ps fd.params → fd.defaults = .none → bindArgs fd ⟨us, kw⟩ = pure (ps.zip vals)
/-- FnOk, where no guard stands around -/
structure FnG (P : Program) (w : World) (K : PySem.W.Frag) (mg : Str → Option Value) (base : Heap) (CX : CXT) (k : Nat) (f : Addr) (fd : FuncData) (ps : List Str) (sp : Sp) : Prop where
  len : ∀ vs H Q E, sp vs H Q E → vs.length = ps.length
  run : ∀ (A : Around) (outer : List PySem.Env) (s : Shared) (H : Hp) (args : Args) (us : List Value) (vs : List V) (Q : VK) (E : XK), Room k A → A.guards = some [] → Env0 P w K mg base A outer s H → BindsTo s fd args (ps.zip us) → Vals vs us → sp vs H Q E →
    codeAny (model P w) A (.call (.ref f) args) (CR CX outer P w H s Q E) s
/-- an exception's class and dict -/
def xr (c : Cn) (k : Nat) (w : W) (d : Wd) (H : Hp) (cls : Value) (dd : Option Addr) : Prop := ∃ (C D : Addr) (fs : List (Str × V)) (v : V), c.xa[k]? = some C ∧ cls = .ref C ∧ dd = some D ∧ H D = some (.xd fs) ∧ fs.lookup (("value" : Str)) = some v ∧ Rep c d H w v
/-- what a def does, by values -/
def spF (c : Cn) (cf : CallF) (f : Nat) : Sp := fun vs H Q E =>
  ∃ e d args S, e.d = d ∧ e.H = H ∧ Sim c e d (args.map some) S (vs.map some) H ∧ (∀ i a, ownAt (args.map some) (vs.map some) i a → (i, a) ∈ e.P) ∧ (∀ a, e.B a → owns (args.map some) (vs.map some) a) ∧
    match cf f args S with
    | .ok r as S' => ∀ v d' H', Sim c e d' as S' (vs.map some) H' → RvR c e d' as (vs.map some) H' r v → Q v H'
    | .exn k w as S' => ∀ d' H' cls dd, Sim c e d' as S' (vs.map some) H' → xr c k w d' H' cls dd → E cls dd H'
    | .stuck => False
structure CxOk (c : Cn) (k : Ck) (ex : EX) (cf : CallF) (X : Cx) : Prop where
  K : X.K = c.K
  N : X.N = k.N
  nd : X.N.Nodup
  sc : X.env.scope = k.sc
  fnt : k.top = true → ∀ x, X.fn x = true
  calm : X.calm = true
  un : X.A.units + 150 < cLine
  gd : X.A.guards = some []
  fnm : ∀ (f : Nat) (x : Str), k.fns[f]? = some x → ∃ a, c.fa[f]? = some a ∧ X.mg x = some (.ref a) ∧ PySem.W.keepIn X.K (.ref a) = true
  free : ∀ x ∈ k.free, X.mg x = none
  gcs : ∀ p ∈ k.gcs, ∃ u v, X.mg p.1 = some u ∧ RelV v u ∧ ∀ d H, Rep c d H p.2 v
  gds : ∀ p ∈ k.gds, ∃ a, X.mg p.1 = some (.ref a) ∧ ∀ (z : Str) (w : W), dctFind p.2.1 p.2.2 z = some w → ∃ v, KDct X.K X.w a z v ∧ ∀ d H, Rep c d H w v
  tk : ∃ W, Takes X W ∧ ∀ k w d σ H, ex k w d σ H → ∀ cls dd, xr c k w d H cls dd → W cls dd σ H
  fs : ∀ (f : Nat) (a : Addr), c.fa[f]? = some a → ∃ kk fd ps, k.pars[f]? = some ps ∧ Plain ps fd.params ∧ fd.defaults = .none ∧ Room kk X.A ∧ FnG X.prog X.w X.K X.mg X.base (L2.CX X.prog X.w) kk a fd ps (spF c cf f)
theorem CxOk.calls {c : Cn} {k : Ck} {ex : EX} {cf : CallF} {X : Cx} (o : CxOk c k ex cf X) (f : Nat) (a : Addr) (ha : c.fa[f]? = some a) (pins : List (Addr × Obj)) (s : Shared) (σ : L2.St) (H : Hp) (vs : List V) (us : List Value) (kw : List (Str × Value)) (vals : List Value) (Q : VK)
    (I : Inv X pins σ H s) (r : Vals vs vals) (hb : BindO k f us kw vals) (h : SpC c ex cf f σ vs H Q) : wpAny (model X.prog X.w) X.A (call (.ref a) us kw) (EP X pins σ Q) X.xe s := by
  obtain ⟨kk, fd, ps, q1, q2, q3, q4, F⟩ := o.fs f a ha
  obtain ⟨ps', p1, p2⟩ := hb
  rw [q1] at p1; cases p1
  obtain ⟨W, tk, hW⟩ := o.tk
  have h' : spF c cf f vs H Q (fun cls dd H' => W cls dd σ H') := by
    obtain ⟨e, d, args, S, h1, h2, h3, h4, h5, h6⟩ := h
    refine ⟨e, d, args, S, h1, h2, h3, h4, h5, ?_⟩
    split at h6
    · exact h6
    · exact fun d' H' cls dd t x => hW _ _ _ _ _ (h6 d' H' t) cls dd x
    · exact h6
  refine wpAny_call (codeAny_mono (F.run X.A X.stack s H ⟨us, kw⟩ vals vs Q _ q4 o.gd I.env0 (BindsTo.of_eq (p2 fd q2 q3)) r h') fun r s' hq => ?_)
  cases r with
  | error e => exact tk _ _ (XE.of_call I (fun cls d H' h => h) hq)
  | ok fl =>
    cases fl with
    | ret u => exact I.after hq
    | next => exact False.elim hq
    | brk => exact False.elim hq
    | cont => exact False.elim hq
/-- a comprehension's block -/
def Ck.blk (k : Ck) (scope : Scope) : Ck := { k with sc := relS scope k.sc, top := false }
def exF : EX := fun _ _ _ _ _ => False
theorem CxOk.blk {c : Cn} {k : Ck} {ex : EX} {cf : CallF} {X : Cx} (o : CxOk c k ex cf X) (s : Shared) (H : Hp) (scope : Scope) (C : Addr) (cl : List (Str × Addr)) (fp : List Addr) : CxOk c (k.blk scope) exF cf (X.blk s H scope (compEnvC scope cl C X.env) fp) where
  K := o.K
  N := o.N
  nd := o.nd
  sc := by show relS scope X.env.scope = relS scope k.sc; rw [o.sc]
  fnt := fun h => by cases h
  calm := o.calm
  un := o.un
  gd := o.gd
  fnm := o.fnm
  free := o.free
  gcs := o.gcs
  gds := o.gds
  tk := ⟨fun _ _ _ _ => False, fun u s' ⟨_, _, _, _, _, _, _, _, _, _, _, _, _, _, _, _, w⟩ => w.elim, fun _ _ _ _ _ h => h.elim⟩
  fs := o.fs

structure EOk (c : Cn) (ex : EX) (X : Cx) (e : Expr) (g : Env → Sto → Out RV) : Prop where
  pe : PE X e (TV c ex g)
  pt : PT X e (TBo c ex (tst g))
  pw : ∀ op vs pos, e = .BoolOp op vs pos → PW X e (TBo c ex (tst g))
theorem EOk.imp {c : Cn} {ex : EX} {X : Cx} {e : Expr} {g g' : Env → Sto → Out RV} (h : EOk c ex X e g) (hg : ∀ ρ S, g' ρ S = g ρ S) : EOk c ex X e g' := by
  have : g' = g := by funext ρ S; exact hg ρ S
  rw [this]; exact h

section
variable {c : Cn} {k : Ck} {ex : EX} {cf : CallF} {X : Cx}
/-- from a value's reading to a test's -/
theorem tb_of {g : Env → Sto → Out RV} {σ : L2.St} {H : Hp} {Q : Bool → Hp → Prop} (h : TBo c ex (tst g) σ H Q) : TV c ex g σ H (fun x H1 => ∃ b, x = .bl b ∧ Q b H1) := by
  obtain ⟨e, d, ρ, S, s, h⟩ := h
  refine s.tp h fun r ρ1 S1 v d1 H1 s1 r1 h1 => ?_
  split at h1
  · rename_i b
    have r1 : v = .bl b := by simpa only [RvR, Rep] using r1
    exact ⟨b, r1, h1 b d1 H1 (s.comp s1) rfl⟩
  · exact h1.elim
theorem EOk.of_plain {e : Expr} {g : Env → Sto → Out RV} (h : PE X e (TV c ex g)) (he : ∀ whole, isTrue e X.env whole = (do let v ← whole; standAt e.pos; holding [v] (truthy v))) (hb : ∀ op vs pos, e ≠ .BoolOp op vs pos) : EOk c ex X e g :=
  ⟨h, pt_imp (pt_val h he) fun _ _ _ => tb_of, fun op vs pos z => absurd z (hb op vs pos)⟩

/-! ### names, constants -/
theorem ev_cst {w : W} {v : V} {e : Expr} {g : Env → Sto → Out RV} (hg : ∀ ρ S, g ρ S = .ok (.val w) ρ S) (h : PE X e (tC v)) (hr : ∀ d H, Rep c d H w v) : PE X e (TV c ex g) := pe_imp h fun σ H Q ⟨e, d, ρ, S, s, h⟩ => by
  rw [hg] at h
  exact h v d H s (hr d H)
def constEq : Const → W → Bool
  | .none, .non => true
  | .bool a, .bl b => decide (a = b)
  | .int a, .int b => decide (a = b)
  | .str a, .str b => decide (a = b)
  | _, _ => false
theorem ok_cst {w : W} {k : Const} {j : Nat} {pos : Pos} (h : constEq k w = true) : EOk c ex X (.Constant k j pos) (evE cf (.cst w)) := by
  refine .of_plain ?_ (fun _ => rfl) (fun _ _ _ z => by cases z)
  have hg : ∀ ρ S, evE cf (.cst w) ρ S = .ok (.val w) ρ S := fun ρ S => by simp only [evE]
  unfold constEq at h
  split at h
  · exact ev_cst hg (v := .non) pe_non fun _ _ => .nonI
  · have h := of_decide_eq_true h; subst h
    exact ev_cst hg (v := .bl _) pe_bl fun _ _ => .blI
  · have h := of_decide_eq_true h; subst h
    exact ev_cst hg (v := .int _) pe_int fun _ _ => .intI
  · have h := of_decide_eq_true h; subst h
    exact ev_cst hg (v := .str _) pe_str fun _ _ => .strI
  · cases h
def visB (k : Ck) (i : Nat) (x : Str) : Bool := decide (k.N[i]? = some x) && ((match k.sc.names.lookup x with
  | some .local => true
  | some .cell => true
  | some .free => true
  | _ => false) && (!(x == ("__debug__" : Str)) && !(x == ("__classdict__" : Str))))
theorem vis_pe (o : CxOk c k ex cf X) {i : Nat} {x : Str} {pos : Pos} (h : visB k i x = true) : PE X (.Name x pos) (tVar i) := by
  unfold visB at h
  simp only [Bool.and_eq_true, Bool.not_eq_true'] at h
  refine pe_var (by rw [o.N]; exact of_decide_eq_true h.1) ?_ h.2.2.1 h.2.2.2
  have h2 := h.2.1
  unfold Vis
  rw [o.sc]
  split at h2
  · rename_i q; exact .inl q
  · rename_i q; exact .inr (.inl q)
  · rename_i q; exact .inr (.inr q)
  · cases h2
theorem isTrue_name {x : Str} {pos : Pos} : ∀ whole, isTrue (.Name x pos) X.env whole = (do let v ← whole; standAt (Expr.Name x pos).pos; holding [v] (truthy v)) := fun _ => rfl
theorem ok_nm (o : CxOk c k ex cf X) {i : Nat} {x : Str} {pos : Pos} (h : visB k i x = true) : EOk c ex X (.Name x pos) (evE cf (.nm i)) := by
  refine .of_plain (pe_imp (vis_pe o h) fun σ H Q ⟨e, d, ρ, S, s, h⟩ => ?_) isTrue_name (fun _ _ _ z => by cases z)
  simp only [evE] at h
  split at h
  · rename_i w ρ' q
    obtain ⟨v, d', hv, s', r⟩ := s.rd q
    exact ⟨v, hv, h v d' H s' r⟩
  · exact h.elim
def glB (k : Ck) (x : Str) : Bool := decide (k.sc.names.lookup x = some .globalImplicit) && !(x == ("__debug__" : Str))
theorem gl_of (o : CxOk c k ex cf X) {x : Str} (h : glB k x = true) : Gl X x ∧ (x == ("__debug__" : Str)) = false := by
  unfold glB at h
  simp only [Bool.and_eq_true, Bool.not_eq_true'] at h
  exact ⟨by show X.env.scope.names.lookup x = _; rw [o.sc]; exact of_decide_eq_true h.1, h.2⟩
theorem ok_gf (o : CxOk c k ex cf X) {f : Nat} {x : Str} {pos : Pos} (h : (glB k x && decide (k.fns[f]? = some x)) = true) : EOk c ex X (.Name x pos) (evE cf (.gf f)) := by
  rw [Bool.and_eq_true] at h
  obtain ⟨h1, h2⟩ := gl_of o h.1
  obtain ⟨a, h3, h4, _⟩ := o.fnm f x (of_decide_eq_true h.2)
  refine .of_plain (ev_cst (w := .fn f) (g := evE cf (.gf f)) (fun ρ S => by simp only [evE]) (v := .ref a) (pe_glob h1 h4 rfl h2) fun d H => ?_) isTrue_name (fun _ _ _ z => by cases z)
  simp only [Rep]
  exact ⟨a, h3, rfl⟩
theorem gc_pe (o : CxOk c k ex cf X) {w : W} {x : Str} {pos : Pos} (h : glB k x = true) (hm : (x, w) ∈ k.gcs) : EOk c ex X (.Name x pos) (evE cf (.gc x w)) := by
  obtain ⟨h1, h2⟩ := gl_of o h
  obtain ⟨u, v, h3, h4, h5⟩ := o.gcs _ hm
  exact .of_plain (ev_cst (w := w) (g := evE cf (.gc x w)) (fun ρ S => by simp only [evE]) (pe_glob h1 h3 h4 h2) h5) isTrue_name (fun _ _ _ z => by cases z)

/-! ### arguments -/
theorem RvR.up {e : Ent} {d d' : Wd} {ρ ρ' : Env} {S : Sto} {σ : L2.St} {H H' : Hp} {r : RV} {v : V} (s : Sim c e d ρ S σ H) (h : RvR c (NV.rb e d H ρ σ) d' ρ' σ H' r v) : RvR c e d' ρ' σ H' r v := by
  cases r with
  | val w => exact h
  | fresh l =>
    obtain ⟨a, vs, q1, q2, q3, q4, q5, q6, q7⟩ := h
    exact ⟨a, vs, q1, q2, q3, q4, q5, s.gone q6, q7⟩
/-- behind a step: the state, the value -/
theorem av_val {e : Expr} {g : Env → Sto → Out RV} (h : PE X e (TV c ex g)) : PE X e (TAv c ex fun ρ S => (g ρ S).bind fun r ρ S => .ok (.val r.frz) ρ S) := pe_imp h fun σ H Q ⟨e, d, ρ, S, s, h⟩ =>
  s.tp h fun r ρ1 S1 v d1 H1 s1 r1 h1 => by
    obtain ⟨d2, s2, _, r2⟩ := (s.comp s1).frz (r1.up s)
    exact h1 v d2 H1 s2 r2
theorem av_pk (o : CxOk c k ex cf X) {i : Nat} {x : Str} {pos : Pos} (h : visB k i x = true) : PE X (.Name x pos) (TAv c ex (evV cf (.pk i))) := pe_imp (vis_pe o h) fun σ H Q ⟨e, d, ρ, S, s, h⟩ => by
  simp only [evV, argV] at h
  split at h
  · rename_i sv q
    obtain ⟨v, q1, _⟩ := s.slot i _ (sget_iff.mp q)
    exact ⟨v, q1, h v d H s q1⟩
  · exact h.elim
def noStar : Expr → Bool
  | .Starred _ _ => false
  | _ => true
theorem star_of {e : Expr} {es : List Expr} {env : PySem.Env} (h : noStar e = true) : starEach (e :: es) env = (false, eval e env) :: starEach es env := by
  cases e <;> first | rfl | cases h
def noSlice : Expr → Bool
  | .Slice _ _ _ _ => false
  | _ => true
theorem plainIx_of {e : Expr} (h : noSlice e = true) : PlainIx e := by
  intro o i
  cases e <;> first | rfl | cases h
theorem as_nil : PA X [] (TAs c ex (evA cf .nil)) := pa_imp pa_nil fun σ H Q ⟨e, d, ρ, S, s, h⟩ => by
  simp only [evA] at h
  exact h [] d H s rfl
theorem as_cons {a b : M} {e : Expr} {es : List Expr} (ha : PE X e (TAv c ex (evV cf a))) (hb : PA X es (TAs c ex (evA cf b))) (hs : noStar e = true) : PA X (e :: es) (TAs c ex (evA cf (.cons a b))) :=
  pa_imp (pa_cons ha hb (star_of hs)) fun σ H Q ⟨e, d, ρ, S, s, h⟩ => by
    simp only [evA] at h
    refine s.tp h fun x ρ1 S1 v d1 H1 s1 r1 h1 => (s.comp s1).tp h1 fun xs ρ2 S2 vs d2 H2 s2 r2 h2 => ?_
    exact h2 _ d2 H2 ((s.comp s1).comp s2) ⟨v, vs, rfl, r1.mono s2.le0, r2⟩

/-! ### operations -/
section
variable {e : Ent} {d : Wd} {ρ : Env} {S : Sto} {σ : L2.St} {H H' : Hp} {Q : VK}
theorem Sim.fin (s : Sim c e d ρ S σ H) {r : RV} {v : V} (h : TPost c ex (RvR c) e σ (.ok r ρ S) Q) (p : PrimPost c d H r v H') : Q v H' := by
  obtain ⟨d', s', r'⟩ := s.prim p
  exact h v d' H' s' r'
theorem Sim.finV (s : Sim c e d ρ S σ H) {w : W} {v : V} (h : TPost c ex (RvR c) e σ (.ok (.val w) ρ S) Q) (p : Rep c d H w v) : Q v H := h v d H s p
end
theorem g_bin (o : CxOk c k ex cf X) {p : Operator} {a b : Expr} {ma mb : M} {pos : Pos} (ha : PE X a (TAv c ex (evV cf ma))) (hb : PE X b (TAv c ex (evV cf mb))) : EOk c ex X (.BinOp a p b pos) (evE cf (.op2 (.bin p) ma mb)) := by
  refine .of_plain (pe_imp (pe_op (opr_bin p) ha hb) fun σ H Q ⟨e, d, ρ, S, s, h⟩ => ?_) (fun _ => rfl) (fun _ _ _ z => by cases z)
  simp only [evE] at h
  refine s.tp h fun x ρ1 S1 v d1 H1 s1 r1 h1 => (s.comp s1).tp h1 fun y ρ2 S2 u d2 H2 s2 r2 h2 => ?_
  have s3 := (s.comp s1).comp s2
  split at h2
  · rename_i wx wy q1 q2
    split at h2
    · rename_i r hp
      rw [o.K]
      exact bin_ok s3.dom (s3.av (r1.mono s2.le0) q1) (s3.av r2 q2) hp fun v H' pp => s3.fin h2 pp
    · exact h2.elim
  · exact h2.elim
theorem g_cmp (o : CxOk c k ex cf X) {p : CmpOp} {a b : Expr} {ma mb : M} {pos : Pos} (ha : PE X a (TAv c ex (evV cf ma))) (hb : PE X b (TAv c ex (evV cf mb))) (hm : behindInMarks p b = false) : EOk c ex X (.Compare a [p] [b] pos) (evE cf (.op2 (.cmp p) ma mb)) := by
  have hu : X.A.units + 100 < cLine := by have := o.un; omega
  have key : ∀ σ H (Q : VK), TV c ex (evE cf (.op2 (.cmp p) ma mb)) σ H Q → tOp (rC X.K p) (TAv c ex (evV cf ma)) (TAv c ex (evV cf mb)) σ H Q := fun σ H Q ⟨e, d, ρ, S, s, h⟩ => by
    simp only [evE] at h
    refine s.tp h fun x ρ1 S1 v d1 H1 s1 r1 h1 => (s.comp s1).tp h1 fun y ρ2 S2 u d2 H2 s2 r2 h2 => ?_
    have s3 := (s.comp s1).comp s2
    split at h2
    · rename_i wx wy q1 q2
      unfold pOp2 at h2
      cases hp : pCmp p wx wy with
      | none => simp only [hp, Option.map_none] at h2; exact h2.elim
      | some r =>
        simp only [hp, Option.map_some] at h2
        rw [o.K]
        exact cmp_ok (s3.av (r1.mono s2.le0) q1) (s3.av r2 q2) hp (s3.finV h2 .blI)
    · exact h2.elim
  exact ⟨pe_imp (pe_cmpR (opr_cmp hu p) ha hb hm) key, pt_imp (pt_cmpR (opr_cmp hu p) ha hb hm) fun σ H Q h => key σ H _ (tb_of h), fun _ _ _ z => by cases z⟩
theorem g_ix (o : CxOk c k ex cf X) {a b : Expr} {ma mb : M} {pos : Pos} (ha : PE X a (TAv c ex (evV cf ma))) (hb : PE X b (TAv c ex (evV cf mb))) (hs : noSlice b = true) : EOk c ex X (.Subscript a b pos) (evE cf (.op2 .ix ma mb)) := by
  have hu : X.A.units + 100 < cLine := by have := o.un; omega
  refine .of_plain (pe_imp (pe_ix (ixr_all hu) ha hb (plainIx_of hs)) fun σ H Q ⟨e, d, ρ, S, s, h⟩ => ?_) (fun _ => rfl) (fun _ _ _ z => by cases z)
  simp only [evE] at h
  refine s.tp h fun x ρ1 S1 v d1 H1 s1 r1 h1 => (s.comp s1).tp h1 fun y ρ2 S2 u d2 H2 s2 r2 h2 => ?_
  have s3 := (s.comp s1).comp s2
  split at h2
  · rename_i wx wy q1 q2
    unfold pOp2 at h2
    cases hp : pIx wx wy with
    | none => simp only [hp, Option.map_none] at h2; exact h2.elim
    | some r =>
      simp only [hp, Option.map_some] at h2
      rw [o.K]
      exact ix_ok (s3.av (r1.mono s2.le0) q1) (s3.av r2 q2) hp fun v rv => s3.finV h2 rv
  · exact h2.elim
theorem g_neg (o : CxOk c k ex cf X) {a : Expr} {ma : M} {pos : Pos} (ha : PE X a (TV c ex (evE cf ma))) : EOk c ex X (.UnaryOp .USub a pos) (evE cf (.neg ma)) := by
  refine .of_plain (pe_imp (pe_un un_neg ha) fun σ H Q ⟨e, d, ρ, S, s, h⟩ => ?_) (fun _ => rfl) (fun _ _ _ z => by cases z)
  simp only [evE] at h
  refine s.tp h fun x ρ1 S1 v d1 H1 s1 r1 h1 => ?_
  split at h1
  · rename_i i q
    cases x with
    | val w =>
      have q : w = .int i := q
      subst q
      have r1 : v = .int i := by simpa only [RvR, Rep] using r1
      exact ⟨i, r1, (s.comp s1).finV h1 .intI⟩
    | fresh l => cases q
  · exact h1.elim
/-- a slice's part -/
abbrev TOp (c : Cn) (ex : EX) (g : Env → Sto → Out (Option Int)) : TO := TP c ex (fun _ _ _ _ _ a b => b = a) g
theorem po_imp {e : Option Expr} {t t' : TO} (h : PO X e t) (k : ∀ σ H Q, t' σ H Q → t σ H Q) : PO X e t' := by
  obtain ⟨run⟩ := h
  exact ⟨fun pins s σ H Q I q => run pins s σ H Q I (k σ H Q q)⟩
theorem o_none : PO X none (TOp c ex (evO cf .nil)) := po_imp po_none fun σ H Q ⟨e, d, ρ, S, s, h⟩ => by
  simp only [evO, optO] at h
  exact h none d H s rfl
theorem o_some {a : Expr} {ma : M} (ha : PE X a (TV c ex (evE cf ma))) (hm : ∀ ρ S, evO cf ma ρ S = (evE cf ma ρ S).bind fun r ρ S => match r with
    | .val (.int i) => .ok (some i) ρ S
    | _ => .stuck) : PO X (some a) (TOp c ex (evO cf ma)) := po_imp (po_some ha) fun σ H Q ⟨e, d, ρ, S, s, h⟩ => by
  rw [hm] at h
  refine s.tp h fun x ρ1 S1 v d1 H1 s1 r1 h1 => ?_
  split at h1
  · rename_i i
    have r1 : v = .int i := by simpa only [RvR, Rep] using r1
    exact ⟨i, r1, h1 _ d1 H1 (s.comp s1) rfl⟩
  · exact h1.elim
theorem g_sl (o : CxOk c k ex cf X) {a : Expr} {lo hi : Option Expr} {ma ml mh : M} {pos p2 : Pos} (ha : PE X a (TAv c ex (evV cf ma))) (hl : PO X lo (TOp c ex (evO cf ml))) (hh : PO X hi (TOp c ex (evO cf mh))) :
    EOk c ex X (.Subscript a (.Slice lo hi none p2) pos) (evE cf (.sl ma ml mh)) := by
  refine .of_plain (pe_imp (pe_slice slr_all ha hl hh) fun σ H Q ⟨e, d, ρ, S, s, h⟩ => ?_) (fun _ => rfl) (fun _ _ _ z => by cases z)
  simp only [evE] at h
  refine s.tp h fun x ρ1 S1 v d1 H1 s1 r1 h1 => (s.comp s1).tp h1 fun l ρ2 S2 l' d2 H2 s2 r2 h2 => ((s.comp s1).comp s2).tp h2 fun u ρ3 S3 u' d3 H3 s3 r3 h3 => ?_
  have s4 := ((s.comp s1).comp s2).comp s3
  have r2 : l' = l := r2
  have r3 : u' = u := r3
  subst r2 r3
  split at h3
  · rename_i w q
    split at h3
    · rename_i r hp
      rw [o.K]
      exact sl_ok s4.dom (s4.av ((r1.mono s2.le0).mono s3.le0) q) hp fun v H' pp => s4.fin h3 pp
    · exact h3.elim
  · exact h3.elim
end
end NV
set_option Elab.async false
set_option linter.all false
set_option maxRecDepth 100000
set_option maxHeartbeats 1000000
/-! # Further expressions; calls -/
namespace NV
open PySem PySem.Spec PyProof.Rows L2
section
variable {c : Cn} {k : Ck} {ex : EX} {cf : CallF} {X : Cx}
/-! ### displays, built-ins -/
theorem vals_rep {d : Wd} {σ : L2.St} {H : Hp} : ∀ {l : List AV} {vs : List V} {ws : List W}, AvsR c d σ H l vs → vals l = some ws → RepL c d H ws vs
  | [], _, _, h, e => by simp only [vals] at e; cases e; have h : _ = [] := h; rw [h]; exact .nil
  | .val w :: r, _, _, ⟨v, t, e1, h1, h2⟩, e => by
    simp only [vals] at e
    cases q : vals r with
    | none => rw [q] at e; cases e
    | some ws => rw [q] at e; cases e; rw [e1]; exact .cons h1 (vals_rep h2 q)
  | .pk _ :: _, _, _, _, e => by simp only [vals] at e; cases e
theorem g_tup (o : CxOk c k ex cf X) {es : List Expr} {m : M} {j : Nat} {pos : Pos} (h : PA X es (TAs c ex (evA cf m))) : EOk c ex X (.Tuple es j pos) (evE cf (.tup m)) := by
  refine .of_plain (pe_imp (pe_tup h) fun σ H Q ⟨e, d, ρ, S, s, h⟩ => ?_) (fun _ => rfl) (fun _ _ _ z => by cases z)
  simp only [evE] at h
  refine s.tp h fun l ρ1 S1 vs d1 H1 s1 r1 h1 => ?_
  split at h1
  · rename_i ws q
    split at h1
    · rename_i hz
      have r := vals_rep r1 q
      have s2 := s.comp s1
      exact ⟨by rw [r.length]; exact szOk_iff hz, fun p hp => s2.fin h1 (.newT s2.dom hp r)⟩
    · exact h1.elim
  · exact h1.elim
theorem g_lst (o : CxOk c k ex cf X) {es : List Expr} {m : M} {pos : Pos} (h : PA X es (TAs c ex (evA cf m))) : EOk c ex X (.List es pos) (evE cf (.lst m)) := by
  refine .of_plain (pe_imp (pe_lst h) fun σ H Q ⟨e, d, ρ, S, s, h⟩ => ?_) (fun _ => rfl) (fun _ _ _ z => by cases z)
  simp only [evE] at h
  refine s.tp h fun l ρ1 S1 vs d1 H1 s1 r1 h1 => ?_
  split at h1
  · rename_i ws q
    split at h1
    · rename_i hz
      have r := vals_rep r1 q
      have s2 := s.comp s1
      exact ⟨by rw [r.length]; exact szOk_iff hz, fun p hp => s2.fin h1 (.freshL s2.dom hp r)⟩
    · exact h1.elim
  · exact h1.elim
theorem stars_of {es : List Expr} {pos : Pos} {env : PySem.Env} (h : es.all noStar = true) : (backTo pos (starEach es env)).any (·.1) = false := by
  induction es with
  | nil => rfl
  | cons e es ih =>
    rw [List.all_cons, Bool.and_eq_true] at h
    rw [star_of h.1]
    exact ih h.2
theorem noname_of {b : Bi} : (biN b : Str) ≠ "__name__" := by cases b <;> decide
def isTyB : Bi → Bool
  | .int | .list | .tuple | .dict => true
  | _ => false
theorem g_bi (o : CxOk c k ex cf X) {b : Bi} {e : Expr} {es : List Expr} {m : M} {p pos : Pos} (hg : glB k (biN b) = true) (hf : biN b ∈ k.free) (h : PA X (e :: es) (TAs c ex (evA cf m))) (hs : noStar e = true) (hs2 : es.all noStar = true) :
    EOk c ex X (.Call (.Name (biN b) p) (e :: es) [] pos) (evE cf (.bi b m)) := by
  obtain ⟨h1, h2⟩ := gl_of o hg
  have hu : X.A.units + 100 < cLine := by have := o.un; omega
  have key : ∀ σ H (Q : VK), TV c ex (evE cf (.bi b m)) σ H Q → tCB (rBi X.K b) (TAs c ex (evA cf m)) σ H Q := fun σ H Q ⟨e, d, ρ, S, s, h⟩ => by
    simp only [evE] at h
    refine s.tp h fun l ρ1 S1 vs d1 H1 s1 r1 h1 => ?_
    have s2 := s.comp s1
    split at h1
    · rename_i ws q
      split at h1
      · rename_i r hp
        rw [o.K]
        exact bi_ok s2.dom (s2.avs r1 q) hp fun v H' pp => s2.fin h1 pp
      · exact h1.elim
    · exact h1.elim
  have hc := callr_bi o.calm hu o.gd b
  have hb := bi_boot b
  refine .of_plain (pe_imp ?_ key) (fun _ => rfl) (fun _ _ _ z => by cases z)
  have fin : ∀ f, biV b = .builtin f → PE X (.Call (.Name (biN b) p) (e :: es) [] pos) (tCB (rBi X.K b) (TAs c ex (evA cf m))) := fun f hf' => by
    rw [hf'] at hc hb
    exact pe_callB hc h1 (o.free _ hf) hb h noname_of h2 (star_of hs) (stars_of hs2)
  have fin2 : ∀ f, biV b = .type f → PE X (.Call (.Name (biN b) p) (e :: es) [] pos) (tCB (rBi X.K b) (TAs c ex (evA cf m))) := fun f hf' => by
    rw [hf'] at hc hb
    exact pe_callTy hc h1 (o.free _ hf) hb h noname_of h2 (star_of hs) (stars_of hs2)
  cases b <;> first | exact fin _ rfl | exact fin2 _ rfl

/-! ### truth -/
theorem g_one (op : BoolOp) {a : Expr} {pos : Pos} {g : Env → Sto → Out RV} (ha : EOk c ex X a g) : EOk c ex X (.BoolOp op [a] pos) g := by
  have w : PW X (.BoolOp op [a] pos) (TBo c ex (tst g)) := by
    cases op with
    | And => exact pw_and1 ha.pt
    | Or => exact pw_or1 ha.pt
  exact ⟨pe_one ha.pe, w.pt, fun _ _ _ _ => w⟩
theorem tst_bind0 {o : Out RV} {f : RV → Env → Sto → Out RV} {f' : Bool → Env → Sto → Out Bool} (h1 : ∀ b ρ S, tst (f (.val (.bl b))) ρ S = f' b ρ S) (h2 : ∀ r ρ S, (∀ b, r ≠ .val (.bl b)) → f r ρ S = .stuck) :
    ((o.bind f).bind fun r ρ S => match r with
      | .val (.bl b) => Out.ok b ρ S
      | _ => .stuck) = ((o.bind fun r ρ S => match r with
      | .val (.bl b) => Out.ok b ρ S
      | _ => .stuck).bind f') := by
  cases o with
  | ok r ρ1 S1 =>
    rw [Out.bind_ok, Out.bind_ok]
    by_cases hr : ∃ b, r = .val (.bl b)
    · obtain ⟨b, hr⟩ := hr
      subst hr
      exact h1 b ρ1 S1
    · have hr' : ∀ b, r ≠ .val (.bl b) := fun b z => hr ⟨b, z⟩
      rw [h2 r ρ1 S1 hr']
      split
      · rename_i b; exact absurd rfl (hr' b)
      · rfl
  | exn => rfl
  | stuck => rfl
theorem tst_bind {g : Env → Sto → Out RV} {f : RV → Env → Sto → Out RV} {f' : Bool → Env → Sto → Out Bool} {ρ : Env} {S : Sto} (h1 : ∀ b ρ S, tst (f (.val (.bl b))) ρ S = f' b ρ S) (h2 : ∀ r ρ S, (∀ b, r ≠ .val (.bl b)) → f r ρ S = .stuck) :
    tst (fun ρ S => (g ρ S).bind f) ρ S = (tst g ρ S).bind f' := tst_bind0 h1 h2
theorem g_and (o : CxOk c k ex cf X) {a b : Expr} {rest : List Expr} {pos : Pos} {ma mb : M} (ha : EOk c ex X a (evE cf ma)) (hb : EOk c ex X (.BoolOp .And (b :: rest) pos) (evE cf mb)) : EOk c ex X (.BoolOp .And (a :: b :: rest) pos) (evE cf (.and ma mb)) := by
  have w : PW X (.BoolOp .And (a :: b :: rest) pos) (TBo c ex (tst (evE cf (.and ma mb)))) := pw_imp (pw_and ha.pt (hb.pw _ _ _ rfl)) fun σ H Q ⟨e, d, ρ, S, s, h⟩ => by
    have e1 : tst (evE cf (.and ma mb)) ρ S = (tst (evE cf ma) ρ S).bind fun x ρ S => if x = true then tst (evE cf mb) ρ S else .ok false ρ S := by
      have : evE cf (.and ma mb) = fun ρ S => (evE cf ma ρ S).bind fun x ρ S => match x with
        | .val (.bl true) => evE cf mb ρ S
        | .val (.bl false) => .ok (.val (.bl false)) ρ S
        | _ => .stuck := by funext ρ S; simp only [evE] <;> rfl
      rw [this]
      refine tst_bind (fun b ρ S => by cases b <;> rfl) fun r ρ S hr => ?_
      split <;> first | rfl | exact absurd rfl (hr _)
    rw [e1] at h
    refine s.tp h fun x ρ1 S1 b' d1 H1 s1 r1 h1 => ?_
    have r1 : b' = x := r1
    subst r1
    cases b' with
    | true => exact ⟨e, d1, ρ1, S1, s.comp s1, h1⟩
    | false => exact h1 false d1 H1 (s.comp s1) rfl
  refine ⟨pe_imp (pe_and ha.pe hb.pe) fun σ H Q ⟨e, d, ρ, S, s, h⟩ => ?_, w.pt, fun _ _ _ _ => w⟩
  simp only [evE] at h
  refine s.tp h fun x ρ1 S1 v d1 H1 s1 r1 h1 => ?_
  split at h1
  · have r1 : v = .bl true := by simpa only [RvR, Rep] using r1
    exact ⟨true, r1, by rw [if_pos rfl]; exact ⟨e, d1, ρ1, S1, s.comp s1, h1⟩⟩
  · have r1 : v = .bl false := by simpa only [RvR, Rep] using r1
    exact ⟨false, r1, by rw [if_neg (by decide)]; exact (s.comp s1).finV h1 .blI⟩
  · exact h1.elim
theorem g_or (o : CxOk c k ex cf X) {a b : Expr} {rest : List Expr} {pos : Pos} {ma mb : M} (ha : EOk c ex X a (evE cf ma)) (hb : EOk c ex X (.BoolOp .Or (b :: rest) pos) (evE cf mb)) : EOk c ex X (.BoolOp .Or (a :: b :: rest) pos) (evE cf (.or ma mb)) := by
  have w : PW X (.BoolOp .Or (a :: b :: rest) pos) (TBo c ex (tst (evE cf (.or ma mb)))) := pw_imp (pw_or ha.pt (hb.pw _ _ _ rfl)) fun σ H Q ⟨e, d, ρ, S, s, h⟩ => by
    have e1 : tst (evE cf (.or ma mb)) ρ S = (tst (evE cf ma) ρ S).bind fun x ρ S => if x = true then .ok true ρ S else tst (evE cf mb) ρ S := by
      have : evE cf (.or ma mb) = fun ρ S => (evE cf ma ρ S).bind fun x ρ S => match x with
        | .val (.bl false) => evE cf mb ρ S
        | .val (.bl true) => .ok (.val (.bl true)) ρ S
        | _ => .stuck := by funext ρ S; simp only [evE] <;> rfl
      rw [this]
      refine tst_bind (fun b ρ S => by cases b <;> rfl) fun r ρ S hr => ?_
      split <;> first | rfl | exact absurd rfl (hr _)
    rw [e1] at h
    refine s.tp h fun x ρ1 S1 b' d1 H1 s1 r1 h1 => ?_
    have r1 : b' = x := r1
    subst r1
    cases b' with
    | true => exact h1 true d1 H1 (s.comp s1) rfl
    | false => exact ⟨e, d1, ρ1, S1, s.comp s1, h1⟩
  refine ⟨pe_imp (pe_or ha.pe hb.pe) fun σ H Q ⟨e, d, ρ, S, s, h⟩ => ?_, w.pt, fun _ _ _ _ => w⟩
  simp only [evE] at h
  refine s.tp h fun x ρ1 S1 v d1 H1 s1 r1 h1 => ?_
  split at h1
  · have r1 : v = .bl false := by simpa only [RvR, Rep] using r1
    exact ⟨false, r1, by rw [if_neg (by decide)]; exact ⟨e, d1, ρ1, S1, s.comp s1, h1⟩⟩
  · have r1 : v = .bl true := by simpa only [RvR, Rep] using r1
    exact ⟨true, r1, by rw [if_pos rfl]; exact (s.comp s1).finV h1 .blI⟩
  · exact h1.elim
theorem g_not (o : CxOk c k ex cf X) {a : Expr} {pos : Pos} {ma : M} (ha : EOk c ex X a (evE cf ma)) : EOk c ex X (.UnaryOp .Not a pos) (evE cf (.not ma)) := by
  refine ⟨pe_imp (pe_not ha.pe) fun σ H Q ⟨e, d, ρ, S, s, h⟩ => ?_, pt_imp (pt_not ha.pt) fun σ H Q ⟨e, d, ρ, S, s, h⟩ => ?_, fun _ _ _ z => by cases z⟩
  · simp only [evE] at h
    refine s.tp h fun x ρ1 S1 v d1 H1 s1 r1 h1 => ?_
    split at h1
    · rename_i b
      have r1 : v = .bl b := by simpa only [RvR, Rep] using r1
      exact ⟨b, r1, (s.comp s1).finV h1 .blI⟩
    · exact h1.elim
  · have e1 : tst (evE cf (.not ma)) ρ S = (tst (evE cf ma) ρ S).bind fun x ρ S => .ok (!x) ρ S := by
      have : evE cf (.not ma) = fun ρ S => (evE cf ma ρ S).bind fun x ρ S => match x with
        | .val (.bl b) => .ok (.val (.bl (!b))) ρ S
        | _ => .stuck := by funext ρ S; simp only [evE] <;> rfl
      rw [this]
      refine tst_bind (fun b ρ S => rfl) fun r ρ S hr => ?_
      split <;> first | rfl | exact absurd rfl (hr _)
    rw [e1] at h
    refine s.tp h fun x ρ1 S1 b' d1 H1 s1 r1 h1 => ?_
    have r1 : b' = x := r1
    subst r1
    exact h1 _ d1 H1 (s.comp s1) rfl
theorem pt_ite {t a b : Expr} {pos : Pos} {tt ta tb : TT} (ht : PT X t tt) (ha : PT X a ta) (hb : PT X b tb) : PT X (.IfExp t a b pos) (fun σ H Q => tt σ H fun c H1 => if c = true then ta σ H1 Q else tb σ H1 Q) := by
  refine ⟨fun pins s σ H Q I h => ?_⟩
  refine isTrue_IfExp (thn (ht.run pins s σ H _ I h) fun d s1 ⟨H1, I1, q1⟩ => ?_)
  cases d with
  | true => exact ha.run pins s1 σ H1 Q I1 q1
  | false => exact hb.run pins s1 σ H1 Q I1 q1
theorem g_ite (o : CxOk c k ex cf X) {t a b : Expr} {pos : Pos} {mt ma mb : M} (ht : EOk c ex X t (evE cf mt)) (ha : EOk c ex X a (evE cf ma)) (hb : EOk c ex X b (evE cf mb)) : EOk c ex X (.IfExp t a b pos) (evE cf (.ite mt ma mb)) := by
  have e0 : evE cf (.ite mt ma mb) = fun ρ S => (evE cf mt ρ S).bind fun x ρ S => match x with
        | .val (.bl true) => evE cf ma ρ S
        | .val (.bl false) => evE cf mb ρ S
        | _ => .stuck := by funext ρ S; simp only [evE] <;> rfl
  refine ⟨pe_imp (pe_ifExp ht.pt ha.pe hb.pe) fun σ H Q ⟨e, d, ρ, S, s, h⟩ => ?_, pt_imp (pt_ite ht.pt ha.pt hb.pt) fun σ H Q ⟨e, d, ρ, S, s, h⟩ => ?_, fun _ _ _ z => by cases z⟩
  · have e1 : evE cf (.ite mt ma mb) ρ S = (tst (evE cf mt) ρ S).bind fun x ρ S => if x = true then evE cf ma ρ S else evE cf mb ρ S := by
      rw [e0]
      show (evE cf mt ρ S).bind _ = _
      unfold tst
      cases evE cf mt ρ S with
      | ok r ρ1 S1 =>
        simp only [Out.bind_ok]
        split
        · rfl
        · rfl
        · rename_i h1 h2
          split
          · rename_i b; cases b
            · exact absurd rfl h2
            · exact absurd rfl h1
          · rfl
      | exn => rfl
      | stuck => rfl
    rw [e1] at h
    refine s.tp h fun x ρ1 S1 b' d1 H1 s1 r1 h1 => ?_
    have r1 : b' = x := r1
    subst r1
    cases b' with
    | true => exact ⟨e, d1, ρ1, S1, s.comp s1, h1⟩
    | false => exact ⟨e, d1, ρ1, S1, s.comp s1, h1⟩
  · have e1 : tst (evE cf (.ite mt ma mb)) ρ S = (tst (evE cf mt) ρ S).bind fun x ρ S => if x = true then tst (evE cf ma) ρ S else tst (evE cf mb) ρ S := by
      rw [e0]
      refine tst_bind (fun b ρ S => by cases b <;> rfl) fun r ρ S hr => ?_
      split <;> first | rfl | exact absurd rfl (hr _)
    rw [e1] at h
    refine s.tp h fun x ρ1 S1 b' d1 H1 s1 r1 h1 => ?_
    have r1 : b' = x := r1
    subst r1
    cases b' with
    | true => exact ⟨e, d1, ρ1, S1, s.comp s1, h1⟩
    | false => exact ⟨e, d1, ρ1, S1, s.comp s1, h1⟩
theorem g_chain (o : CxOk c k ex cf X) {p q : CmpOp} {a b z : Expr} {pos : Pos} {ma mb mz : M} (ha : EOk c ex X a (evE cf ma)) (hb : EOk c ex X b (evE cf mb)) (hz : EOk c ex X z (evE cf mz)) (hm : lastMarks [p, q] [b, z] = false) :
    EOk c ex X (.Compare a [p, q] [b, z] pos) (evE cf (.chain p q ma mb mz)) := by
  have hu : X.A.units + 100 < cLine := by have := o.un; omega
  have key : ∀ σ H (Q : VK), TV c ex (evE cf (.chain p q ma mb mz)) σ H Q → tChain (rC X.K p) (rC X.K q) (TV c ex (evE cf ma)) (TV c ex (evE cf mb)) (TV c ex (evE cf mz)) σ H Q := fun σ H Q ⟨e, d, ρ, S, s, h⟩ => by
    simp only [evE] at h
    refine s.tp h fun x ρ1 S1 v d1 H1 s1 r1 h1 => ?_
    obtain ⟨d1', t1, l1, r1'⟩ := (s.comp s1).frz (r1.up s)
    refine t1.tp h1 fun y ρ2 S2 u d2 H2 s2 r2 h2 => ?_
    obtain ⟨d2', t2, l2, r2'⟩ := (t1.comp s2).frz (r2.up t1)
    have r1'' := (r1'.mono s2.le0).mono l2
    split at h2
    · rename_i hp
      rw [o.K]
      refine cmp_ok (.of r1'') (.of r2') hp ⟨true, rfl, ?_⟩
      rw [if_pos rfl]
      refine t2.tp h2 fun z ρ3 S3 w d3 H3 s3 r3 h3 => ?_
      obtain ⟨d3', t3, l3, r3'⟩ := (t2.comp s3).frz (r3.up t2)
      split at h3
      · rename_i b hp2
        exact cmp_ok (.of ((r2'.mono s3.le0).mono l3)) (.of r3') hp2 (t3.finV h3 .blI)
      · exact h3.elim
    · rename_i hp
      rw [o.K]
      refine cmp_ok (.of r1'') (.of r2') hp ⟨false, rfl, ?_⟩
      rw [if_neg (by decide)]
      exact t2.finV h2 .blI
    · exact h2.elim
  exact ⟨pe_imp (pe_chain (opr_cmp hu p) (opr_cmp hu q) ha.pe hb.pe hz.pe hm) key, pt_imp (pt_chain (opr_cmp hu p) (opr_cmp hu q) ha.pe hb.pe hz.pe hm) fun σ H Q h => key σ H _ (tb_of h), fun _ _ _ z => by cases z⟩
end
end NV
set_option Elab.async false
set_option linter.all false
set_option maxRecDepth 100000
set_option maxHeartbeats 1000000
/-! # Methods, isinstance, written dicts, lists that change -/
namespace NV
open PySem PySem.Spec PyProof.Rows L2
def baseB : Expr → Bool
  | .Call (.Name _ _) [] [] _ => false
  | _ => true
theorem base_of {o : Expr} {n : Str} {env : PySem.Env} {w : Sem Value} (h : baseB o = true) : attributeBase o n env w = w := by
  unfold attributeBase
  split
  · cases h
  · rfl
section
variable {c : Cn} {k : Ck} {ex : EX} {cf : CallF} {X : Cx}
variable {e : Ent} {d d' : Wd} {ρ ρ' : Env} {S S' : Sto} {σ : L2.St} {H H' : Hp}
theorem CRepL.nilI {vs : List V} (h : CRepL c d H [] vs) : vs = [] := h
theorem CRepL.oneI {w : W} {vs : List V} (h : CRepL c d H [w] vs) : ∃ v, vs = [v] ∧ CRep c d H w v := by
  obtain ⟨v, t, e, h1, h2⟩ := h
  have h2 : t = [] := h2
  exact ⟨v, by rw [e, h2], h1⟩
/-! ### isinstance -/
def tyS : Ty → String
  | .str => "str" | .int => "int" | .bool => "bool" | .list => "list" | .tuple => "tuple" | .dict => "dict"
def tyN : Ty → Str
  | .str => "str" | .int => "int" | .bool => "bool" | .list => "list" | .tuple => "tuple" | .dict => "dict"
def tyNm : W → Option String
  | .non => some "NoneType" | .bl _ => some "bool" | .int _ => some "int" | .str _ => some "str" | .tup _ => some "tuple" | .lst _ => some "list" | .flst _ => some "list" | .dct _ _ => some "dict"
  | _ => none
theorem CRep.tyx {w : W} {v : V} {a : String} (h : CRep c d H w v) (e : tyNm w = some a) : TyX c.K H v (.type a) := by
  cases w with
  | non => cases e; rw [h.non]; exact .base .non
  | bl b => cases e; rw [h.bl]; exact .base (.bl _)
  | int b => cases e; rw [h.int]; exact .base (.int _)
  | str b => cases e; rw [h.str]; exact .base (.str _)
  | lst l => cases e; obtain ⟨a, vs, rfl, h1, _⟩ := h.lst; exact .base (.lst h1)
  | flst l =>
    cases e
    obtain ⟨a, vs, rfl, h1, _⟩ := h.flst
    rcases h1 with h1 | ⟨o, _, _, q, q2, _⟩
    · rcases h1 with h1 | ⟨o, h1⟩
      · exact .base (.lst h1)
      · exact .base (.frz h1)
    · exact .kList q q2
  | tup l =>
    cases e
    obtain ⟨a, vs, rfl, h1, _⟩ := h.tup
    rcases h1 with h1 | ⟨o, _, _, q, q2, _⟩
    · rcases h1 with h1 | ⟨o, h1⟩
      · exact .base (.tup h1)
      · exact .fTuple h1
    · exact .kTuple q q2
  | dct ks vs =>
    cases e
    have h : Rep c d H (.dct ks vs) v := h
    simp only [Rep] at h
    obtain ⟨a, kvs, rfl, _, h1, _⟩ := h
    exact .base (.dK h1)
  | _ => cases e
theorem kit_w {w : W} {a : String} {t : Ty} (e : tyNm w = some a) : kitB a (tyS t) = some (isTy t w) := by
  cases w <;> first | (cases e; done) | (cases e; cases t <;> first | (show _ = some true; decide +kernel) | (show _ = some false; decide +kernel))
theorem isiW_ty {w : W} {ts : List Ty} {b : Bool} (h : isiW w ts = some b) : (∃ a, tyNm w = some a) ∧ b = ts.any fun t => isTy t w := by
  unfold isiW at h
  split at h
  · cases h
  · cases h
  · cases h
  · rename_i h1 h2 h3
    cases h
    refine ⟨?_, rfl⟩
    cases w <;> first | exact ⟨_, rfl⟩ | exact absurd rfl (h1 _) | exact absurd rfl (h2 _) | exact absurd rfl (h3 _ _)
theorem kit_all {w : W} {a : String} (e : tyNm w = some a) : ∀ ts : List Ty, PySem.W.kitAny c.K (.type a) (ts.map fun t => .type (tyS t)) = some (ts.any fun t => isTy t w)
  | [] => kitAny_nil
  | t :: ts => kitAny_cons (kit_ty (kit_w e)) (fun h => by rw [List.any_cons, h, Bool.false_or]; exact kit_all e ts) fun h => by rw [List.any_cons, h, Bool.true_or]
def tyB (k : Ck) (t : Ty) : Expr → Bool
  | .Name x _ => decide (x = tyN t) && (glB k x && decide (x ∈ k.free))
  | _ => false
theorem ty_pe (o : CxOk c k ex cf X) {t : Ty} {e : Expr} (h : tyB k t e = true) : PE X e (tC (.ty (tyS t))) := by
  cases e <;> first | (cases h; done) | skip
  rename_i x pos
  unfold tyB at h
  simp only [Bool.and_eq_true, decide_eq_true_eq] at h
  obtain ⟨rfl, h1, h2⟩ := h
  obtain ⟨g1, g2⟩ := gl_of o h1
  refine pe_bltn (u := .type (tyS t)) g1 (o.free _ h2) ?_ rfl ?_ g2
  · cases t <;> exact rfl
  · cases t <;> decide
theorem tyB_star {k : Ck} {t : Ty} {e : Expr} (h : tyB k t e = true) : noStar e = true := by
  cases e <;> first | rfl | cases h
def tysB (k : Ck) : List Ty → List Expr → Bool
  | [], [] => true
  | t :: ts, e :: es => tyB k t e && tysB k ts es
  | _, _ => false
theorem tys_pa (o : CxOk c k ex cf X) : ∀ {ts : List Ty} {es : List Expr}, tysB k ts es = true → PA X es (fun σ H Q => Q (ts.map fun t => .ty (tyS t)) H)
  | [], [], _ => pa_imp pa_nil fun σ H Q q => q
  | t :: ts, e :: es, h => by
    simp only [tysB, Bool.and_eq_true] at h
    exact pa_imp (pa_cons (ty_pe o h.1) (tys_pa o h.2) (star_of (tyB_star h.1))) fun σ H Q q => q
theorem tys_cls : ∀ ts : List Ty, Paired ClsV (ts.map fun t => V.ty (tyS t)) (ts.map fun t => .type (tyS t))
  | [] => .nil
  | t :: ts => .cons (.ty _) (tys_cls ts)
def isiB (k : Ck) (ts : List Ty) : Expr → Bool
  | .Tuple es _ _ => tysB k ts es && decide (ts.length ≤ 10)
  | e => match ts with
    | [t] => tyB k t e
    | _ => false
theorem Sim.more (s : Sim c e d ρ S σ H) {p : Addr} {o : HO} (hp : H p = none) : Sim c e (d.more fun _ => False) ρ S σ (upd H p o) := s.grow (.none hp)
theorem AvR.up {x : AV} {v : V} (l : Le d H d' H') (h : AvR c d σ H x v) : AvR c d' σ H' x v := h.mono l
theorem g_isi (o : CxOk c k ex cf X) {a t : Expr} {m : M} {ts : List Ty} {p pos : Pos} (hg : glB k "isinstance" = true) (hf : ("isinstance" : Str) ∈ k.free) (ha : PE X a (TAv c ex (evV cf m))) (hs : noStar a = true) (ht : isiB k ts t = true) :
    EOk c ex X (.Call (.Name "isinstance" p) [a, t] [] pos) (evE cf (.isi m ts)) := by
  obtain ⟨h1, h2⟩ := gl_of o hg
  refine .of_plain ?_ (fun _ => rfl) (fun _ _ _ z => by cases z)
  have one : ∀ t0 : Ty, ts = [t0] → tyB k t0 t = true → PE X (.Call (.Name "isinstance" p) [a, t] [] pos) (TV c ex (evE cf (.isi m ts))) := fun t0 e0 hb => by
    subst e0
    have ht := tyB_star hb
    have q := pe_callB (x := "isinstance") (p := p) (pos := pos) call_isi h1 (o.free _ hf) rfl (pa_cons ha (pa_cons (ty_pe o hb) pa_nil (star_of ht)) (star_of hs)) (by decide) h2 (star_of hs) (by rw [star_of ht]; rfl)
    refine pe_imp q fun σ H Q ⟨e, d, ρ, S, s, h⟩ => ?_
    simp only [evE] at h
    refine s.tp h fun x ρ1 S1 v d1 H1 s1 r1 hh => ?_
    have s2 := s.comp s1
    split at hh
    · rename_i u hu
      split at hh
      · rename_i b hb2
        obtain ⟨⟨a, ha⟩, eb⟩ := isiW_ty hb2
        have cr := s2.av r1 hu
        refine ⟨v, .ty (tyS t0), .type a, .type (tyS t0), b, rfl, .ty _, by rw [o.K]; exact cr.tyx ha, ?_, s2.finV hh .blI⟩
        rw [eb, List.any_cons, List.any_nil, Bool.or_false]
        exact kit_ty (kit_w ha)
      · exact hh.elim
    · exact hh.elim
  have many : ∀ (es : List Expr) (j : Nat) (pt : Pos), t = .Tuple es j pt → tysB k ts es = true → ts.length ≤ 10 → PE X (.Call (.Name "isinstance" p) [a, t] [] pos) (TV c ex (evE cf (.isi m ts))) := fun es j pt e0 hb hl => by
    subst e0
    have qt : PE X (.Tuple es j pt) _ := pe_tup (tys_pa o hb)
    have q := pe_callB (x := "isinstance") (p := p) (pos := pos) call_isiT h1 (o.free _ hf) rfl (pa_cons ha (pa_cons qt pa_nil (star_of (e := .Tuple es j pt) rfl)) (star_of hs)) (by decide) h2 (star_of hs) (by rw [star_of (e := .Tuple es j pt) rfl]; rfl)
    refine pe_imp q fun σ H Q ⟨e, d, ρ, S, s, h⟩ => ?_
    simp only [evE] at h
    refine s.tp h fun x ρ1 S1 v d1 H1 s1 r1 hh => ?_
    have s2 := s.comp s1
    refine ⟨by rw [List.length_map]; exact Nat.le_trans hl (by rw [sizeLine_eq]; omega), fun tp htp => ?_⟩
    have s3 := s2.more (o := .tup (ts.map fun t => V.ty (tyS t))) htp
    split at hh
    · rename_i u hu
      split at hh
      · rename_i b hb2
        obtain ⟨⟨a, ha⟩, eb⟩ := isiW_ty hb2
        have cr := s3.av (r1.mono ((Grow.none htp).le s2.dom)) hu
        refine ⟨v, tp, _, .type a, _, b, rfl, upd_same, tys_cls ts, by rw [o.K]; exact cr.tyx ha, ?_, s3.finV hh .blI⟩
        rw [eb, o.K]
        exact kit_all ha ts
      · exact hh.elim
    · exact hh.elim
  unfold isiB at ht
  split at ht
  · rename_i es j pt
    rw [Bool.and_eq_true] at ht
    exact many es j pt rfl ht.1 (of_decide_eq_true ht.2)
  · split at ht
    · exact one _ rfl ht
    · cases ht

/-! ### a written dict -/
theorem g_gd (o : CxOk c k ex cf X) {x : Str} {ks vs : List W} {a : Expr} {m : M} {p pos : Pos} (hg : glB k x = true) (hm : (x, ks, vs) ∈ k.gds) (ha : EOk c ex X a (evE cf m)) (hs : noSlice a = true) :
    EOk c ex X (.Subscript (.Name x p) a pos) (evE cf (.gd x ks vs m)) := by
  obtain ⟨h1, h2⟩ := gl_of o hg
  obtain ⟨ad, h3, h4⟩ := o.gds _ hm
  refine .of_plain (pe_imp (pe_ix ix_kdict (pe_glob h1 h3 (v := .ref ad) rfl h2) ha.pe (plainIx_of hs)) fun σ H Q ⟨e, d, ρ, S, s, h⟩ => ?_) (fun _ => rfl) (fun _ _ _ z => by cases z)
  simp only [evE] at h
  refine s.tp h fun r ρ1 S1 v d1 H1 s1 r1 hh => ?_
  split at hh
  · rename_i w hw
    cases r with
    | fresh l => cases hw
    | val u =>
      cases u <;> first | (cases hw; done) | skip
      rename_i z
      have r1 : v = .str z := by simpa only [RvR, Rep] using r1
      obtain ⟨v2, k1, k2⟩ := h4 z w hw
      exact ⟨ad, z, v2, rfl, r1, k1, (s.comp s1).finV hh (k2 _ _)⟩
  · exact hh.elim
end
end NV
set_option Elab.async false
set_option linter.all false
set_option maxRecDepth 100000
set_option maxHeartbeats 1000000
/-! # Methods; lists that change -/
namespace NV
open PySem PySem.Spec PyProof.Rows L2
section
variable {c : Cn} {k : Ck} {ex : EX} {cf : CallF} {X : Cx}
variable {e : Ent} {d d' : Wd} {ρ ρ' : Env} {S S' : Sto} {σ : L2.St} {H H' : Hp}
/-! ### methods that change nothing -/
def rCount (K : PySem.W.Frag) : V → List V → Hp → VK → Prop := fun x xs H Q => ∃ (y : V) (ds : List PyData) (e : PyData), xs = [y] ∧ Dp K H x (.list ds) ∧ Dp K H y e ∧ e.depth ≤ 64 ∧ PyData.plainAll ds = true ∧ e.plain = true ∧ Q (.int ((ds.countP fun z => PyData.eqv z e : Nat) : Int)) H
theorem mt_count (hu : X.A.units + 100 < cLine) : MtR X "list.count" (rCount X.K) := by
  intro pins s σ H x xs v us Q I rx rxs h
  obtain ⟨y, ds, e, rfl, hl, hy, hk, p1, p2, q⟩ := h
  obtain ⟨u, rfl, ru⟩ := rxs.one
  obtain ⟨as, r1⟩ := Dp.reads I _ x v hl rx
  obtain ⟨bs, r2⟩ := Dp.reads I _ y u hy ru
  cases r1 with
  | list h1 h2 h3 h4 => exact SeqAt.count_list_data ⟨_, h1, h2, _, h3⟩ h4 r2 p1 p2 (by omega) ⟨.int _, H, I.tok _, ⟨_, rfl⟩, q⟩
theorem g_bits (o : CxOk c k ex cf X) {a : Expr} {m : M} {apos pos : Pos} (ha : PE X a (TAv c ex (evV cf m))) (hb : baseB a = true) (hl : (apos.endLine == pos.line) = true) :
    EOk c ex X (.Call (.Attribute a "bit_length" apos) [] [] pos) (evE cf (.me .bitLength m .nil)) := by
  refine .of_plain (pe_imp (pe_bits ha (base_of hb) hl) fun σ H Q ⟨e, d, ρ, S, s, h⟩ => ?_) (fun _ => rfl) (fun _ _ _ z => by cases z)
  simp only [evE, evA] at h
  refine s.tp h fun x ρ1 S1 v d1 H1 s1 r1 hh => ?_
  have s2 := s.comp s1
  simp only [Out.bind_ok, avs] at hh
  cases hu : x.get ρ1 S1 with
  | none => rw [hu] at hh; exact hh.elim
  | some u =>
    rw [hu] at hh
    cases u <;> first | exact hh.elim | skip
    rename_i i
    exact ⟨i, (s2.av r1 hu).int, s2.finV hh .intI⟩
def meT : Me → String
  | .bitLength => "int" | .join => "str" | .count => "list" | .index => "list" | .get => "dict"
theorem tyV_of {m : Me} {u : W} {v : V} (h : CRep c d H u v) (t : tyMe m u = true) : tyV c.K (meT m) v H := by
  cases m <;> cases u <;> first | (cases t; done) | skip
  · rw [h.int]; exact rfl
  · rw [h.str]; exact rfl
  · obtain ⟨a, vs, rfl, h1, _⟩ := h.lst; exact .inl ⟨rfl, vs, .of h1⟩
  · obtain ⟨a, vs, rfl, h1, _⟩ := h.lst; exact .inl ⟨rfl, vs, .of h1⟩
  · have h : Rep c d H (.dct _ _) v := h
    simp only [Rep] at h
    obtain ⟨a, kvs, rfl, _, h1, _⟩ := h
    exact .inr (.inr (.inl ⟨rfl, .inl ⟨kvs, h1⟩⟩))
def rMe (K : PySem.W.Frag) : Me → V → List V → Hp → VK → Prop
  | .join => fun x xs H Q => ∃ a p, ∃ ys : List Str, x = .str a ∧ xs = [.ref p] ∧ (SqL K H p (ys.map V.str) ∨ SqT K H p (ys.map V.str)) ∧ (ys.map (·.length)).sum + ys.length * a.length ≤ 16777216 ∧ Q (.str (Txt.join a ys)) H
  | .count => rCount K
  | _ => fun _ _ _ _ => False
def meId : Me → String
  | .join => "str.join" | .count => "list.count" | _ => "str.join"
def meN : Me → Str
  | .bitLength => "bit_length" | .join => "join" | .count => "count" | .index => "index" | .get => "get"
theorem mtr_me (hu : X.A.units + 100 < cLine) : ∀ m, MtR X (meId m) (rMe X.K m)
  | .join => mt_join
  | .count => mt_count hu
  | .bitLength | .index | .get => fun _ _ _ _ _ _ _ _ _ _ _ _ h => h.elim
theorem me_ok {m : Me} {u : W} {v : V} {ws : List W} {vs : List V} {r : RV} {Q : VK} (hu : CRep c d H u v) (hw : CRepL c d H ws vs) (hm : m ≠ .bitLength) (h : pMe m u ws = some r) (k : ∀ v H', PrimPost c d H r v H' → Q v H') : rMe c.K m v vs H Q := by
  unfold pMe at h
  split at h
  · exact absurd rfl hm
  · rename_i a l
    obtain ⟨v1, rfl, h1⟩ := hw.oneI
    obtain ⟨p, vs, rfl, h2, h3⟩ := h1.lst
    cases q : wStrs l with
    | none => rw [q] at h; cases h
    | some ys =>
      rw [q, Option.bind_some] at h
      split at h
      · rename_i hz
        cases h
        refine ⟨a, p, ys, hu.str, rfl, .inl ?_, of_decide_eq_true hz, k _ _ (.same .strI)⟩
        rw [← wStrs_ok h3 q]
        exact .of h2
      · cases h
  · rename_i l y
    obtain ⟨v1, rfl, h1⟩ := hw.oneI
    split at h
    · rename_i xs x qx qy
      split at h
      · rename_i hd
        cases h
        have q : W.toD (.lst l) = some (.list xs) := by simp only [W.toD, qx]; rfl
        exact ⟨v1, xs, x, rfl, hu.dp q, h1.dp qy, of_decide_eq_true hd, plain_toDs _ _ qx, plain_toD _ _ qy, k _ _ (.same .intI)⟩
      · cases h
    · cases h
  · cases h
theorem g_me1 (o : CxOk c k ex cf X) {me : Me} {a e : Expr} {es : List Expr} {m ma : M} {apos pos : Pos} (hm2 : (me = .join ∨ me = .count))
    (ha : PE X a (TAv c ex (evV cf m))) (hx : PA X (e :: es) (TAs c ex (evA cf ma))) (hb : baseB a = true) (hl : (apos.endLine == pos.line) = true) (hs : noStar e = true) (he : es = []) :
    EOk c ex X (.Call (.Attribute a (meN me) apos) (e :: es) [] pos) (evE cf (.me me m ma)) := by
  subst he
  have hm : me ≠ .bitLength := by rcases hm2 with h | h <;> subst h <;> decide
  have hu : X.A.units + 100 < cLine := by have := o.un; omega
  refine .of_plain ?_ (fun _ => rfl) (fun _ _ _ z => by cases z)
  have key : ∀ σ H (Q : VK), TV c ex (evE cf (.me me m ma)) σ H Q → tBM X.K (meT me) (rMe X.K me) (TAv c ex (evV cf m)) (TAs c ex (evA cf ma)) σ H Q := fun σ H Q ⟨e, d, ρ, S, s, h⟩ => by
    simp only [evE] at h
    refine s.tp h fun x ρ1 S1 v d1 H1 s1 r1 hh => ?_
    have s2 := s.comp s1
    split at hh
    · rename_i ht
      refine ⟨?_, s2.tp hh fun l ρ2 S2 vs d2 H2 s3 r3 h3 => ?_⟩
      · cases hu : x.get ρ1 S1 with
        | none => rw [hu] at ht; cases ht
        | some u => rw [hu] at ht; rw [o.K]; exact tyV_of (s2.av r1 hu) ht
      · have s4 := s2.comp s3
        split at h3
        · rename_i u ws q1 q2
          split at h3
          · rename_i r hr
            rw [o.K]
            exact me_ok (s4.av (r1.mono s3.le0) q1) (s4.avs r3 q2) hm hr fun v H' pp => s4.fin h3 pp
          · exact h3.elim
        · exact h3.elim
    · exact hh.elim
  have few : ∀ n : Str, ((backTo pos (starEach [e] X.env)).all (fun x => !x.1) && (backToKw pos (keywordEach [] X.env)).all (fun x => x.1.isSome)
      && decide (([e] : List Expr).length + ([] : List Keyword).length + (if ([] : List Keyword).isEmpty then 0 else 1) < 30)) = true := fun _ => by rw [star_of hs]; rfl
  cases me with
  | bitLength => exact absurd rfl hm
  | join => exact pe_imp (pe_bm F.plainAttrs_str F.slot_str_join F.type_str_join (mtr_me hu .join) ha hx (base_of hb) (few "") hl (star_of hs) rfl) key
  | count => exact pe_imp (pe_bm F.plainAttrs_list F.slot_list_count F.type_list_count (mtr_me hu .count) ha hx (base_of hb) (few "") hl (star_of hs) rfl) key
  | index => exact absurd hm2 (by decide)
  | get => exact absurd hm2 (by decide)

/-! ### lists that change -/
theorem Le.upd {p : Addr} {x : HO} (hp : ¬ d.F p) : Le d H d (upd H p x) := ⟨fun a h => ⟨h, upd_ne fun z => hp (z ▸ h)⟩, List.prefix_refl _⟩
theorem Sim.mutOwn (s : Sim c e d ρ S σ H) {i : Nat} {a : Addr} {l : Bool × List W} {l' : List W} {vs' : List V} (h : ρ[i]? = some (some (.own l))) (hv : σ[i]? = some (some (.ref a))) (hr : RepL c d H l' vs') :
    Sim c e d (ρ.set i (some (.own (l.1, l')))) S σ (upd H a (.lst vs')) := by
  have ho : ownAt ρ σ i a := ⟨⟨l, h⟩, hv⟩
  obtain ⟨l0, vs, _, h2, _, h3, h4⟩ := s.ownH ho
  have hi : i < ρ.length := (List.getElem?_eq_some_iff.mp h).1
  have le : Le d H d (upd H a (.lst vs')) := .upd h3
  have back : ∀ j b, ownAt (ρ.set i (some (.own (l.1, l')))) σ j b → ownAt ρ σ j b := fun j b ⟨⟨k, z⟩, z2⟩ => by
    by_cases hj : j = i
    · subst hj; exact ⟨⟨l, h⟩, z2⟩
    · rw [List.getElem?_set_ne (Ne.symm hj)] at z; exact ⟨⟨k, z⟩, z2⟩
  have some' : ∀ b, H b ≠ none → upd H a (.lst vs') b ≠ none := fun b hb => by
    by_cases z : b = a
    · subst z; rw [upd_same]; simp
    · rw [upd_ne z]; exact hb
  exact {
    le0 := s.le0.trans le
    dom := fun b hb => some' b (s.dom b hb)
    fr := fun b o hb h1 h2 => by
      have q := s.fr b o hb h1 h2
      rw [upd_ne]; · exact q
      intro z; subst z
      rcases s.own i _ ho with z | z
      · exact h1 z
      · rw [z] at hb; cases hb
    new := s.new
    mun := s.mun
    dm := fun b hb => some' b (s.dm b hb)
    mlen := s.mlen
    nodup := s.nodup
    cell := fun n ws q => by
      obtain ⟨b, us, q1, q2, q3, q4⟩ := s.cell n ws q
      refine ⟨b, us, q1, ?_, RepL.mono le q3, q4⟩
      rw [upd_ne]; · exact q2
      intro z; subst z; exact h4 (List.mem_of_getElem? q1)
    len := (List.length_set ..).trans s.len
    slot := fun j sv q => by
      by_cases hj : j = i
      · subst hj
        rw [List.getElem?_set_self hi] at q
        cases q
        exact ⟨_, hv, a, vs', rfl, upd_same, RepL.mono le hr, h3, h4⟩
      · rw [List.getElem?_set_ne (Ne.symm hj)] at q
        obtain ⟨v, q1, q2⟩ := s.slot j sv q
        refine ⟨v, q1, ?_⟩
        cases sv with
        | val w => exact Rep.mono le q2
        | own l2 =>
          obtain ⟨b, us, e1, r1, r2, r3, r4⟩ := q2
          refine ⟨b, us, e1, ?_, RepL.mono le r2, r3, r4⟩
          rw [upd_ne]; · exact r1
          intro z; subst z
          exact hj (s.inj j i _ ⟨⟨l2, q⟩, by rw [q1, e1]⟩ ho)
    own := fun j b hb => s.own j b (back j b hb)
    inj := fun j j' b h1 h2 => s.inj j j' b (back _ _ h1) (back _ _ h2)
    par := fun p hp => by
      obtain ⟨q1, q2⟩ := s.par p hp
      refine ⟨q1, ?_⟩
      by_cases hj : p.1 = i
      · obtain ⟨l2, q2⟩ := q2
        rw [hj, h] at q2
        cases q2
        exact ⟨l', by rw [hj, List.getElem?_set_self hi]⟩
      · rw [List.getElem?_set_ne (Ne.symm hj)]; exact q2 }
theorem Sim.mutCell (s : Sim c e d ρ S σ H) {n : Nat} {a : Addr} {l l' : List W} {vs' : List V} (h : S[n]? = some l) (hv : d.mu[n]? = some a) (hr : RepL c d H l' vs') :
    Sim c e d ρ (S.set n l') σ (upd H a (.lst vs')) := by
  have hm : a ∈ d.mu := List.mem_of_getElem? hv
  have h3 := (s.muH hm).2
  have hn : n < S.length := (List.getElem?_eq_some_iff.mp h).1
  have le : Le d H d (upd H a (.lst vs')) := .upd h3
  have some' : ∀ b, H b ≠ none → upd H a (.lst vs') b ≠ none := fun b hb => by
    by_cases z : b = a
    · subst z; rw [upd_same]; simp
    · rw [upd_ne z]; exact hb
  exact {
    le0 := s.le0.trans le
    dom := fun b hb => some' b (s.dom b hb)
    fr := fun b o hb h1 h2 => by
      have q := s.fr b o hb h1 h2
      rw [upd_ne]; · exact q
      intro z; subst z
      rcases s.mun _ hm with z | z
      · exact h2 z
      · rw [z] at hb; cases hb
    new := s.new
    mun := s.mun
    dm := fun b hb => some' b (s.dm b hb)
    mlen := s.mlen.trans (List.length_set ..).symm
    nodup := s.nodup
    cell := fun m ws q => by
      by_cases hj : m = n
      · subst hj
        rw [List.getElem?_set_self hn] at q
        cases q
        exact ⟨a, vs', hv, upd_same, RepL.mono le hr, h3⟩
      · rw [List.getElem?_set_ne (Ne.symm hj)] at q
        obtain ⟨b, us, q1, q2, q3, q4⟩ := s.cell m ws q
        refine ⟨b, us, q1, ?_, RepL.mono le q3, q4⟩
        rw [upd_ne]; · exact q2
        intro z; subst z
        obtain ⟨h5, h6⟩ := List.getElem?_eq_some_iff.mp q1
        obtain ⟨h7, h8⟩ := List.getElem?_eq_some_iff.mp hv
        have pw := List.pairwise_iff_getElem.mp s.nodup
        rcases Nat.lt_trichotomy m n with z | z | z
        · exact pw m n h5 h7 z (h6.trans h8.symm)
        · exact hj z
        · exact pw n m h7 h5 z (h8.trans h6.symm)
    len := s.len
    slot := fun j sv q => by
      obtain ⟨v, q1, q2⟩ := s.slot j sv q
      refine ⟨v, q1, ?_⟩
      cases sv with
      | val w => exact Rep.mono le q2
      | own l2 =>
        obtain ⟨b, us, e1, r1, r2, r3, r4⟩ := q2
        refine ⟨b, us, e1, ?_, RepL.mono le r2, r3, r4⟩
        rw [upd_ne]; · exact r1
        intro z; subst z; exact r4 hm
    own := s.own
    inj := s.inj
    par := s.par }
/-- a new list becomes a shared one -/
theorem Sim.share (s : Sim c e d ρ S σ H) {l : List W} {v : V} (h : RvR c e d ρ σ H (.fresh l) v) : ∃ d', Sim c e d' ρ (S ++ [l]) σ H ∧ Le d H d' H ∧ Rep c d' H (.ref S.length) v := by
  obtain ⟨a, vs, rfl, h1, h2, h3, h4, h5, h6⟩ := h
  have le : Le d H ⟨d.F, d.mu ++ [a]⟩ H := ⟨fun _ h => ⟨h, rfl⟩, List.prefix_append _ _⟩
  refine ⟨⟨d.F, d.mu ++ [a]⟩, {
    le0 := s.le0.trans le
    dom := s.dom
    fr := s.fr
    new := s.new
    mun := fun b hb => by
      rcases List.mem_append.mp hb with z | z
      · exact s.mun b z
      · rw [List.mem_singleton] at z; subst z; exact .inr h5
    dm := s.dm
    mlen := by rw [List.length_append, List.length_append, s.mlen]; rfl
    nodup := by
      rw [List.nodup_append]
      refine ⟨s.nodup, by simp, fun x hx y hy z => ?_⟩
      rw [List.mem_singleton] at hy; subst hy; subst z; exact h4 hx
    cell := fun n ws q => by
      by_cases hn : n < S.length
      · rw [List.getElem?_append_left hn] at q
        obtain ⟨b, us, q1, q2, q3, q4⟩ := s.cell n ws q
        exact ⟨b, us, by rw [List.getElem?_append_left (by rw [s.mlen]; exact hn)]; exact q1, q2, RepL.mono le q3, q4⟩
      · rw [List.getElem?_append_right (Nat.le_of_not_lt hn)] at q
        have hz : n - S.length = 0 := by
          have := (List.getElem?_eq_some_iff.mp q).1
          rw [List.length_singleton] at this; omega
        rw [hz] at q
        cases q
        exact ⟨a, vs, by rw [List.getElem?_append_right (by rw [s.mlen]; omega), s.mlen, hz]; rfl, h1, RepL.mono le h2, h3⟩
    len := s.len
    slot := fun j sv q => by
      obtain ⟨v, q1, q2⟩ := s.slot j sv q
      refine ⟨v, q1, ?_⟩
      cases sv with
      | val w => exact Rep.mono le q2
      | own l2 =>
        obtain ⟨b, us, e1, r1, r2, r3, r4⟩ := q2
        refine ⟨b, us, e1, r1, RepL.mono le r2, r3, fun z => ?_⟩
        rcases List.mem_append.mp z with z | z
        · exact r4 z
        · rw [List.mem_singleton] at z; subst z
          exact h6 ⟨j, ⟨l2, q⟩, by rw [q1, e1]⟩
    own := s.own
    inj := s.inj
    par := s.par }, le, ?_⟩
  simp only [Rep]
  refine ⟨a, ?_, rfl⟩
  rw [List.getElem?_append_right (by rw [s.mlen]; omega), s.mlen, Nat.sub_self]; rfl
theorem g_heap {a : Expr} {m : M} (ha : EOk c ex X a (evE cf m)) : PE X a (TV c ex (evE cf (.heap m))) := pe_imp ha.pe fun σ H Q ⟨e, d, ρ, S, s, h⟩ => by
  simp only [evE] at h
  refine s.tp h fun r ρ1 S1 v d1 H1 s1 r1 hh => ?_
  split at hh
  · obtain ⟨d2, s2, _, q⟩ := (s.comp s1).share (r1.up s)
    exact hh v d2 H1 s2 q
  · exact hh.elim

def rMu : Mu → V → List V → Hp → VK → Prop
  | .append => rAppend | .extend => rExtend | .pop => rPop | .popAt => rPopAt
def muId : Mu → String
  | .append => "list.append" | .extend => "list.extend" | .pop => "list.pop" | .popAt => "list.pop"
def muN : Mu → Str
  | .append => "append" | .extend => "extend" | .pop => "pop" | .popAt => "pop"
theorem mtr_mu : ∀ m, MtR X (muId m) (rMu m)
  | .append => mt_append | .extend => mt_extend | .pop => mt_pop | .popAt => mt_popAt
theorem RepL.getE : ∀ {l : List W} {vs : List V} {j : Nat} {w : W}, RepL c d H l vs → l[j]? = some w → ∃ v, vs[j]? = some v ∧ Rep c d H w v
  | _ :: _, _, 0, _, ⟨v, t, e, h1, _⟩, q => by cases q; exact ⟨v, by rw [e]; rfl, h1⟩
  | _ :: _, _, j + 1, _, ⟨v, t, e, _, h2⟩, q => by
    obtain ⟨u, h3, h4⟩ := RepL.getE h2 (j := j) (by simpa using q)
    exact ⟨u, by rw [e]; simpa using h3, h4⟩
theorem RepL.eraseE : ∀ {l : List W} {vs : List V} (j : Nat), RepL c d H l vs → RepL c d H (l.eraseIdx j) (vs.eraseIdx j)
  | [], vs, _, h => by have h : vs = [] := h; subst h; exact .nil
  | _ :: _, _, 0, ⟨v, t, e, _, h2⟩ => by rw [e]; exact h2
  | _ :: _, _, j + 1, ⟨v, t, e, h1, h2⟩ => by rw [e]; exact .cons h1 (RepL.eraseE j h2)
theorem RepL.dropE : ∀ {l : List W} {vs : List V}, RepL c d H l vs → RepL c d H l.dropLast vs.dropLast
  | [], vs, h => by have h : vs = [] := h; subst h; exact .nil
  | [_], _, ⟨v, t, e, _, h2⟩ => by have h2 : t = [] := h2; subst h2; rw [e]; exact .nil
  | a :: b :: r, _, ⟨v, t, e, h1, h2⟩ => by
    obtain ⟨v2, t2, e2, h3, h4⟩ := id h2
    rw [e, e2]
    rw [e2] at h2
    exact .cons h1 (RepL.dropE h2)
theorem RepL.appE : ∀ {l l' : List W} {vs vs' : List V}, RepL c d H l vs → RepL c d H l' vs' → RepL c d H (l ++ l') (vs ++ vs')
  | [], _, vs, _, h, h' => by have h : vs = [] := h; subst h; exact h'
  | _ :: _, _, _, _, ⟨v, t, e, h1, h2⟩, h' => by rw [e]; exact .cons h1 (RepL.appE h2 h')
theorem mu_ok (s : Sim c e d ρ S σ H) {m : Mu} {a : Addr} {l l' : List W} {vs us : List V} {as : List AV} {w : W} {Q : VK} (hH : H a = some (.lst vs)) (hr : RepL c d H l vs) (ha : AvsR c d σ H as us) (h : muE m l ρ S as = some (w, l'))
    (k : ∀ v vs', Rep c d H w v → RepL c d H l' vs' → Q v (upd H a (.lst vs'))) : rMu m (.ref a) us H Q := by
  unfold muE at h
  split at h
  · split at h
    · rename_i hz
      cases h
      obtain ⟨v, t, rfl, h1, h2⟩ := ha
      have h2 : t = [] := h2
      subst h2
      exact ⟨a, vs, v, rfl, rfl, hH, by rw [hr.length]; exact hz, k _ _ .nonI (hr.appE (.cons h1 .nil))⟩
    · cases h
  · split at h
    · rename_i x ys q
      split at h
      · rename_i hz
        cases h
        obtain ⟨v, t, rfl, h1, h2⟩ := ha
        have h2 : t = [] := h2
        subst h2
        obtain ⟨b, zs, rfl, q1, q2⟩ := (s.av h1 q).lst
        exact ⟨a, b, vs, zs, rfl, rfl, hH, q1, by rw [hr.length, q2.length]; exact hz, k _ _ .nonI (hr.appE q2)⟩
      · cases h
    · cases h
  · have ha : us = [] := ha
    subst ha
    split at h
    · rename_i y q
      cases h
      obtain ⟨v, q1, q2⟩ := hr.getE q
      exact ⟨a, vs, v, rfl, rfl, hH, by rw [hr.length]; exact q1, k _ _ q2 hr.dropE⟩
    · cases h
  · rename_i i
    split at h
    · rename_i hz
      rw [Bool.and_eq_true, decide_eq_true_eq, decide_eq_true_eq] at hz
      split at h
      · rename_i j qj
        split at h
        · rename_i y q
          cases h
          obtain ⟨v, t, rfl, h1, h2⟩ := ha
          have h2 : t = [] := h2
          subst h2
          have h1 : v = .int i := by simpa only [AvR, Rep] using h1
          subst h1
          obtain ⟨v, q1, q2⟩ := hr.getE q
          exact ⟨a, vs, i, j, v, rfl, rfl, hH, hz.1, hz.2, by rw [hr.length]; exact qj, q1, k _ _ q2 (hr.eraseE j)⟩
        · cases h
      · cases h
    · cases h
  · cases h
/-- the call itself -/
theorem pe_mu {me : Mu} {a : Expr} {es : List Expr} {ta : TE} {t : TA} {apos pos : Pos} (ha : PE X a ta) (hx : PA X es t) (hb : baseB a = true) (hl : (apos.endLine == pos.line) = true) (hn : ∀ e r, es = e :: r → noStar e = true ∧ r = []) (h0 : es = [] → me = .pop) :
    ∀ {u : TE}, (es = [] → ∀ σ H Q, u σ H Q → tBM0 X.K "list" (rMu me) ta σ H Q) → (es ≠ [] → ∀ σ H Q, u σ H Q → tBM X.K "list" (rMu me) ta t σ H Q) → PE X (.Call (.Attribute a (muN me) apos) es [] pos) u := by
  intro u k0 k1
  cases es with
  | nil =>
    have h0 := h0 rfl
    subst h0
    exact pe_imp (pe_bm0 F.plainAttrs_list F.slot_list_pop F.type_list_pop (mtr_mu .pop) ha (base_of hb) hl) (k0 rfl)
  | cons e r =>
    obtain ⟨hs, hr⟩ := hn e r rfl
    subst hr
    have few : ∀ n : Str, ((backTo pos (starEach [e] X.env)).all (fun x => !x.1) && (backToKw pos (keywordEach [] X.env)).all (fun x => x.1.isSome)
      && decide (([e] : List Expr).length + ([] : List Keyword).length + (if ([] : List Keyword).isEmpty then 0 else 1) < 30)) = true := fun _ => by rw [star_of hs]; rfl
    refine pe_imp ?_ (k1 (by simp))
    cases me with
    | append => exact pe_bm F.plainAttrs_list F.slot_list_append F.type_list_append (mtr_mu .append) ha hx (base_of hb) (few "") hl (star_of hs) rfl
    | extend => exact pe_bm F.plainAttrs_list F.slot_list_extend F.type_list_extend (mtr_mu .extend) ha hx (base_of hb) (few "") hl (star_of hs) rfl
    | pop => exact pe_bm F.plainAttrs_list F.slot_list_pop F.type_list_pop (mtr_mu .pop) ha hx (base_of hb) (few "") hl (star_of hs) rfl
    | popAt => exact pe_bm F.plainAttrs_list F.slot_list_pop F.type_list_pop (mtr_mu .popAt) ha hx (base_of hb) (few "") hl (star_of hs) rfl
theorem g_mut (o : CxOk c k ex cf X) {me : Mu} {x : Str} {i : Nat} {es : List Expr} {m : M} {p apos pos : Pos} (hv : visB k i x = true) (hx : PA X es (TAs c ex (evA cf m))) (hl : (apos.endLine == pos.line) = true) (hn : ∀ e r, es = e :: r → noStar e = true ∧ r = []) (h0 : es = [] → me = .pop ∧ m = .nil) :
    EOk c ex X (.Call (.Attribute (.Name x p) (muN me) apos) es [] pos) (evE cf (.mut me i m)) := by
  refine .of_plain ?_ (fun _ => rfl) (fun _ _ _ z => by cases z)
  have fin : ∀ {e : Ent} {d : Wd} {ρ : Env} {S : Sto} {σ : L2.St} {H : Hp} {a : Addr} {l : List AV} {us : List V} {Q : VK}, Sim c e d ρ S σ H → σ[i]? = some (some (.ref a)) → AvsR c d σ H l us →
      TPost c ex (RvR c) e σ (match sget ρ i with
      | some (.own xs) => match muE me xs.2 ρ S l with
        | some (w, ys) => .ok (.val w) (ρ.set i (some (.own (xs.1, ys)))) S
        | none => .stuck
      | _ => .stuck) Q → rMu me (.ref a) us H Q := fun {e d ρ S σ H a l us Q} s hi ha h => by
    split at h
    · rename_i xs q
      have q := sget_iff.mp q
      obtain ⟨v, q1, b, vs, e1, r1, r2, r3, r4⟩ := s.slot i _ q
      rw [hi] at q1
      cases q1
      cases e1
      split at h
      · rename_i w ys qm
        refine mu_ok s r1 r2 ha qm fun v vs' hw hr => ?_
        have s2 := s.mutOwn q hi hr
        exact h v d _ s2 (Rep.mono (.upd r3) hw)
      · exact h.elim
    · exact h.elim
  have ty : ∀ {e : Ent} {d : Wd} {ρ : Env} {S : Sto} {σ : L2.St} {H : Hp} {l : Bool × List W}, Sim c e d ρ S σ H → sget ρ i = some (.own l) → ∃ a, σ[i]? = some (some (.ref a)) ∧ tyV X.K "list" (.ref a) H := fun s q => by
    obtain ⟨v, q1, b, vs, e1, r1, _⟩ := s.slot i _ (sget_iff.mp q)
    exact ⟨b, by rw [q1, e1], .inl ⟨rfl, vs, .of r1⟩⟩
  refine pe_mu (vis_pe o hv) hx rfl hl hn (fun h => (h0 h).1) (fun he σ H Q ⟨e, d, ρ, S, s, h⟩ => ?_) (fun he σ H Q ⟨e, d, ρ, S, s, h⟩ => ?_)
  · obtain ⟨rfl, rfl⟩ := h0 he
    simp only [evE, evA] at h
    cases q : sget ρ i with
    | none => rw [q] at h; exact h.elim
    | some sv =>
      cases sv with
      | val w => rw [q] at h; exact h.elim
      | own l =>
        rw [q] at h
        obtain ⟨a, h1, h2⟩ := ty s q
        refine ⟨_, h1, h2, fin s h1 (l := []) rfl ?_⟩
        simp only [Out.bind_ok] at h
        rw [q]
        rw [q] at h
        exact h
  · simp only [evE] at h
    cases q : sget ρ i with
    | none => rw [q] at h; exact h.elim
    | some sv =>
      cases sv with
      | val w => rw [q] at h; exact h.elim
      | own l =>
        rw [q] at h
        obtain ⟨a, h1, h2⟩ := ty s q
        exact ⟨_, h1, h2, s.tp h fun l ρ1 S1 vs d1 H1 s1 r1 hh => fin (s.comp s1) h1 r1 hh⟩
theorem g_hmut (o : CxOk c k ex cf X) {me : Mu} {a : Expr} {es : List Expr} {ma m : M} {apos pos : Pos} (ha : PE X a (TAv c ex (evV cf ma))) (hb : baseB a = true) (hx : PA X es (TAs c ex (evA cf m))) (hl : (apos.endLine == pos.line) = true) (hn : ∀ e r, es = e :: r → noStar e = true ∧ r = []) (h0 : es = [] → me = .pop ∧ m = .nil) :
    EOk c ex X (.Call (.Attribute a (muN me) apos) es [] pos) (evE cf (.hmut me ma m)) := by
  refine .of_plain ?_ (fun _ => rfl) (fun _ _ _ z => by cases z)
  have fin : ∀ {e : Ent} {d : Wd} {ρ : Env} {S : Sto} {σ : L2.St} {H : Hp} {a : Addr} {n : Nat} {l : List AV} {us : List V} {Q : VK}, Sim c e d ρ S σ H → d.mu[n]? = some a → AvsR c d σ H l us →
      TPost c ex (RvR c) e σ (match S[n]? with
      | some xs => match muE me xs ρ S l with
        | some (w, ys) => .ok (.val w) ρ (S.set n ys)
        | none => .stuck
      | none => .stuck) Q → rMu me (.ref a) us H Q := fun {e d ρ S σ H a n l us Q} s hi ha h => by
    split at h
    · rename_i xs q
      obtain ⟨b, vs, q1, r1, r2, r3⟩ := s.cell n xs q
      rw [hi] at q1
      cases q1
      split at h
      · rename_i w ys qm
        refine mu_ok s r1 r2 ha qm fun v vs' hw hr => ?_
        have s2 := s.mutCell q hi hr
        exact h v d _ s2 (Rep.mono (.upd r3) hw)
      · exact h.elim
    · exact h.elim
  have ty : ∀ {e : Ent} {d : Wd} {ρ : Env} {S : Sto} {σ : L2.St} {H : Hp} {n : Nat} {l : List W} {v : V}, Sim c e d ρ S σ H → S[n]? = some l → Rep c d H (.ref n) v → ∃ a, d.mu[n]? = some a ∧ v = .ref a ∧ tyV X.K "list" (.ref a) H := fun {e d ρ S σ H n l v} s q hr => by
    simp only [Rep] at hr
    obtain ⟨a, h1, h2⟩ := hr
    obtain ⟨b, vs, q1, r1, _⟩ := s.cell n l q
    rw [h1] at q1; cases q1
    exact ⟨a, h1, h2, .inl ⟨rfl, vs, .of r1⟩⟩
  refine pe_mu ha hx hb hl hn (fun h => (h0 h).1) (fun he σ H Q ⟨e, d, ρ, S, s, h⟩ => ?_) (fun he σ H Q ⟨e, d, ρ, S, s, h⟩ => ?_)
  · obtain ⟨rfl, rfl⟩ := h0 he
    simp only [evE, evA] at h
    refine s.tp h fun x ρ1 S1 v d1 H1 s1 r1 h1 => ?_
    have s2 := s.comp s1
    split at h1
    · rename_i n
      split at h1
      · rename_i l q
        obtain ⟨a, t1, t2, t3⟩ := ty s2 q r1
        subst t2
        exact ⟨t3, fin s2 t1 (l := []) rfl h1⟩
      · exact h1.elim
    · exact h1.elim
  · simp only [evE] at h
    refine s.tp h fun x ρ1 S1 v d1 H1 s1 r1 h1 => ?_
    have s2 := s.comp s1
    split at h1
    · rename_i n
      split at h1
      · rename_i l q
        obtain ⟨a, t1, t2, t3⟩ := ty s2 q r1
        subst t2
        exact ⟨t3, s2.tp h1 fun l ρ2 S2 vs d2 H2 s3 r3 h3 => fin (s2.comp s3) (s3.le0.get t1) r3 h3⟩
      · exact h1.elim
    · exact h1.elim
end
end NV
set_option Elab.async false
set_option linter.all false
set_option maxRecDepth 100000
set_option maxHeartbeats 1000000
/-! # Calls of one's own defs -/
namespace NV
open PySem PySem.Spec PyProof.Rows L2
section
variable {c : Cn} {k : Ck} {ex : EX} {cf : CallF} {X : Cx}
variable {e : Ent} {d d' : Wd} {ρ ρ' : Env} {S S' : Sto} {σ : L2.St} {H H' : Hp}
theorem args_spec : ∀ {l : List AV} {vs : List V} {args : List SV}, AvsR c d σ H l vs → argSV ρ l = some args → args.length = vs.length ∧ args.length = l.length ∧
    ∀ (j : Nat) (sv : SV), args[j]? = some sv → ∃ v, vs[j]? = some v ∧ ((∃ w, l[j]? = some (.val w) ∧ sv = .val w ∧ Rep c d H w v) ∨ (∃ i s0, l[j]? = some (.pk i) ∧ sget ρ i = some s0 ∧ sv = pinS s0 ∧ σ[i]? = some (some v)))
  | [], vs, args, h, q => by
    have h : vs = [] := h
    cases q; subst h
    exact ⟨rfl, rfl, fun j sv z => by simp at z⟩
  | .val w :: r, vs, args, ⟨v, t, e1, h1, h2⟩, q => by
    simp only [argSV] at q
    cases q2 : argSV ρ r with
    | none => rw [q2] at q; cases q
    | some as =>
      rw [q2] at q; cases q
      obtain ⟨k1, k2, k3⟩ := args_spec h2 q2
      subst e1
      refine ⟨congrArg Nat.succ k1, congrArg Nat.succ k2, fun j sv z => ?_⟩
      cases j with
      | zero => cases z; exact ⟨v, rfl, .inl ⟨w, rfl, rfl, h1⟩⟩
      | succ j => exact k3 j sv (by simpa using z)
  | .pk i :: r, vs, args, ⟨v, t, e1, h1, h2⟩, q => by
    simp only [argSV] at q
    split at q
    · rename_i s0 as q1 q2
      cases q
      obtain ⟨k1, k2, k3⟩ := args_spec h2 q2
      subst e1
      refine ⟨congrArg Nat.succ k1, congrArg Nat.succ k2, fun j sv z => ?_⟩
      cases j with
      | zero => cases z; exact ⟨v, rfl, .inr ⟨i, s0, rfl, q1, rfl, h1⟩⟩
      | succ j => exact k3 j sv (by simpa using z)
    · cases q
theorem pks_mem : ∀ {l : List AV} {j i : Nat}, l[j]? = some (.pk i) → i ∈ pks l
  | .val _ :: r, 0, i, h => by cases h
  | .pk _ :: r, 0, i, h => by cases h; exact List.mem_cons_self ..
  | .val _ :: r, j + 1, i, h => pks_mem (l := r) (j := j) (by simpa using h)
  | .pk _ :: r, j + 1, i, h => List.mem_cons_of_mem _ (pks_mem (l := r) (j := j) (by simpa using h))
theorem mem_pks : ∀ {l : List AV} {i : Nat}, i ∈ pks l → ∃ j : Nat, l[j]? = some (.pk i)
  | .val _ :: r, i, h => by obtain ⟨j, h⟩ := mem_pks (l := r) h; exact ⟨j + 1, by simpa using h⟩
  | .pk a :: r, i, h => by
    rcases List.mem_cons.mp h with z | z
    · subst z; exact ⟨0, rfl⟩
    · obtain ⟨j, h⟩ := mem_pks (l := r) z; exact ⟨j + 1, by simpa using h⟩
theorem pks_inj : ∀ {l : List AV} {i j j' : Nat}, (pks l).Nodup → l[j]? = some (.pk i) → l[j']? = some (.pk i) → j = j'
  | .val _ :: r, i, 0, _, _, h, _ => by cases h
  | .val _ :: r, i, _ + 1, 0, _, _, h => by cases h
  | .val _ :: r, i, j + 1, j' + 1, hn, h, h' => congrArg Nat.succ (pks_inj (l := r) hn (by simpa using h) (by simpa using h'))
  | .pk _ :: r, i, 0, 0, _, _, _ => rfl
  | .pk _ :: r, i, 0, j' + 1, hn, h, h' => by cases h; exact absurd (pks_mem (l := r) (j := j') (by simpa using h')) (List.nodup_cons.mp hn).1
  | .pk _ :: r, i, j + 1, 0, hn, h, h' => by cases h'; exact absurd (pks_mem (l := r) (j := j) (by simpa using h)) (List.nodup_cons.mp hn).1
  | .pk _ :: r, i, j + 1, j' + 1, hn, h, h' => congrArg Nat.succ (pks_inj (l := r) (List.nodup_cons.mp hn).2 (by simpa using h) (by simpa using h'))
theorem sget_set_ne {ρ : Env} {i j : Nat} {s : Option SV} (h : i ≠ j) : sget (ρ.set i s) j = sget ρ j := by
  unfold sget; rw [List.getElem?_set_ne h]
theorem backA_spec : ∀ {l : List AV} {as : List (Option SV)} {ρ ρ2 : Env}, (pks l).Nodup → backA ρ l as = some ρ2 → ρ2.length = ρ.length ∧ (∀ i : Nat, (i ∉ pks l ∨ ∀ x, sget ρ i ≠ some (.own x)) → ρ2[i]? = ρ[i]?) ∧
    (∀ (j i : Nat) (x : Bool × List W), l[j]? = some (.pk i) → sget ρ i = some (.own x) → ∃ l' : Bool × List W, as[j]? = some (some (.own l')) ∧ ρ2[i]? = some (some (.own (x.1, l'.2))))
  | [], as, ρ, ρ2, _, h => by
    have h : some ρ = some ρ2 := by cases as <;> exact h
    cases h; exact ⟨rfl, fun _ _ => rfl, fun j i x z => by simp at z⟩
  | .val w :: r, s :: t, ρ, ρ2, hn, h => by
    obtain ⟨k1, k2, k3⟩ := backA_spec (l := r) (as := t) hn h
    refine ⟨k1, k2, fun j i x h1 h2 => ?_⟩
    cases j with
    | zero => cases h1
    | succ j => simpa using k3 j i x (by simpa using h1) h2
  | .pk i0 :: r, s :: t, ρ, ρ2, hn, h => by
    obtain ⟨n1, n2⟩ := List.nodup_cons.mp hn
    simp only [backA] at h
    split at h
    · rename_i x0 q0
      split at h
      · rename_i l0
        obtain ⟨k1, k2, k3⟩ := backA_spec (l := r) (as := t) n2 h
        have hi : i0 < ρ.length := (List.getElem?_eq_some_iff.mp (sget_iff.mp q0)).1
        refine ⟨k1.trans (List.length_set ..), fun i hi2 => ?_, fun j i x h1 h2 => ?_⟩
        · have ne : i0 ≠ i := by
            rintro rfl
            rcases hi2 with z | z
            · exact z (List.mem_cons_self ..)
            · exact z _ q0
          rw [k2 i ?_, List.getElem?_set_ne ne]
          rcases hi2 with z | z
          · exact .inl fun z2 => z (List.mem_cons_of_mem _ z2)
          · exact .inr fun x => by rw [sget_set_ne ne]; exact z x
        · cases j with
          | zero =>
            cases h1
            rw [q0] at h2; cases h2
            exact ⟨l0, rfl, by rw [k2 i0 (.inl n1), List.getElem?_set_self hi]⟩
          | succ j =>
            have h1' : r[j]? = some (.pk i) := by simpa using h1
            have ne : i0 ≠ i := by rintro rfl; exact n1 (pks_mem h1')
            simpa using k3 j i x h1' (by rw [sget_set_ne ne]; exact h2)
      · cases h
    · rename_i q0
      obtain ⟨k1, k2, k3⟩ := backA_spec (l := r) (as := t) n2 h
      refine ⟨k1, fun i hi2 => ?_, fun j i x h1 h2 => ?_⟩
      · by_cases ne : i0 = i
        · subst ne; exact k2 i0 (.inl n1)
        · refine k2 i ?_
          rcases hi2 with z | z
          · exact .inl fun z2 => z (List.mem_cons_of_mem _ z2)
          · exact .inr z
      · cases j with
        | zero => cases h1; exact absurd h2 (q0 _)
        | succ j => simpa using k3 j i x (by simpa using h1) h2
  | .val _ :: _, [], _, _, _, h => by cases h
  | .pk _ :: _, [], _, _, _, h => by cases h
/-- which parameters hold lists of the caller -/
def ownPs : List SV → List V → Nat → List (Nat × Addr)
  | .own _ :: r, .ref a :: t, n => (n, a) :: ownPs r t (n + 1)
  | _ :: r, _ :: t, n => ownPs r t (n + 1)
  | _, _, _ => []
theorem ownPs_mem : ∀ {args : List SV} {vs : List V} {n : Nat} {p : Nat × Addr}, p ∈ ownPs args vs n ↔ ∃ j, p.1 = n + j ∧ (∃ l, args[j]? = some (.own l)) ∧ vs[j]? = some (.ref p.2)
  | [], vs, n, p => by simp [ownPs]
  | a :: r, [], n, p => by
    cases a <;> simp [ownPs]
  | a :: r, v :: t, n, p => by
    have ih := ownPs_mem (args := r) (vs := t) (n := n + 1) (p := p)
    have step : (∃ j, p.1 = n + 1 + j ∧ (∃ l, r[j]? = some (.own l)) ∧ t[j]? = some (.ref p.2)) ↔ ∃ j, p.1 = n + (j + 1) ∧ (∃ l, (a :: r)[j + 1]? = some (.own l)) ∧ (v :: t)[j + 1]? = some (.ref p.2) := by
      constructor
      · rintro ⟨j, h1, h2, h3⟩; exact ⟨j, by omega, by simpa using h2, by simpa using h3⟩
      · rintro ⟨j, h1, h2, h3⟩; exact ⟨j, by omega, by simpa using h2, by simpa using h3⟩
    have all : (∃ j, p.1 = n + j ∧ (∃ l, (a :: r)[j]? = some (.own l)) ∧ (v :: t)[j]? = some (.ref p.2)) ↔ (p.1 = n ∧ (∃ l, a = .own l) ∧ v = .ref p.2) ∨ ∃ j, p.1 = n + (j + 1) ∧ (∃ l, (a :: r)[j + 1]? = some (.own l)) ∧ (v :: t)[j + 1]? = some (.ref p.2) := by
      constructor
      · rintro ⟨j, h1, h2, h3⟩
        cases j with
        | zero => exact .inl ⟨h1, by simpa using h2, by simpa using h3⟩
        | succ j => exact .inr ⟨j, h1, h2, h3⟩
      · rintro (⟨h1, ⟨l, h2⟩, h3⟩ | ⟨j, h⟩)
        · exact ⟨0, h1, ⟨l, by rw [h2]; rfl⟩, by rw [h3]; rfl⟩
        · exact ⟨j + 1, h⟩
    rw [all, ← step, ← ih]
    cases a with
    | val w =>
      have : ownPs (.val w :: r) (v :: t) n = ownPs r t (n + 1) := by cases v <;> rfl
      rw [this]
      constructor
      · exact .inr
      · rintro (⟨_, ⟨l, z⟩, _⟩ | z)
        · cases z
        · exact z
    | own l =>
      cases v with
      | ref b =>
        show p ∈ (n, b) :: ownPs r t (n + 1) ↔ _
        rw [List.mem_cons]
        constructor
        · rintro (z | z)
          · subst z; exact .inl ⟨rfl, ⟨l, rfl⟩, rfl⟩
          · exact .inr z
        · rintro (⟨h1, _, h3⟩ | z)
          · cases h3; exact .inl (by cases p; cases h1; rfl)
          · exact .inr z
      | _ =>
        constructor
        · exact .inr
        · rintro (⟨_, _, z⟩ | z)
          · cases z
          · exact z
/-- the callee's state at its start, the caller's behind it -/
theorem Sim.call (s : Sim c e d ρ S σ H) {l : List AV} {vs : List V} {args : List SV} (h : AvsR c d σ H l vs) (q : argSV ρ l = some args) (hn : (pks l).Nodup) :
    ∃ e', e'.d = d ∧ e'.H = H ∧ Sim c e' d (args.map some) S (vs.map some) H ∧ (∀ i a, ownAt (args.map some) (vs.map some) i a → (i, a) ∈ e'.P) ∧ (∀ a, e'.B a → owns (args.map some) (vs.map some) a) ∧
      ∀ as d' S' H' ρ2, Sim c e' d' as S' (vs.map some) H' → backA ρ l as = some ρ2 → Sim c e d' ρ2 S' σ H' ∧ ∀ r v, RvR c e' d' as (vs.map some) H' r v → RvR c e d' ρ2 σ H' r v := by
  obtain ⟨n1, n2, n3⟩ := args_spec h q
  have getA : ∀ {j : Nat} {sv : SV}, (args.map some)[j]? = some (some sv) → args[j]? = some sv := fun {j sv} z => by
    rw [List.getElem?_map] at z
    cases q : args[j]? with
    | none => rw [q] at z; cases z
    | some x => rw [q] at z; cases z; rfl
  have getV : ∀ {j : Nat} {v : V}, (vs.map some)[j]? = some (some v) → vs[j]? = some v := fun {j sv} z => by
    rw [List.getElem?_map] at z
    cases q : vs[j]? with
    | none => rw [q] at z; cases z
    | some x => rw [q] at z; cases z; rfl
  have putV : ∀ {j : Nat} {v : V}, vs[j]? = some v → (vs.map some)[j]? = some (some v) := fun {j v} z => by rw [List.getElem?_map, z]; rfl
  have putA : ∀ {j : Nat} {v : SV}, args[j]? = some v → (args.map some)[j]? = some (some v) := fun {j v} z => by rw [List.getElem?_map, z]; rfl
  /- an own parameter is a slot's own list -/
  have up : ∀ {j : Nat} {a : Addr}, ownAt (args.map some) (vs.map some) j a → ∃ i, l[j]? = some (.pk i) ∧ ownAt ρ σ i a := fun {j a} ⟨⟨x, z1⟩, z2⟩ => by
    obtain ⟨v, m1, m2⟩ := n3 j _ (getA z1)
    rw [getV z2] at m1; cases m1
    rcases m2 with ⟨w, _, m, _⟩ | ⟨i, s0, m3, m4, m6, m5⟩
    · cases m
    · cases s0 with
      | val w => cases m6
      | own y => exact ⟨i, m3, ⟨y, sget_iff.mp m4⟩, m5⟩
  have down : ∀ {j i : Nat} {a : Addr}, l[j]? = some (.pk i) → ownAt ρ σ i a → ownAt (args.map some) (vs.map some) j a := fun {j i a} hj ⟨⟨x, z1⟩, z2⟩ => by
    have hj2 : j < args.length := by rw [n2]; exact (List.getElem?_eq_some_iff.mp hj).1
    obtain ⟨v, m1, m2⟩ := n3 j _ (List.getElem?_eq_getElem hj2)
    rcases m2 with ⟨w, m, _, _⟩ | ⟨i', s0, m3, m4, m6, m5⟩
    · rw [hj] at m; cases m
    · rw [hj] at m3; cases m3
      rw [z2] at m5; cases m5
      rw [sget_iff.mpr z1] at m4
      cases m4
      refine ⟨⟨(true, x.2), putA ?_⟩, putV m1⟩
      rw [List.getElem?_eq_getElem hj2, m6]; rfl
  have upO : ∀ {a : Addr}, owns (args.map some) (vs.map some) a → owns ρ σ a := fun ⟨j, z⟩ => by obtain ⟨i, _, z2⟩ := up z; exact ⟨i, z2⟩
  have pm : ∀ p : Nat × Addr, p ∈ ownPs args vs 0 ↔ ownAt (args.map some) (vs.map some) p.1 p.2 := fun p => by
    rw [ownPs_mem]
    constructor
    · rintro ⟨j, h1, ⟨x, h2⟩, h3⟩
      have : p.1 = j := by omega
      rw [this]
      exact ⟨⟨x, putA h2⟩, putV h3⟩
    · rintro ⟨⟨x, h1⟩, h2⟩
      exact ⟨p.1, by omega, ⟨x, getA h1⟩, getV h2⟩
  refine ⟨⟨d, H, owns (args.map some) (vs.map some), ownPs args vs 0⟩, rfl, rfl, ?_, fun i a z => (pm (i, a)).mpr z, fun a z => z, ?_⟩
  · exact {
      le0 := .refl
      dom := s.dom
      fr := fun _ _ z _ _ => z
      new := fun _ z => .inl z
      mun := fun _ z => .inl z
      dm := fun _ z => z
      mlen := s.mlen
      nodup := s.nodup
      cell := s.cell
      len := by rw [List.length_map, List.length_map, n1]
      slot := fun j sv z => by
        obtain ⟨v, m1, m2⟩ := n3 j sv (getA z)
        refine ⟨v, putV m1, ?_⟩
        rcases m2 with ⟨w, _, m, m3⟩ | ⟨i, s0, _, m4, m6, m5⟩
        · subst m; exact m3
        · obtain ⟨v', q1, q2⟩ := s.slot i s0 (sget_iff.mp m4)
          rw [m5] at q1; cases q1
          subst m6
          cases s0 <;> exact q2
      own := fun i a z => .inl ⟨i, z⟩
      inj := fun j j' a z z' => by
        obtain ⟨i, h1, h2⟩ := up z
        obtain ⟨i', h1', h2'⟩ := up z'
        have := s.inj i i' a h2 h2'
        subst this
        exact pks_inj hn h1 h1'
      par := fun p hp => by
        have z := (pm p).mp hp
        refine ⟨z.2, ?_⟩
        obtain ⟨x, z1⟩ := z.1
        obtain ⟨v, m1, m2⟩ := n3 p.1 _ (getA z1)
        rcases m2 with ⟨w, _, m, m3⟩ | ⟨i, s0, _, m4, m6, m5⟩
        · cases m
        · cases s0 with
          | val w => cases m6
          | own y => cases m6; exact ⟨y.2, z1⟩ }
  · intro as d' S' H' ρ2 t hb
    obtain ⟨b1, b2, b3⟩ := backA_spec hn hb
    /- a slot behind the call: the callee's, or as it was -/
    have cs : ∀ i : Nat, (∃ (j : Nat) (x : Bool × List W) (a : Addr) (l' : Bool × List W), l[j]? = some (.pk i) ∧ ownAt ρ σ i a ∧ ρ[i]? = some (some (.own x)) ∧ (as[j]? = some (some (.own l')) ∧ ρ2[i]? = some (some (.own (x.1, l'.2)))) ∧ (vs.map some)[j]? = some (some (V.ref a)) ∧ σ[i]? = some (some (V.ref a))) ∨ (ρ2[i]? = ρ[i]? ∧ ∀ a, ownAt ρ σ i a → ¬ owns (args.map some) (vs.map some) a) := fun i => by
      by_cases h1 : i ∈ pks l
      · by_cases h2 : ∃ x, sget ρ i = some (.own x)
        · obtain ⟨x, h2⟩ := h2
          obtain ⟨j, hj⟩ := mem_pks h1
          obtain ⟨v, q1, a, us, e1, _⟩ := s.slot i _ (sget_iff.mp h2)
          have oa : ownAt ρ σ i a := ⟨⟨x, sget_iff.mp h2⟩, by rw [q1, e1]⟩
          obtain ⟨l', b4⟩ := b3 j i x hj h2
          exact .inl ⟨j, x, a, l', hj, oa, sget_iff.mp h2, b4, (down hj oa).2, oa.2⟩
        · refine .inr ⟨b2 i (.inr fun x z => h2 ⟨x, z⟩), fun a ⟨⟨x, z⟩, _⟩ => absurd ⟨x, sget_iff.mpr z⟩ h2⟩
      · refine .inr ⟨b2 i (.inl h1), fun a z ⟨j, z2⟩ => ?_⟩
        obtain ⟨i', h3, h4⟩ := up z2
        rw [s.inj i i' a z h4] at h1
        exact h1 (pks_mem h3)
    have ow : ∀ {i : Nat} {a : Addr}, ownAt ρ2 σ i a → (∃ j : Nat, l[j]? = some (AV.pk i) ∧ ownAt as (vs.map some) j a) ∨ (ownAt ρ σ i a ∧ ¬ owns (args.map some) (vs.map some) a) := fun {i a} ⟨⟨x, z1⟩, z2⟩ => by
      rcases cs i with ⟨j, y, b, l', h1, h2, h3, ⟨h4, h7⟩, h5, h6⟩ | ⟨h1, h2⟩
      · rw [z2] at h6; cases h6
        exact .inl ⟨j, h1, ⟨l', h4⟩, h5⟩
      · have oa : ownAt ρ σ i a := ⟨⟨x, by rw [← h1]; exact z1⟩, z2⟩
        exact .inr ⟨oa, h2 a oa⟩
    have key : Sim c (NV.rb e d H ρ σ) d' ρ2 S' σ H' := {
      le0 := t.le0
      dom := t.dom
      fr := fun a o z z1 z2 => t.fr a o z (fun w => z1 (upO w)) z2
      new := fun a z => (t.new a z).imp id (Or.imp id upO)
      mun := t.mun
      dm := t.dm
      mlen := t.mlen
      nodup := t.nodup
      cell := t.cell
      len := b1.trans s.len
      slot := fun i sv z => by
        rcases cs i with ⟨j, y, b, l', h1, h2, h3, ⟨h4, h7⟩, h5, h6⟩ | ⟨h1, h2⟩
        · rw [h7] at z
          cases z
          obtain ⟨v, q1, q2⟩ := t.slot j _ h4
          rw [h5] at q1; cases q1
          exact ⟨_, h6, q2⟩
        · rw [h1] at z
          obtain ⟨v, q1, q2⟩ := s.slot i sv z
          refine ⟨v, q1, ?_⟩
          cases sv with
          | val w => exact Rep.mono t.le0 q2
          | own x =>
            obtain ⟨a, us, e1, r1, r2, r3, r4⟩ := q2
            have oa : ownAt ρ σ i a := ⟨⟨x, z⟩, by rw [q1, e1]⟩
            have no := h2 a oa
            have hne : H a ≠ none := by rw [r1]; simp
            refine ⟨a, us, e1, t.fr a _ r1 no r4, RepL.mono t.le0 r2, fun w => ?_, fun w => ?_⟩
            · rcases t.new a w with w | w | w
              · exact r3 w
              · exact hne w
              · exact no w
            · rcases t.mun a w with w | w
              · exact r4 w
              · exact hne w
      own := fun i a z => by
        rcases ow z with ⟨j, _, z2⟩ | ⟨z2, _⟩
        · exact (t.own j a z2).imp upO id
        · exact .inl ⟨i, z2⟩
      inj := fun i i' a z z' => by
        have mix : ∀ {i i' : Nat}, (∃ j : Nat, l[j]? = some (AV.pk i) ∧ ownAt as (vs.map some) j a) → (ownAt ρ σ i' a ∧ ¬ owns (args.map some) (vs.map some) a) → False := fun ⟨j, h1, h2⟩ ⟨h3, h4⟩ => by
          rcases t.own j a h2 with w | w
          · exact h4 w
          · exact (s.ownsH ⟨_, h3⟩).1 w
        rcases ow z with h1 | h1 <;> rcases ow z' with h2 | h2
        · obtain ⟨j, p1, p2⟩ := h1
          obtain ⟨j', p1', p2'⟩ := h2
          have := t.inj j j' a p2 p2'
          subst this
          rw [p1] at p1'; cases p1'; rfl
        · exact (mix h1 h2).elim
        · exact (mix h2 h1).elim
        · exact s.inj i i' a h1.1 h2.1
      par := fun p hp => by
        obtain ⟨p1, p2⟩ := s.par p hp
        refine ⟨p1, ?_⟩
        rcases cs p.1 with ⟨j, y, b, l', h1, h2, h3, ⟨h4, h7⟩, h5, h6⟩ | ⟨h1, h2⟩
        · obtain ⟨x, p2⟩ := p2
          rw [p2] at h3; cases h3
          exact ⟨l'.2, h7⟩
        · rw [h1]
          exact p2 }
    refine ⟨s.comp key, fun r v hr => ?_⟩
    cases r with
    | val w => exact hr
    | fresh x =>
      obtain ⟨a, us, e1, r1, r2, r3, r4, r5, r6⟩ := hr
      refine ⟨a, us, e1, r1, r2, r3, r4, s.gone r5, fun ⟨i, z⟩ => ?_⟩
      rcases ow z with ⟨j, _, z2⟩ | ⟨z2, _⟩
      · exact r6 ⟨j, z2⟩
      · exact (s.ownsH ⟨i, z2⟩).1 r5
theorem spc_of (s : Sim c e d ρ S σ H) {f : Nat} {l : List AV} {vs : List V} {Q : VK} (h : AvsR c d σ H l vs) (q : TPost c ex (RvR c) e σ (doCall cf f l ρ S) Q) : SpC c ex cf f σ vs H Q := by
  unfold doCall at q
  split at q
  · rename_i args ha
    split at q
    · rename_i hn
      obtain ⟨e', h1, h2, h3, h4, h5, h6⟩ := s.call h ha hn
      refine ⟨e', d, args, S, h1, h2, h3, h4, h5, ?_⟩
      split at q
      · rename_i r ρ' S' hc
        try rw [hc]
        split at q
        · rename_i ρ2 hb
          intro v d' H' t hr
          obtain ⟨k1, k2⟩ := h6 _ _ _ _ _ t hb
          exact q v d' H' k1 (k2 r v hr)
        · exact q.elim
      · rename_i kk w ρ' S' hc
        try rw [hc]
        split at q
        · rename_i ρ2 hb
          intro d' H' t
          exact q d' H' (h6 _ _ _ _ _ t hb).1
        · exact q.elim
      · exact q.elim
    · exact q.elim
  · exact q.elim
end
end NV
set_option Elab.async false
set_option linter.all false
set_option maxRecDepth 100000
set_option maxHeartbeats 1000000
/-! # Calls, written -/
namespace NV
open PySem PySem.Spec PyProof.Rows L2
theorem pick_range' {α : Type} (l : List α) : ∀ (n i : Nat), i + n = l.length → pickL l (List.range' i n) = some (l.drop i)
  | 0, i, h => by
    show some [] = _
    rw [List.drop_eq_nil_of_le (by omega)]
  | n + 1, i, h => by
    have hi : i < l.length := by omega
    rw [List.range'_succ]
    show (match l[i]?, pickL l (List.range' (i + 1) n) with
    | some x, some t => some (x :: t)
    | _, _ => none) = _
    rw [pick_range' l n (i + 1) (by omega), List.getElem?_eq_getElem hi]
    show some (l[i] :: l.drop (i + 1)) = _
    rw [List.drop_eq_getElem_cons hi]
theorem pick_range {α : Type} (l : List α) : pickL l (List.range l.length) = some l := by
  rw [List.range_eq_range']
  exact pick_range' l l.length 0 (by omega)
theorem pick_map {α β : Type} {l : List α} {l' : List β} (hl : l.length = l'.length) : ∀ {perm : List Nat} {t : List α}, pickL l perm = some t → ∃ t', pickL l' perm = some t'
  | [], _, _ => ⟨[], rfl⟩
  | i :: r, t, h => by
    simp only [pickL] at h ⊢
    split at h
    · rename_i x t1 q1 q2
      obtain ⟨t', h'⟩ := pick_map hl q2
      have hi : i < l'.length := by rw [← hl]; exact (List.getElem?_eq_some_iff.mp q1).1
      rw [h', List.getElem?_eq_getElem hi]
      exact ⟨_, rfl⟩
    · cases h
section
variable {c : Cn} {k : Ck} {ex : EX} {cf : CallF} {X : Cx}
variable {e : Ent} {d d' : Wd} {ρ ρ' : Env} {S S' : Sto} {σ : L2.St} {H H' : Hp}
/-- how many arguments -/
def lenM : M → Nat
  | .cons _ b => lenM b + 1
  | _ => 0
theorem evA_len {m : M} {ρ : Env} {S : Sto} {l : List AV} {ρ' : Env} {S' : Sto} (h : evA cf m ρ S = .ok l ρ' S') : l.length = lenM m := by
  induction m generalizing ρ S l ρ' S' with
  | nil => simp only [evA] at h; cases h; rfl
  | cons a b _ ih =>
    simp only [evA] at h
    cases q : argV (evE cf a) a ρ S with
    | ok x ρ1 S1 =>
      rw [q, Out.bind_ok] at h
      cases q2 : evA cf b ρ1 S1 with
      | ok r ρ2 S2 =>
        rw [q2, Out.bind_ok] at h
        cases h
        rw [List.length_cons, ih q2]; rfl
      | exn => rw [q2] at h; cases h
      | stuck => rw [q2] at h; cases h
    | exn => rw [q] at h; cases h
    | stuck => rw [q] at h; cases h
  | _ => simp only [evA] at h; cases h
theorem AvsR.len : ∀ {l : List AV} {vs : List V}, AvsR c d σ H l vs → l.length = vs.length
  | [], _, h => by have h : _ = [] := h; rw [h]; rfl
  | _ :: _, _, ⟨v, t, e1, _, h2⟩ => by rw [e1]; exact congrArg Nat.succ (AvsR.len h2)
theorem AvsR.app : ∀ {l l' : List AV} {vs vs' : List V}, AvsR c d σ H l vs → AvsR c d σ H l' vs' → AvsR c d σ H (l ++ l') (vs ++ vs')
  | [], _, _, _, h, h' => by have h : _ = [] := h; rw [h]; exact h'
  | _ :: _, _, _, _, ⟨v, t, e1, h1, h2⟩, h' => ⟨v, t ++ _, by rw [e1]; rfl, h1, AvsR.app h2 h'⟩
theorem AvsR.at : ∀ {l : List AV} {vs : List V} {i : Nat} {x : AV} {v : V}, AvsR c d σ H l vs → l[i]? = some x → vs[i]? = some v → AvR c d σ H x v
  | _ :: _, _, 0, _, _, ⟨v, t, e1, h1, h2⟩, q, q' => by subst e1; cases q; cases q'; exact h1
  | _ :: _, _, i + 1, _, _, ⟨v, t, e1, h1, h2⟩, q, q' => by subst e1; exact AvsR.at h2 (i := i) (by simpa using q) (by simpa using q')
theorem AvsR.pick {l : List AV} {vs : List V} (h : AvsR c d σ H l vs) : ∀ {perm : List Nat} {l' : List AV} {vs' : List V}, pickL l perm = some l' → pickL vs perm = some vs' → AvsR c d σ H l' vs'
  | [], _, _, h1, h2 => by cases h1; cases h2; rfl
  | i :: r, _, _, h1, h2 => by
    simp only [pickL] at h1 h2
    split at h1
    · rename_i x t q1 q2
      cases h1
      split at h2
      · rename_i y u q3 q4
        cases h2
        exact ⟨y, u, rfl, h.at q1 q3, AvsR.pick h q2 q4⟩
      · cases h2
    · cases h1
theorem Vals.at' : ∀ {vs : List V} {us : List Value} {i : Nat} {v : V} {u : Value}, Vals vs us → vs[i]? = some v → us[i]? = some u → RelV v u
  | _, _, 0, _, _, .cons r _, q, q' => by cases q; cases q'; exact r
  | _, _, i + 1, _, _, .cons _ t, q, q' => Vals.at' t (i := i) (by simpa using q) (by simpa using q')
theorem Vals.pick {vs : List V} {us : List Value} (h : Vals vs us) : ∀ {perm : List Nat} {vs' : List V} {us' : List Value}, pickL vs perm = some vs' → pickL us perm = some us' → Vals vs' us'
  | [], _, _, h1, h2 => by cases h1; cases h2; exact .nil
  | i :: r, _, _, h1, h2 => by
    simp only [pickL] at h1 h2
    split at h1
    · rename_i x t q1 q2
      cases h1
      split at h2
      · rename_i y u q3 q4
        cases h2
        exact .cons (Vals.at' h q1 q3) (Vals.pick h q2 q4)
      · cases h2
    · cases h1
/-- every value is written by place -/
theorem bindO_pos {f : Nat} {ps : List Str} {us : List Value} (h : k.pars[f]? = some ps) (hn : ps.Nodup) (hl : us.length = ps.length) : BindO k f us [] us := by
  refine ⟨ps, h, fun fd P hd => ?_⟩
  have := bind_kw (fd := fd) (ps := ps) (ks := []) (us := us) (ws := []) (vals := us) (perm := List.range ps.length) P hd rfl (by omega) (by rw [List.append_nil, hl, List.take_length]; exact hn) (by simp) ?_ ?_
  · exact this
  · rw [List.append_nil, hl, List.take_length]
    exact pick_range ps
  · rw [List.append_nil, ← hl]
    exact pick_range us
theorem g_call (o : CxOk c k ex cf X) {x : Str} {f : Nat} {ps : List Str} {es : List Expr} {m : M} {p pos : Pos} (hg : glB k x = true) (hf : k.fns[f]? = some x) (hp : k.pars[f]? = some ps) (hn : ps.Nodup) (hl : lenM m = ps.length) (hx : PA X es (TAs c ex (evA cf m))) (hs : es.all noStar = true) (h0 : es = [] → m = .nil) :
    EOk c ex X (.Call (.Name x p) es [] pos) (evE cf (.call f m)) := by
  obtain ⟨h1, h2⟩ := gl_of o hg
  obtain ⟨a, h3, h4, h5⟩ := o.fnm f x hf
  refine .of_plain ⟨fun pins s σ H Q I ⟨e, d, ρ, S, sm, h⟩ => ?_⟩ (fun _ => rfl) (fun _ _ _ z => by cases z)
  simp only [evE] at h
  refine wpAny_Call_Name_kw (ld_glob I h1 h4 ?_ h2)
  cases es with
  | nil =>
    have := h0 rfl
    subst this
    simp only [evA, Out.bind_ok] at h
    exact PySem.W.callWith_K0 I.kIn h5 (o.calls f a h3 pins _ σ H [] [] [] [] Q I .nil (bindO_pos hp hn hl) (spc_of sm (l := []) rfl h))
  | cons e0 es =>
    rw [List.all_cons, Bool.and_eq_true] at hs
    refine PySem.W.callWith_K (h₀ := X.base) I.ok.mod.kin h5 ?_ (star_of hs.1) (stars_of hs.2)
    refine thn (hx.run pos pins _ σ H (fun vs H1 => vs.length = lenM m ∧ SpC c ex cf f σ vs H1 Q) I ?_) fun us s1 ⟨vs, H1, I1, r, q⟩ => ⟨I1.kIn, ?_⟩
    · have hh : ∀ (o : Out (List AV)), o = evA cf m ρ S → TPost c ex (fun _ d _ σ H x v => AvsR c d σ H x v) (NV.rb e d H ρ σ) σ o fun vs H1 => vs.length = lenM m ∧ SpC c ex cf f σ vs H1 Q := fun o eo => by
        rw [← eo] at h
        cases o with
        | ok l ρ1 S1 => exact fun vs d1 H1 s1 r1 => ⟨by rw [← r1.len]; exact evA_len eo.symm, spc_of (sm.comp s1) r1 h⟩
        | exn n w ρ1 S1 => exact fun d1 H1 s1 => h d1 H1 (sm.comp s1)
        | stuck => exact h
      exact ⟨_, d, ρ, S, sm.rb, hh _ rfl⟩
    · exact o.calls f a h3 pins s1 σ H1 vs us [] us Q I1 r (bindO_pos hp hn (by rw [← r.length, q.1, hl])) q.2
/-! ### by keywords -/
def kwN : List Keyword → Option (List Str)
  | [] => some []
  | ⟨some n, _, _⟩ :: r => (kwN r).map (n :: ·)
  | ⟨none, _, _⟩ :: _ => none
theorem kw_facts : ∀ {kws : List Keyword} {ks : List Str} {pos : Pos} {env : PySem.Env}, kwN kws = some ks → (backToKw pos (keywordEach kws env)).all (·.1.isSome) = true ∧ (backToKw pos (keywordEach kws env)).filterMap (·.1) = ks ∧ (backToKw pos (keywordEach kws env)).any (·.1.isNone) = false
  | [], ks, pos, env, h => by cases h; exact ⟨rfl, rfl, rfl⟩
  | ⟨none, _, _⟩ :: _, _, _, _, h => by cases h
  | ⟨some n, ee, q⟩ :: r, ks, pos, env, h => by
    simp only [kwN] at h
    cases q2 : kwN r with
    | none => rw [q2] at h; cases h
    | some t =>
      rw [q2] at h; cases h
      obtain ⟨h1, h2, h3⟩ := kw_facts (pos := pos) (env := env) q2
      exact ⟨h1, congrArg (n :: ·) h2, h3⟩
theorem pk_imp {e : List Keyword} {t t' : TA} (h : PK X e t) (k : ∀ σ H Q, t' σ H Q → t σ H Q) : PK X e t' := ⟨fun w pins s σ H Q I q => h.run w pins s σ H Q I (k σ H Q q)⟩
theorem ks_nil : PK X [] (TAs c ex (evA cf .nil)) := pk_imp pk_nil fun σ H Q ⟨e, d, ρ, S, s, h⟩ => by
  simp only [evA] at h
  exact h [] d H s rfl
theorem ks_cons {a b : M} {e : Expr} {nm : Option Str} {kp : Pos} {kws : List Keyword} (ha : PE X e (TAv c ex (evV cf a))) (hb : PK X kws (TAs c ex (evA cf b))) : PK X (⟨nm, e, kp⟩ :: kws) (TAs c ex (evA cf (.cons a b))) :=
  pk_imp (pk_cons ha hb) fun σ H Q ⟨e, d, ρ, S, s, h⟩ => by
    simp only [evA] at h
    refine s.tp h fun x ρ1 S1 v d1 H1 s1 r1 h1 => (s.comp s1).tp h1 fun xs ρ2 S2 vs d2 H2 s2 r2 h2 => ?_
    exact h2 _ d2 H2 ((s.comp s1).comp s2) ⟨v, vs, rfl, r1.mono s2.le0, r2⟩
/-- arguments with how many they are -/
theorem tas_len {m : M} {Q : List V → Hp → Prop} (h : TAs c ex (evA cf m) σ H Q) : TAs c ex (evA cf m) σ H fun vs H1 => vs.length = lenM m ∧ Q vs H1 := by
  obtain ⟨e, d, ρ, S, s, h⟩ := h
  refine ⟨e, d, ρ, S, s, ?_⟩
  have hh : ∀ (o : Out (List AV)), o = evA cf m ρ S → TPost c ex (fun _ d _ σ H x v => AvsR c d σ H x v) e σ o Q → TPost c ex (fun _ d _ σ H x v => AvsR c d σ H x v) e σ o fun vs H1 => vs.length = lenM m ∧ Q vs H1 := fun o eo h => by
    cases o with
    | ok l ρ1 S1 => exact fun vs d1 H1 s1 r1 => ⟨by rw [← r1.len]; exact evA_len eo.symm, h vs d1 H1 s1 r1⟩
    | exn n w ρ1 S1 => exact h
    | stuck => exact h
  exact hh _ rfl h
def kwB (ps ks : List Str) (perm : List Nat) (n : Nat) : Bool := decide (n ≤ ps.length) && (decide ((ps.take n ++ ks).Nodup) && (ks.all (fun x => decide (x ∈ ps)) && decide (pickL (ps.take n ++ ks) perm = some ps)))
theorem g_callk (o : CxOk c k ex cf X) {x : Str} {f : Nat} {ps ks : List Str} {perm : List Nat} {es : List Expr} {kws : List Keyword} {m mk : M} {p pos : Pos} (hg : glB k x = true) (hf : k.fns[f]? = some x) (hp : k.pars[f]? = some ps) (hk : kwN kws = some ks) (hb : kwB ps ks perm (lenM m) = true) (hlk : lenM mk = ks.length)
    (hx : PA X es (TAs c ex (evA cf m))) (hy : PK X kws (TAs c ex (evA cf mk))) (hs : es.all noStar = true) (h0 : es = [] → m = .nil) :
    EOk c ex X (.Call (.Name x p) es kws pos) (evE cf (.callk f perm m mk)) := by
  obtain ⟨h1, h2⟩ := gl_of o hg
  obtain ⟨a, h3, h4, h5⟩ := o.fnm f x hf
  unfold kwB at hb
  simp only [Bool.and_eq_true, decide_eq_true_eq, List.all_eq_true] at hb
  obtain ⟨b1, b2, b3, b4⟩ := hb
  obtain ⟨f1, f2, f3⟩ := kw_facts (pos := pos) (env := X.env) hk
  /- behind the places -/
  have mid : ∀ (pins : List (Addr × Obj)) (s1 : Shared) (σ : L2.St) (H1 : Hp) (us : List Value) (vs : List V) (Q : VK), Inv X pins σ H1 s1 → Vals vs us → vs.length = lenM m →
      TP c ex (fun _ d _ σ H x v => AvsR c d σ H x v) (evA cf mk) σ H1 (fun vs2 H2 => ∀ vals, pickL (vs ++ vs2) perm = some vals → SpC c ex cf f σ vals H2 Q) →
      wpAny (model X.prog X.w) X.A (evalAll ((backToKw pos (keywordEach kws X.env)).map (·.2))) (fun ws s₂ => X.K.In s₂.heap ∧ wpAny (model X.prog X.w) X.A (call (.ref a) ([] ++ us) (((backToKw pos (keywordEach kws X.env)).filterMap (·.1)).zip ws)) (EP X pins σ Q) X.xe s₂) X.xe s1 := fun pins s1 σ H1 us vs Q I1 r hl1 q => by
    refine thn (hy.run pos pins s1 σ H1 _ I1 (tas_len q)) fun ws s2 ⟨vs2, H2, I2, r2, hl2, q2⟩ => ⟨I2.kIn, ?_⟩
    rw [f2]
    have lu : us.length = lenM m := by rw [← r.length, hl1]
    have lw : ws.length = ks.length := by rw [← r2.length, hl2, hlk]
    have le : (ps.take us.length ++ ks).length = (us ++ ws).length := by rw [List.length_append, List.length_append, List.length_take, lw]; omega
    obtain ⟨vals, hv⟩ := pick_map (l' := us ++ ws) le (by rw [lu]; exact b4)
    obtain ⟨vv, hvv⟩ := pick_map (l' := vs ++ vs2) (by rw [le]; exact (r.append r2).length.symm) (by rw [lu]; exact b4)
    refine o.calls f a h3 pins s2 σ H2 vv ([] ++ us) (ks.zip ws) vals Q I2 (Vals.pick (r.append r2) hvv hv) ?_ (q2 vv hvv)
    refine ⟨ps, hp, fun fd P hd => ?_⟩
    exact bind_kw P hd lw (by rw [List.nil_append, lu]; exact b1) (by rw [List.nil_append, lu]; exact b2) b3 (by rw [List.nil_append, lu]; exact b4) hv
  refine .of_plain ⟨fun pins s σ H Q I ⟨e, d, ρ, S, sm, h⟩ => ?_⟩ (fun _ => rfl) (fun _ _ _ z => by cases z)
  simp only [evE] at h
  refine wpAny_Call_Name_kw (ld_glob I h1 h4 ?_ h2)
  have late : ∀ {e : Ent} {d : Wd} {ρ : Env} {S : Sto} {σ : L2.St} {H : Hp} {l1 : List AV} {vs : List V}, Sim c e d ρ S σ H → AvsR c d σ H l1 vs → TPost c ex (RvR c) e σ ((evA cf mk ρ S).bind fun l2 ρ S => match pickL (l1 ++ l2) perm with
      | some l => doCall cf f l ρ S
      | none => .stuck) Q → TP c ex (fun _ d _ σ H x v => AvsR c d σ H x v) (evA cf mk) σ H (fun vs2 H2 => ∀ vals, pickL (vs ++ vs2) perm = some vals → SpC c ex cf f σ vals H2 Q) := fun {e d ρ S σ H l1 vs} s r1 h => by
    refine s.tp h fun l2 ρ2 S2 vs2 d2 H2 s2 r2 h2 => fun vals hv => ?_
    split at h2
    · rename_i l hl
      exact spc_of (s.comp s2) (((r1.mono s2.le0).app r2).pick hl hv) h2
    · exact h2.elim
  cases es with
  | nil =>
    have := h0 rfl
    subst this
    simp only [evA, Out.bind_ok] at h
    refine PySem.W.callWith_KW0 (h₀ := X.base) I.ok.mod.kin h5 f1 ?_ (by rw [f3]; rfl)
    exact mid pins _ σ H [] [] Q I .nil rfl (late sm (l1 := []) rfl h)
  | cons e0 es =>
    rw [List.all_cons, Bool.and_eq_true] at hs
    refine PySem.W.callWith_KW (h₀ := X.base) I.ok.mod.kin h5 f1 ?_ (by rw [f3, star_of hs.1]; show ((false || (backTo pos (starEach es X.env)).any (·.1)) || false) = false; rw [stars_of hs.2]; rfl) (star_of hs.1)
    refine thn (hx.run pos pins _ σ H _ I (tas_len (Q := fun vs H1 => TP c ex (fun _ d _ σ H x v => AvsR c d σ H x v) (evA cf mk) σ H1 (fun vs2 H2 => ∀ vals, pickL (vs ++ vs2) perm = some vals → SpC c ex cf f σ vals H2 Q)) ?_)) fun us s1 ⟨vs, H1, I1, r, hl1, q⟩ => mid pins s1 σ H1 us vs Q I1 r hl1 q
    exact sm.tp h fun l1 ρ1 S1 vs d1 H1 s1 r1 hh => late (sm.comp s1) r1 hh
end
end NV
set_option Elab.async false
set_option linter.all false
set_option maxRecDepth 100000
set_option maxHeartbeats 1000000
/-! # What loops walk -/
namespace NV
open PySem PySem.Spec PyProof.Rows L2
section
variable {c : Cn} {k : Ck} {ex : EX} {cf : CallF} {X : Cx}
variable {e : Ent} {d d' : Wd} {ρ ρ' : Env} {S S' : Sto} {σ : L2.St} {H H' : Hp} {tg : Expr}
def ItR (c : Cn) (J : It) (ws : List W) (d : Wd) (H : Hp) : Prop := ∀ (d2 : Wd) (H2 : Hp), Le d H d2 H2 → (∀ a, d2.F a → H2 a ≠ none) → (∀ i, ws.length ≤ i → J.stop i H2) ∧
  ∀ (i : Nat) (w : W), ws[i]? = some w → J.go i H2 ∧ ∀ x H3, J.yld i H2 x H3 → ∃ N, Grow d2 H2 N H3 ∧ Rep c (d2.more N) H3 w x
def TItP (c : Cn) (ex : EX) (e : Ent) (σ : L2.St) (o : Out (List W)) (R : It → Hp → Prop) : Prop := match o with
  | .ok ws ρ' S' => ∀ J d' H', Sim c e d' ρ' S' σ H' → ItR c J ws d' H' → R J H'
  | .exn k w ρ' S' => ∀ d' H', Sim c e d' ρ' S' σ H' → ex k w d' σ H'
  | .stuck => False
def TIt (c : Cn) (ex : EX) (g : Env → Sto → Out (List W)) : TI := fun σ H R => ∃ e d ρ S, Sim c e d ρ S σ H ∧ TItP c ex e σ (g ρ S) R
theorem pi_imp {e : Expr} {t t' : TI} (h : PI X tg e t) (k : ∀ σ H R, t' σ H R → t σ H R) : PI X tg e t' := ⟨fun pins s σ H Q I q => h.run pins s σ H Q I (k σ H Q q)⟩
theorem Sim.stepI {α β : Type} {R' : Ent → Wd → Env → L2.St → Hp → α → β → Prop} (s : Sim c e d ρ S σ H) {o : Out α} {f : α → Env → Sto → Out (List W)} {Q : β → Hp → Prop} {Q' : It → Hp → Prop} (h : TItP c ex e σ (o.bind f) Q')
    (k : ∀ a ρ1 S1 b d1 H1, Sim c (NV.rb e d H ρ σ) d1 ρ1 S1 σ H1 → R' (NV.rb e d H ρ σ) d1 ρ1 σ H1 a b → TItP c ex e σ (f a ρ1 S1) Q' → Q b H1) : TPost c ex R' (NV.rb e d H ρ σ) σ o Q := by
  cases o with
  | ok a ρ1 S1 => exact fun b d1 H1 s1 r1 => k a ρ1 S1 b d1 H1 s1 r1 h
  | exn n w ρ1 S1 => exact fun d1 H1 s1 => h d1 H1 (s.comp s1)
  | stuck => exact h
theorem Sim.tpI {α β : Type} {R' : Ent → Wd → Env → L2.St → Hp → α → β → Prop} (s : Sim c e d ρ S σ H) {g : Env → Sto → Out α} {f : α → Env → Sto → Out (List W)} {Q : β → Hp → Prop} {Q' : It → Hp → Prop} (h : TItP c ex e σ ((g ρ S).bind f) Q')
    (k : ∀ a ρ1 S1 b d1 H1, Sim c (NV.rb e d H ρ σ) d1 ρ1 S1 σ H1 → R' (NV.rb e d H ρ σ) d1 ρ1 σ H1 a b → TItP c ex e σ (f a ρ1 S1) Q' → Q b H1) : TP c ex R' g σ H Q :=
  ⟨_, d, ρ, S, s.rb, s.stepI h k⟩
theorem Grow.refl : Grow d H (fun _ => False) H := ⟨fun _ _ h => h, fun _ z => z.elim⟩
/-! ### the iterators -/
theorem itr_l {a : Addr} {l : List W} {vs : List V} (hr : RepL c d H l vs) (hs : ∀ d2 H2, Le d H d2 H2 → SqL c.K H2 a vs) : ItR c (Itl c.K a) l d H := fun d2 H2 le dm => by
  refine ⟨fun i hi => ⟨vs, hs _ _ le, by rw [hr.length]; exact hi⟩, fun i w hw => ?_⟩
  obtain ⟨v, q1, q2⟩ := hr.getE hw
  refine ⟨⟨vs, v, hs _ _ le, q1⟩, fun x H3 ⟨e1, q⟩ => ?_⟩
  subst e1
  have := q vs (hs _ _ le)
  rw [q1] at this; cases this
  exact ⟨_, .refl, Rep.mono .more (Rep.mono le q2)⟩
theorem itr_t {a : Addr} {l : List W} {vs : List V} (hr : RepL c d H l vs) (hs : ∀ d2 H2, Le d H d2 H2 → SqT c.K H2 a vs) : ItR c (Itt c.K a) l d H := fun d2 H2 le dm => by
  refine ⟨fun i hi => ⟨vs, hs _ _ le, by rw [hr.length]; exact hi⟩, fun i w hw => ?_⟩
  obtain ⟨v, q1, q2⟩ := hr.getE hw
  refine ⟨⟨vs, v, hs _ _ le, q1⟩, fun x H3 ⟨e1, q⟩ => ?_⟩
  subst e1
  have := q vs (hs _ _ le)
  rw [q1] at this; cases this
  exact ⟨_, .refl, Rep.mono .more (Rep.mono le q2)⟩
theorem itr_s {z : Str} : ItR c (Its z) (z.cps.toList.map fun p => .str ⟨#[p]⟩) d H := fun d2 H2 le dm => by
  refine ⟨fun i hi => by show z.cps.size ≤ i; simpa using hi, fun i w hw => ?_⟩
  rw [List.getElem?_map] at hw
  cases q : z.cps.toList[i]? with
  | none => rw [q] at hw; cases hw
  | some p =>
    rw [q] at hw; cases hw
    have q' : z.cps[i]? = some p := by simpa using q
    have hi : i < z.cps.size := (Array.getElem?_eq_some_iff.mp q').1
    refine ⟨hi, fun x H3 ⟨e1, p', h1, h2⟩ => ?_⟩
    subst e1
    rw [q'] at h1; cases h1
    subst h2
    exact ⟨_, .refl, .strI⟩
theorem itr_r {lo : Int} {n : Nat} : ItR c (Itr lo n) ((List.range n).map fun (i : Nat) => .int (lo + i)) d H := fun d2 H2 le dm => by
  refine ⟨fun i hi => by show n ≤ i; simpa using hi, fun i w hw => ?_⟩
  have hi : i < n := by simpa using (List.getElem?_eq_some_iff.mp hw).1
  rw [List.getElem?_map, List.getElem?_range hi] at hw
  cases hw
  refine ⟨hi, fun x H3 ⟨e1, h1⟩ => ?_⟩
  subst e1 h1
  exact ⟨_, .refl, .intI⟩
theorem itr_c {lo cc : Int} {n : Nat} : ItR c (Itc lo cc n) ((List.range n).map fun (i : Nat) => .int (lo + i * cc)) d H := fun d2 H2 le dm => by
  refine ⟨fun i hi => by show n ≤ i; simpa using hi, fun i w hw => ?_⟩
  have hi : i < n := by simpa using (List.getElem?_eq_some_iff.mp hw).1
  rw [List.getElem?_map, List.getElem?_range hi] at hw
  cases hw
  refine ⟨hi, fun x H3 ⟨e1, h1⟩ => ?_⟩
  subst e1 h1
  exact ⟨_, .refl, .intI⟩
theorem enumL_at : ∀ {l : List W} {n i : Nat} {w : W}, (enumL n l)[i]? = some w → ∃ x, l[i]? = some x ∧ w = .tup [.int (n + i : Nat), x]
  | a :: r, n, 0, w, h => by cases h; exact ⟨a, rfl, rfl⟩
  | a :: r, n, i + 1, w, h => by
    obtain ⟨x, h1, h2⟩ := enumL_at (l := r) (n := n + 1) (i := i) (by simpa [enumL] using h)
    exact ⟨x, by simpa using h1, by rw [h2, show n + 1 + i = n + (i + 1) by omega]⟩
theorem enumL_len : ∀ {l : List W} {n : Nat}, (enumL n l).length = l.length
  | [], _ => rfl
  | a :: r, n => congrArg Nat.succ (enumL_len (l := r) (n := n + 1))
theorem pair_new {H2 : Hp} {d2 : Wd} {T : Addr} {w1 w2 : W} {x y : V} (hT : H2 T = none) (dm : ∀ a, d2.F a → H2 a ≠ none) (h1 : Rep c d2 H2 w1 x) (h2 : Rep c d2 H2 w2 y) : ∃ N, Grow d2 H2 N (upd H2 T (.tup [x, y])) ∧ Rep c (d2.more N) (upd H2 T (.tup [x, y])) (.tup [w1, w2]) (.ref T) := by
  refine ⟨(· = T), .one hT, ?_⟩
  simp only [Rep]
  exact ⟨T, _, rfl, .inl ⟨.inr rfl, upd_same⟩, RepL.mono ((Grow.one hT).le dm) (.cons h1 (.cons h2 .nil))⟩
theorem itr_e {a : Addr} {l : List W} {vs : List V} (hr : RepL c d H l vs) (hs : ∀ d2 H2, Le d H d2 H2 → SqL c.K H2 a vs) : ItR c (Ite c.K a) (enumL 0 l) d H := fun d2 H2 le dm => by
  refine ⟨fun i hi => ⟨vs, hs _ _ le, by rw [hr.length, ← enumL_len (n := 0)]; exact hi⟩, fun i w hw => ?_⟩
  obtain ⟨u, hu, rfl⟩ := enumL_at hw
  obtain ⟨v, q1, q2⟩ := hr.getE hu
  refine ⟨⟨vs, v, hs _ _ le, q1⟩, fun x H3 ⟨T, y, e1, e2, e3, q⟩ => ?_⟩
  have := q vs (hs _ _ le)
  rw [q1] at this; cases this
  subst e1 e3
  rw [Nat.zero_add]
  exact pair_new e2 dm .intI (Rep.mono le q2)
theorem zipL_at : ∀ {l t : List W} {i : Nat} {w : W}, (zipL l t)[i]? = some w → ∃ x y, l[i]? = some x ∧ t[i]? = some y ∧ w = .tup [x, y]
  | a :: r, b :: t, 0, w, h => by cases h; exact ⟨a, b, rfl, rfl, rfl⟩
  | a :: r, b :: t, i + 1, w, h => by
    obtain ⟨x, y, h1, h2, h3⟩ := zipL_at (l := r) (t := t) (i := i) (by simpa [zipL] using h)
    exact ⟨x, y, by simpa using h1, by simpa using h2, h3⟩
  | [], _, _, _, h => by simp [zipL] at h
  | _ :: _, [], _, _, h => by simp [zipL] at h
theorem zipL_len : ∀ {l t : List W} {i : Nat}, (zipL l t).length ≤ i → l.length ≤ i ∨ t.length ≤ i
  | [], _, i, _ => .inl (Nat.zero_le _)
  | _ :: _, [], i, _ => .inr (Nat.zero_le _)
  | a :: r, b :: t, 0, h => by simp [zipL] at h
  | a :: r, b :: t, i + 1, h => (zipL_len (l := r) (t := t) (i := i) (by simpa [zipL] using h)).imp Nat.succ_le_succ Nat.succ_le_succ
theorem itr_z {a b : Addr} {l t : List W} {vs us : List V} (hr : RepL c d H l vs) (hs : ∀ d2 H2, Le d H d2 H2 → SqL c.K H2 a vs) (hr2 : RepL c d H t us) (hs2 : ∀ d2 H2, Le d H d2 H2 → SqL c.K H2 b us) : ItR c (Itz c.K a b) (zipL l t) d H := fun d2 H2 le dm => by
  refine ⟨fun i hi => ⟨vs, us, hs _ _ le, hs2 _ _ le, by rw [hr.length, hr2.length]; exact zipL_len hi⟩, fun i w hw => ?_⟩
  obtain ⟨w1, w2, hu, hu2, rfl⟩ := zipL_at hw
  obtain ⟨v, q1, q2⟩ := hr.getE hu
  obtain ⟨v2, q3, q4⟩ := hr2.getE hu2
  refine ⟨⟨vs, us, v, v2, hs _ _ le, hs2 _ _ le, q1, q3⟩, fun x H3 ⟨T, y, y2, e1, e2, e3, q, q'⟩ => ?_⟩
  have := q vs (hs _ _ le)
  rw [q1] at this; cases this
  have := q' us (hs2 _ _ le)
  rw [q3] at this; cases this
  subst e1 e3
  exact pair_new e2 dm (Rep.mono le q2) (Rep.mono le q4)
theorem itr_zT {a b : Addr} {l t : List W} {vs us : List V} (hr : RepL c d H l vs) (hs : ∀ d2 H2, Le d H d2 H2 → SqT c.K H2 a vs) (hr2 : RepL c d H t us) (hs2 : ∀ d2 H2, Le d H d2 H2 → SqT c.K H2 b us) : ItR c (RZ.ItzT c.K a b) (zipL l t) d H := fun d2 H2 le dm => by
  refine ⟨fun i hi => ⟨vs, us, hs _ _ le, hs2 _ _ le, by rw [hr.length, hr2.length]; exact zipL_len hi⟩, fun i w hw => ?_⟩
  obtain ⟨w1, w2, hu, hu2, rfl⟩ := zipL_at hw
  obtain ⟨v, q1, q2⟩ := hr.getE hu
  obtain ⟨v2, q3, q4⟩ := hr2.getE hu2
  refine ⟨⟨vs, us, v, v2, hs _ _ le, hs2 _ _ le, q1, q3⟩, fun x H3 ⟨T, y, y2, e1, e2, e3, q, q'⟩ => ?_⟩
  have := q vs (hs _ _ le)
  rw [q1] at this; cases this
  have := q' us (hs2 _ _ le)
  rw [q3] at this; cases this
  subst e1 e3
  exact pair_new e2 dm (Rep.mono le q2) (Rep.mono le q4)
/-! ### settled lists, tuples stay -/
theorem Rep.lstS {l : List W} {v : V} (h : Rep c d H (.lst l) v) : ∃ a vs, v = .ref a ∧ RepL c d H l vs ∧ ∀ d2 H2, Le d H d2 H2 → SqL c.K H2 a vs := by
  simp only [Rep] at h
  obtain ⟨a, vs, e, h1, h2, h3⟩ := h
  exact ⟨a, vs, e, h3, fun d2 H2 le => .of (by rw [(le.f a h1).2]; exact h2)⟩
theorem Rep.flstS {l : List W} {v : V} (h : Rep c d H (.flst l) v) : ∃ a vs, v = .ref a ∧ RepL c d H l vs ∧ ∀ d2 H2, Le d H d2 H2 → SqL c.K H2 a vs := by
  have h0 := h
  simp only [Rep] at h
  obtain ⟨a, vs, e, h1, h3⟩ := h
  refine ⟨a, vs, e, h3, fun d2 H2 le => ?_⟩
  rcases h1 with ⟨h1, o, h2⟩ | h1
  · exact .inl (.inr ⟨o, by rw [(le.f a h1).2]; exact h2⟩)
  · exact h1.sq H2
theorem Rep.tupS {l : List W} {v : V} (h : Rep c d H (.tup l) v) : ∃ a vs, v = .ref a ∧ RepL c d H l vs ∧ ∀ d2 H2, Le d H d2 H2 → SqT c.K H2 a vs := by
  simp only [Rep] at h
  obtain ⟨a, vs, e, h1, h3⟩ := h
  refine ⟨a, vs, e, h3, fun d2 H2 le => ?_⟩
  rcases h1 with ⟨h1, h2⟩ | h1
  · exact .inl (.inl (by rw [(le.f a h1).2]; exact h2))
  · exact h1.sq H2
/-! ### the written forms -/
/-- a list, a tuple, a text -/
def iAny (K : PySem.W.Frag) (te : TE) : TI := fun σ H R => te σ H fun x H1 => (∃ a, x = .ref a ∧ (∃ xs, SqL K H1 a xs) ∧ R (Itl K a) H1) ∨ (∃ a, x = .ref a ∧ (∃ xs, SqT K H1 a xs) ∧ R (Itt K a) H1) ∨ ∃ z, x = .str z ∧ R (Its z) H1
theorem pi_any {e : Expr} {te : TE} (he : PE X e te) : PI X tg e (iAny X.K te) := by
  refine ⟨fun pins s σ H R I h => ?_⟩
  refine thn (he.run pins s σ H _ I h) fun v s1 ⟨x, H1, I1, r1, q1⟩ => ?_
  rcases q1 with ⟨a, e, ⟨xs, hq⟩, q⟩ | ⟨a, e, ⟨xs, hq⟩, q⟩ | ⟨z, e, q⟩
  · subst e
    cases r1
    obtain ⟨its, rv, p, hz⟩ := I1.list hq
    refine wpAny_pyIter_list p.isList ?_
    refine ⟨s1.heap.objs.size, [s1.heap.objs.size], _, _, H1, rfl, I1.kept (t' := s1.toks) fun b o e => Heap.get?_push_of_some _ e, turn_list a _, ⟨_, Heap.get?_push_size _ rfl, rfl, rfl⟩, fun b hb => ?_, q⟩
    have e : b = s1.heap.objs.size := by simpa using hb
    subst e
    exact I1.fpOk (Nat.le_refl _) (I1.hok.fresh (Nat.le_refl _))
  · subst e
    cases r1
    obtain ⟨its, rv, p, hz⟩ := I1.tuple hq
    refine wpAny_pyIter_tuple (show s1.heap.IsTuple a its.toArray from p) ?_
    refine ⟨s1.heap.objs.size, [s1.heap.objs.size], _, _, H1, rfl, I1.kept (t' := s1.toks) fun b o e => Heap.get?_push_of_some _ e, turn_tuple a _, ⟨_, Heap.get?_push_size _ rfl, rfl, rfl⟩, fun b hb => ?_, q⟩
    have e : b = s1.heap.objs.size := by simpa using hb
    subst e
    exact I1.fpOk (Nat.le_refl _) (I1.hok.fresh (Nat.le_refl _))
  · subst e
    obtain ⟨t, rfl⟩ := r1
    cases ha : z.cps.all (· < 128)
    · exact wpAny_pyIter_wide ha (pi_one (tk := s1.toks) I1 _ (turn_str _ z t "str_iterator" (.inr rfl)) ⟨_, Heap.get?_push_size _ rfl, rfl, rfl⟩ q)
    · exact wpAny_pyIter_ascii ha (pi_one (tk := s1.toks) I1 _ (turn_str _ z t "str_ascii_iterator" (.inl rfl)) ⟨_, Heap.get?_push_size _ rfl, rfl, rfl⟩ q)
theorem g_seq (o : CxOk c k ex cf X) {a : Expr} {m : M} (ha : EOk c ex X a (evE cf m)) : PI X tg a (TIt c ex (evI cf (.seq m))) := pi_imp (pi_any ha.pe) fun σ H R ⟨e, d, ρ, S, s, h⟩ => by
  simp only [evI] at h
  refine s.tpI h fun r ρ1 S1 v d1 H1 s1 r1 h1 => ?_
  obtain ⟨d2, s2, le, r2⟩ := (s.comp s1).frz (r1.up s)
  rw [o.K]
  cases hr : r.frz <;> rw [hr] at h1 r2 <;> first | exact h1.elim | skip
  · rename_i z
    have r2 : v = .str z := by simpa only [Rep] using r2
    exact .inr (.inr ⟨z, r2, h1 _ d2 H1 s2 itr_s⟩)
  · obtain ⟨a, vs, rfl, q1, q2⟩ := r2.tupS
    exact .inr (.inl ⟨a, rfl, ⟨vs, q2 _ _ .refl⟩, h1 _ d2 H1 s2 (itr_t q1 q2)⟩)
  · obtain ⟨a, vs, rfl, q1, q2⟩ := r2.lstS
    exact .inl ⟨a, rfl, ⟨vs, q2 _ _ .refl⟩, h1 _ d2 H1 s2 (itr_l q1 q2)⟩
  · obtain ⟨a, vs, rfl, q1, q2⟩ := r2.flstS
    exact .inl ⟨a, rfl, ⟨vs, q2 _ _ .refl⟩, h1 _ d2 H1 s2 (itr_l q1 q2)⟩
theorem starsEq : ∀ {es : List Expr} {env : PySem.Env}, es.all noStar = true → starEach es env = es.map fun e => (false, eval e env)
  | [], _, _ => rfl
  | e :: es, env, h => by
    rw [List.all_cons, Bool.and_eq_true] at h
    rw [star_of h.1, starsEq h.2]; rfl
theorem RepL.tail1 {w : W} {r : List W} {vs : List V} (h : RepL c d H (w :: r) vs) : ∃ v t, vs = v :: t ∧ Rep c d H w v ∧ RepL c d H r t := h
theorem rng_key {m : M} {n : Nat} (hl : lenM m = n) {R : It → Hp → Prop} {P : List V → Hp → Prop} (h : TIt c ex (evI cf (.rng m)) σ H R)
    (kk : ∀ d ws vs H, RepL c d H ws vs → ws.length = n → ∀ r, rngL ws = some r → (∀ J, ItR c J r d H → R J H) → P vs H) : TAs c ex (evA cf m) σ H P := by
  obtain ⟨e, d, ρ, S, s, h⟩ := h
  simp only [evI] at h
  refine ⟨_, d, ρ, S, s.rb, ?_⟩
  cases q : evA cf m ρ S with
  | stuck => rw [q] at h; exact h
  | exn n w ρ1 S1 => rw [q] at h; exact fun d1 H1 s1 => h d1 H1 (s.comp s1)
  | ok l ρ1 S1 =>
    rw [q, Out.bind_ok] at h
    intro vs d1 H1 s1 r1
    cases q2 : vals l with
    | none => rw [q2] at h; exact h.elim
    | some ws =>
      rw [q2] at h
      have rr := vals_rep r1 q2
      have hlen : ws.length = n := by rw [← rr.length, ← r1.len, evA_len q, hl]
      show P vs H1
      cases q3 : rngL ws with
      | none => simp only [q3] at h; exact h.elim
      | some r =>
        simp only [q3] at h
        exact kk d1 ws vs H1 rr hlen r q3 fun J hJ => h J d1 H1 (s.comp s1) hJ
theorem g_rng1 (o : CxOk c k ex cf X) {a : Expr} {m : M} {p pos : Pos} (hg : glB k "range" = true) (hf : ("range" : Str) ∈ k.free) (hx : PA X [a] (TAs c ex (evA cf m))) (hs : [a].all noStar = true) (hl : lenM m = 1) :
    PI X tg (.Call (.Name "range" p) [a] [] pos) (TIt c ex (evI cf (.rng m))) := by
  obtain ⟨h1, h2⟩ := gl_of o hg
  refine pi_imp (pi_range1 h1 (o.free _ hf) hx (starsEq hs)) fun σ H R h => rng_key hl h fun d ws vs H1 rr hlen r hr kk => ?_
  match ws, hlen with
  | [w], hl1 =>
    obtain ⟨v, t, rfl, v1, v2⟩ := rr.tail1
    have v2 : t = [] := v2
    subst v2
    cases w <;> first | (cases hr; done) | skip
    rename_i n
    simp only [rngL] at hr
    split at hr
    · rename_i hz
      cases hr
      rw [Bool.and_eq_true, decide_eq_true_eq, decide_eq_true_eq] at hz
      have v1 : v = .int n := by simpa only [Rep] using v1
      refine ⟨n, by rw [v1], hz.1, hz.2, kk _ ?_⟩
      have := itr_r (c := c) (d := d) (H := H1) (lo := 0) (n := n.toNat)
      simpa using this
    · cases hr
theorem g_rng2 (o : CxOk c k ex cf X) {a b : Expr} {m : M} {p pos : Pos} (hg : glB k "range" = true) (hf : ("range" : Str) ∈ k.free) (hx : PA X [a, b] (TAs c ex (evA cf m))) (hs : [a, b].all noStar = true) (hl : lenM m = 2) :
    PI X tg (.Call (.Name "range" p) [a, b] [] pos) (TIt c ex (evI cf (.rng m))) := by
  obtain ⟨h1, h2⟩ := gl_of o hg
  rw [List.all_cons, Bool.and_eq_true] at hs
  refine pi_imp (pi_range2 h1 (o.free _ hf) hx (by rw [star_of hs.1, starsEq hs.2]; rfl) (starsEq hs.2)) fun σ H R h => rng_key hl h fun d ws vs H1 rr hlen r hr kk => ?_
  match ws, hlen with
  | [w, w2], hl1 =>
    obtain ⟨v, t, rfl, v1, v2⟩ := rr.tail1
    obtain ⟨v', t', rfl, v1', v2'⟩ := v2.tail1
    have v2' : t' = [] := v2'
    subst v2'
    cases w <;> first | (cases hr; done) | skip
    cases w2 <;> first | (cases hr; done) | skip
    rename_i m n
    simp only [rngL] at hr
    split at hr
    · rename_i hz
      cases hr
      simp only [Bool.and_eq_true, decide_eq_true_eq] at hz
      have v1 : v = .int m := by simpa only [Rep] using v1
      have v1' : v' = .int n := by simpa only [Rep] using v1'
      exact ⟨m, n, by rw [v1, v1'], ⟨hz.1.1, hz.1.2, hz.2.1, hz.2.2⟩, kk _ itr_r⟩
    · cases hr
theorem g_rng3 (o : CxOk c k ex cf X) {a b z : Expr} {m : M} {p pos : Pos} (hg : glB k "range" = true) (hf : ("range" : Str) ∈ k.free) (hx : PA X [a, b, z] (TAs c ex (evA cf m))) (hs : [a, b, z].all noStar = true) (hl : lenM m = 3) :
    PI X tg (.Call (.Name "range" p) [a, b, z] [] pos) (TIt c ex (evI cf (.rng m))) := by
  obtain ⟨h1, h2⟩ := gl_of o hg
  rw [List.all_cons, Bool.and_eq_true] at hs
  refine pi_imp (pi_range3 h1 (o.free _ hf) hx (star_of hs.1) (stars_of hs.2)) fun σ H R h => rng_key hl h fun d ws vs H1 rr hlen r hr kk => ?_
  match ws, hlen with
  | [w, w2, w3], hl1 =>
    obtain ⟨v, t, rfl, v1, v2⟩ := rr.tail1
    obtain ⟨v', t', rfl, v1', v2'⟩ := v2.tail1
    obtain ⟨v'', t'', rfl, v1'', v2''⟩ := v2'.tail1
    have v2'' : t'' = [] := v2''
    subst v2''
    cases w <;> first | (cases hr; done) | skip
    cases w2 <;> first | (cases hr; done) | skip
    cases w3 <;> first | (cases hr; done) | skip
    rename_i m n q
    simp only [rngL] at hr
    split at hr
    · rename_i hz
      cases hr
      simp only [Bool.and_eq_true, decide_eq_true_eq] at hz
      have v1 : v = .int m := by simpa only [Rep] using v1
      have v1' : v' = .int n := by simpa only [Rep] using v1'
      have v1'' : v'' = .int q := by simpa only [Rep] using v1''
      exact ⟨m, n, q, _, by rw [v1, v1', v1''], ⟨hz.1.1, hz.1.2, hz.2.1, (Int.toNat_of_nonneg hz.2.2).symm⟩, kk _ itr_c⟩
    · cases hr
theorem vals_key {m : M} {mi : M} {f : List W → Option (List W)} {n : Nat} (hl : lenM m = n) (hm : ∀ ρ S, evI cf mi ρ S = (evA cf m ρ S).bind fun l ρ S => match (vals l).bind f with
      | some r => .ok r ρ S
      | none => .stuck) {R : It → Hp → Prop} {P : List V → Hp → Prop} (h : TIt c ex (evI cf mi) σ H R)
    (kk : ∀ d ws vs H, RepL c d H ws vs → ws.length = n → ∀ r, f ws = some r → (∀ J, ItR c J r d H → R J H) → P vs H) : TAs c ex (evA cf m) σ H P := by
  obtain ⟨e, d, ρ, S, s, h⟩ := h
  rw [hm] at h
  refine ⟨_, d, ρ, S, s.rb, ?_⟩
  cases q : evA cf m ρ S with
  | stuck => rw [q] at h; exact h
  | exn n w ρ1 S1 => rw [q] at h; exact fun d1 H1 s1 => h d1 H1 (s.comp s1)
  | ok l ρ1 S1 =>
    rw [q, Out.bind_ok] at h
    intro vs d1 H1 s1 r1
    cases q2 : vals l with
    | none => rw [q2] at h; exact h.elim
    | some ws =>
      rw [q2, Option.bind_some] at h
      have rr := vals_rep r1 q2
      have hlen : ws.length = n := by rw [← rr.length, ← r1.len, evA_len q, hl]
      show P vs H1
      cases q3 : f ws with
      | none => simp only [q3] at h; exact h.elim
      | some r =>
        simp only [q3] at h
        exact kk d1 ws vs H1 rr hlen r q3 fun J hJ => h J d1 H1 (s.comp s1) hJ
def enumW : List W → Option (List W)
  | [.lst l] => some (enumL 0 l)
  | [.flst l] => some (enumL 0 l)
  | _ => none
def zipWW : List W → Option (List W)
  | [a, b] => zipW a b
  | _ => none
theorem g_enum (o : CxOk c k ex cf X) {a : Expr} {m : M} {p pos tpos : Pos} {elts : List Expr} {kk : Nat} (hg : glB k "enumerate" = true) (hf : ("enumerate" : Str) ∈ k.free) (hx : PA X [a] (TAs c ex (evA cf m))) (hs : [a].all noStar = true) (hl : lenM m = 1) :
    PI X (.Tuple elts kk tpos) (.Call (.Name "enumerate" p) [a] [] pos) (TIt c ex (evI cf (.enum m))) := by
  obtain ⟨h1, h2⟩ := gl_of o hg
  refine pi_imp (pi_enum h1 (o.free _ hf) hx (starsEq hs)) fun σ H R h => vals_key (f := enumW) hl (fun ρ S => ?_) h fun d ws vs H1 rr hlen r hr kk => ?_
  · simp only [evI]
    congr 1
    funext l ρ S
    cases vals l with
    | none => rfl
    | some ws =>
      rw [Option.bind_some]
      unfold enumW
      split <;> (try rfl)
      · rename_i h; cases h; rfl
      · rename_i h; cases h; rfl
      · rename_i h1 h2
        split
        · rename_i hh; split at hh
          · exact absurd rfl (h1 _)
          · exact absurd rfl (h2 _)
          · cases hh
        · rfl
  · rw [o.K]
    unfold enumW at hr
    split at hr
    · cases hr
      obtain ⟨v, t, rfl, v1, v2⟩ := rr.tail1
      have v2 : t = [] := v2
      subst v2
      obtain ⟨a, us, rfl, q1, q2⟩ := v1.lstS
      exact ⟨a, us, rfl, q2 _ _ .refl, kk _ (itr_e q1 q2)⟩
    · cases hr
      obtain ⟨v, t, rfl, v1, v2⟩ := rr.tail1
      have v2 : t = [] := v2
      subst v2
      obtain ⟨a, us, rfl, q1, q2⟩ := v1.flstS
      exact ⟨a, us, rfl, q2 _ _ .refl, kk _ (itr_e q1 q2)⟩
    · cases hr
theorem g_zip (o : CxOk c k ex cf X) {a b : Expr} {m : M} {p pos tpos : Pos} {elts : List Expr} {kk : Nat} (hg : glB k "zip" = true) (hf : ("zip" : Str) ∈ k.free) (hx : PA X [a, b] (TAs c ex (evA cf m))) (hs : [a, b].all noStar = true) (hl : lenM m = 2) :
    PI X (.Tuple elts kk tpos) (.Call (.Name "zip" p) [a, b] [] pos) (TIt c ex (evI cf (.zip m))) := by
  obtain ⟨h1, h2⟩ := gl_of o hg
  rw [List.all_cons, Bool.and_eq_true] at hs
  refine pi_imp (RZ.pi_zipA h1 (o.free _ hf) hx (star_of hs.1) (stars_of hs.2)) fun σ H R h => vals_key (f := zipWW) hl (fun ρ S => ?_) h fun d ws vs H1 rr hlen r hr kk => ?_
  · simp only [evI]
    congr 1
    funext l ρ S
    cases vals l with
    | none => rfl
    | some ws =>
      rw [Option.bind_some]
      unfold zipWW
      split
      · rename_i h; cases h; rfl
      · rename_i h1
        split
        · rename_i hh; split at hh
          · exact absurd rfl (h1 _ _)
          · cases hh
        · rfl
  · rw [o.K]
    match ws, hlen with
    | [w1, w2], hl1 =>
      obtain ⟨v, t, rfl, v1, v2⟩ := rr.tail1
      obtain ⟨v', t', rfl, v1', v2'⟩ := v2.tail1
      have v2' : t' = [] := v2'
      subst v2'
      simp only [zipWW] at hr
      unfold zipW at hr
      split at hr
      · cases hr
        obtain ⟨a, us, rfl, q1, q2⟩ := v1.lstS
        obtain ⟨b, ys, rfl, q3, q4⟩ := v1'.lstS
        exact ⟨a, b, us, ys, rfl, .inl ⟨q2 _ _ .refl, q4 _ _ .refl, kk _ (itr_z q1 q2 q3 q4)⟩⟩
      · cases hr
        obtain ⟨a, us, rfl, q1, q2⟩ := v1.tupS
        obtain ⟨b, ys, rfl, q3, q4⟩ := v1'.tupS
        exact ⟨a, b, us, ys, rfl, .inr ⟨q2 _ _ .refl, q4 _ _ .refl, kk _ (itr_zT q1 q2 q3 q4)⟩⟩
      · cases hr
end
end NV
set_option Elab.async false
set_option linter.all false
set_option maxRecDepth 100000
set_option maxHeartbeats 1000000
/-! # Targets, comprehensions -/
namespace NV
open PySem PySem.Spec PyProof.Rows L2
section
variable {c : Cn} {k : Ck} {ex exB : EX} {cf : CallF} {X : Cx}
variable {e : Ent} {d d' : Wd} {ρ ρ' : Env} {S S' : Sto} {σ : L2.St} {H H' : Hp} {tg : Expr}
theorem freeS_len {i : Nat} (h : freeS ρ i = true) : i < ρ.length := by
  unfold freeS at h
  rw [Bool.and_eq_true, decide_eq_true_eq] at h
  exact h.1
theorem freeS_own {i : Nat} {l : Bool × List W} (h : freeS ρ i = true) (q : ρ[i]? = some (some (.own l))) : l.1 = false := by
  unfold freeS at h
  rw [Bool.and_eq_true, sget_iff.mpr q] at h
  simpa using h.2
/-- a slot given a value -/
theorem Sim.put (s : Sim c e d ρ S σ H) {i : Nat} {sv : SV} {v : V} (hf : freeS ρ i = true) (hv : SvR c d H sv v) (ho : ∀ l, sv = .own l → ∀ a, v = .ref a → (e.B a ∨ e.H a = none) ∧ ¬ owns ρ σ a) :
    Sim c e d (ρ.set i (some sv)) S (σ.set i (some v)) H := by
  have hi := freeS_len hf
  have hi2 : i < σ.length := by rw [← s.len]; exact hi
  have back : ∀ j b, ownAt (ρ.set i (some sv)) (σ.set i (some v)) j b → (j ≠ i ∧ ownAt ρ σ j b) ∨ (j = i ∧ (∃ l, sv = .own l) ∧ v = .ref b) := fun j b ⟨⟨k, z⟩, z2⟩ => by
    by_cases hj : j = i
    · subst hj
      rw [List.getElem?_set_self hi] at z
      rw [List.getElem?_set_self hi2] at z2
      cases z; cases z2
      exact .inr ⟨rfl, ⟨_, rfl⟩, rfl⟩
    · rw [List.getElem?_set_ne (Ne.symm hj)] at z z2
      exact .inl ⟨hj, ⟨k, z⟩, z2⟩
  exact {
    le0 := s.le0
    dom := s.dom
    fr := s.fr
    new := s.new
    mun := s.mun
    dm := s.dm
    mlen := s.mlen
    nodup := s.nodup
    cell := s.cell
    len := by rw [List.length_set, List.length_set]; exact s.len
    slot := fun j sv' q => by
      by_cases hj : j = i
      · subst hj
        rw [List.getElem?_set_self hi] at q
        cases q
        exact ⟨v, by rw [List.getElem?_set_self hi2], hv⟩
      · rw [List.getElem?_set_ne (Ne.symm hj)] at q ⊢
        exact s.slot j sv' q
    own := fun j b hb => by
      rcases back j b hb with ⟨_, z⟩ | ⟨_, ⟨l, z⟩, z2⟩
      · exact s.own j b z
      · exact (ho l z b z2).1
    inj := fun j j' b h1 h2 => by
      rcases back j b h1 with ⟨n1, z⟩ | ⟨n1, ⟨l, z⟩, z2⟩ <;> rcases back j' b h2 with ⟨n1', z'⟩ | ⟨n1', ⟨l', z'⟩, z2'⟩
      · exact s.inj j j' b z z'
      · exact absurd ⟨j, z⟩ (ho l' z' b z2').2
      · exact absurd ⟨j', z'⟩ (ho l z b z2).2
      · rw [n1, n1']
    par := fun p hp => by
      obtain ⟨q1, l, q2⟩ := s.par p hp
      have hj : p.1 ≠ i := fun hj => by
        subst hj
        have := freeS_own hf q2
        cases this
      rw [List.getElem?_set_ne (Ne.symm hj), List.getElem?_set_ne (Ne.symm hj)]
      exact ⟨q1, l, q2⟩ }
theorem Sim.putV (s : Sim c e d ρ S σ H) {i : Nat} {w : W} {v : V} (hf : freeS ρ i = true) (hv : Rep c d H w v) : Sim c e d (ρ.set i (some (.val w))) S (σ.set i (some v)) H ∧ ∀ a, owns (ρ.set i (some (.val w))) (σ.set i (some v)) a → owns ρ σ a := by
  refine ⟨s.put hf hv (fun l z => by cases z), fun a ⟨j, ⟨k, z⟩, z2⟩ => ?_⟩
  have hi := freeS_len hf
  by_cases hj : j = i
  · subst hj; rw [List.getElem?_set_self hi] at z; cases z
  · rw [List.getElem?_set_ne (Ne.symm hj)] at z z2
    exact ⟨j, ⟨k, z⟩, z2⟩

/-! ### targets -/
def slotsT : M → List Nat
  | .tnm i => [i]
  | .ttup ts => slotsT ts
  | .cons a b => slotsT a ++ slotsT b
  | _ => []
def TGt (c : Cn) (m : M) : TG := fun v σ H Q => ∃ e d ρ S w, Sim c e d ρ S σ H ∧ Rep c d H w v ∧ ∃ ρ', asgT m w ρ = some ρ' ∧
  ∀ σ', Sim c e d ρ' S σ' H → (∀ vs, (∀ i ∈ slotsT m, i ∈ vs) → wipe σ' vs = wipe σ vs) → (∀ a, owns ρ' σ' a → owns ρ σ a) → Q σ' H
def TGts (c : Cn) (m : M) : TGs := fun us σ H Q => ∃ e d ρ S ws, Sim c e d ρ S σ H ∧ RepL c d H ws us ∧ ∃ ρ', asgT.asgTs m ws ρ = some ρ' ∧
  ∀ σ', Sim c e d ρ' S σ' H → (∀ vs, (∀ i ∈ slotsT m, i ∈ vs) → wipe σ' vs = wipe σ vs) → (∀ a, owns ρ' σ' a → owns ρ σ a) → Q σ' H
theorem pg_imp {e : Expr} {t t' : TG} (h : PG X e t) (k : ∀ v σ H Q, t' v σ H Q → t v σ H Q) : PG X e t' := ⟨fun pins s σ H v u Q I r q => h.run pins s σ H v u Q I r (k v σ H Q q)⟩
theorem pgs_imp {e : List Expr} {t t' : TGs} (h : PGs X e t) (k : ∀ v σ H Q, t' v σ H Q → t v σ H Q) : PGs X e t' := ⟨fun pins s σ H v u Q I r q => h.run pins s σ H v u Q I r (k v σ H Q q)⟩
theorem wipe_set {i : Nat} {v : Option V} : ∀ {vs : List Nat} {σ : L2.St}, i ∈ vs → wipe (σ.set i v) vs = wipe σ vs
  | j :: vs, σ, h => by
    unfold wipe
    by_cases hi : i ∈ vs
    · rw [wipe_set hi]
    · rcases List.mem_cons.mp h with z | z
      · subst z
        have : ∀ {us : List Nat} {τ : L2.St}, i ∉ us → wipe (τ.set i v) us = (wipe τ us).set i v := fun {us} => by
          induction us with
          | nil => intro τ _; rfl
          | cons a us ih =>
            intro τ hn
            unfold wipe
            rw [ih fun z => hn (List.mem_cons_of_mem _ z), List.set_comm]
            intro z; subst z; exact hn (List.mem_cons_self ..)
        rw [this hi, List.set_set]
      · exact absurd z hi
def asgB (k : Ck) (i : Nat) (x : Str) : Bool := decide (k.N[i]? = some x) && (decide (k.sc.names.lookup x = some .local) || (k.top && decide (k.sc.names.lookup x = some .cell)))
theorem asg_loc (o : CxOk c k ex cf X) {i : Nat} {x : Str} (h : asgB k i x = true) : X.N[i]? = some x ∧ L2.Loc X.env.scope x ∧ (X.fn x = true ∨ X.env.scope.names.lookup x = some .local) := by
  unfold asgB at h
  rw [Bool.and_eq_true, decide_eq_true_eq, Bool.or_eq_true, decide_eq_true_eq, Bool.and_eq_true, decide_eq_true_eq] at h
  refine ⟨by rw [o.N]; exact h.1, ?_⟩
  unfold L2.Loc
  rw [o.sc]
  rcases h.2 with q | ⟨q1, q2⟩
  · exact ⟨.inl q, .inr q⟩
  · exact ⟨.inr q2, .inl (o.fnt q1 x)⟩
theorem tg_nm (o : CxOk c k ex cf X) {i : Nat} {x : Str} {pos : Pos} (h : asgB k i x = true) : PG X (.Name x pos) (TGt c (.tnm i)) := by
  obtain ⟨h1, h2, h3⟩ := asg_loc o h
  refine pg_imp (pg_name o.nd h1 h2 h3) fun v σ H Q ⟨e, d, ρ, S, w, s, r, ρ', q, kk⟩ => ?_
  simp only [asgT, putT] at q
  split at q
  · rename_i hf
    cases q
    obtain ⟨s2, ho⟩ := s.putV hf r
    exact kk _ s2 (fun vs hv => wipe_set (hv i (List.mem_cons_self ..))) ho
  · cases q
theorem tgs_nil : PGs X [] (TGts c .nil) := pgs_imp pgs_nil fun vs σ H Q ⟨e, d, ρ, S, ws, s, r, ρ', q, kk⟩ => by
  cases ws with
  | nil =>
    have r : vs = [] := r
    cases q
    exact ⟨r, kk σ s (fun _ _ => rfl) fun _ z => z⟩
  | cons w ws => cases q
def isTgt : Expr → Bool
  | .Name _ _ => true
  | .Tuple _ _ _ => true
  | _ => false
theorem asgEach {e : Expr} {es : List Expr} {env : PySem.Env} (h : isTgt e = true) : assignEach (e :: es) env = (false, assign e env) :: assignEach es env := by
  cases e <;> first | rfl | cases h
theorem tgs_cons {e : Expr} {es : List Expr} {a b : M} (ha : PG X e (TGt c a)) (hb : PGs X es (TGts c b)) (ht : isTgt e = true) : PGs X (e :: es) (TGts c (.cons a b)) :=
  pgs_imp (pgs_cons ha hb (by rw [asgEach ht]; rfl)) fun vs σ H Q ⟨e, d, ρ, S, ws, s, r, ρ', q, kk⟩ => by
    cases ws with
    | nil => cases q
    | cons w ws =>
      simp only [asgT.asgTs] at q
      split at q
      · rename_i ρ1 q1
        obtain ⟨v, t, rfl, r1, r2⟩ := r.tail1
        refine ⟨v, t, rfl, e, d, ρ, S, w, s, r1, ρ1, q1, fun σ1 s1 hw1 ho1 => ?_⟩
        refine ⟨e, d, ρ1, S, ws, s1, r2, ρ', q, fun σ2 s2 hw2 ho2 => ?_⟩
        exact kk σ2 s2 (fun vs hv => (hw2 vs fun i hi => hv i (List.mem_append_right _ hi)).trans (hw1 vs fun i hi => hv i (List.mem_append_left _ hi))) fun a z => ho1 a (ho2 a z)
      · cases q
theorem asgEach_len {es : List Expr} {env : PySem.Env} (h : es.all isTgt = true) : (assignEach es env).length = es.length ∧ (assignEach es env).findIdx? (·.1) = none := by
  induction es with
  | nil => exact ⟨rfl, rfl⟩
  | cons e es ih =>
    rw [List.all_cons, Bool.and_eq_true] at h
    obtain ⟨h1, h2⟩ := ih h.2
    rw [asgEach h.1]
    refine ⟨congrArg Nat.succ h1, ?_⟩
    rw [List.findIdx?_cons]
    simp [h2]
theorem tg_tup (o : CxOk c k ex cf X) {es : List Expr} {m : M} {j : Nat} {pos : Pos} (h : PGs X es (TGts c m)) (ht : es.all isTgt = true) (hl : lenM m = es.length) : PG X (.Tuple es j pos) (TGt c (.ttup m)) := by
  obtain ⟨h1, h2⟩ := asgEach_len (env := X.env) ht
  refine pg_imp (pg_tup o.calm h h1 h2) fun v σ H Q ⟨e, d, ρ, S, w, s, r, ρ', q, kk⟩ => ?_
  cases w <;> first | (simp only [asgT] at q; cases q; done) | skip
  rename_i ws
  simp only [asgT] at q
  obtain ⟨a, us, rfl, r1, r2⟩ := r.tupS
  rw [o.K]
  refine ⟨a, us, rfl, r2 _ _ .refl, ?_, e, d, ρ, S, ws, s, r1, ρ', q, kk⟩
  rw [r1.length, ← hl]
  have : ∀ {m : M} {ws : List W} {ρ ρ' : Env}, asgT.asgTs m ws ρ = some ρ' → ws.length = lenM m := fun {m} => by
    induction m with
    | nil => intro ws ρ ρ' q; cases ws with
      | nil => rfl
      | cons w ws => cases q
    | cons a b _ ih =>
      intro ws ρ ρ' q
      cases ws with
      | nil => cases q
      | cons w ws =>
        simp only [asgT.asgTs] at q
        split at q
        · exact congrArg Nat.succ (ih q)
        · cases q
    | _ => intro ws ρ ρ' q; cases ws <;> cases q
  exact this q

/-! ### comprehensions -/
theorem wipeE_len : ∀ (vs : List Nat), (wipeE ρ vs).length = ρ.length
  | [] => rfl
  | v :: vs => by unfold wipeE; rw [List.length_set, wipeE_len vs]
theorem wipeE_some {i : Nat} {x : SV} : ∀ {vs : List Nat}, (wipeE ρ vs)[i]? = some (some x) → ρ[i]? = some (some x) ∧ i ∉ vs
  | [], h => ⟨h, by simp⟩
  | v :: vs, h => by
    unfold wipeE at h
    by_cases hi : v = i
    · subst hi
      by_cases hl : v < (wipeE ρ vs).length
      · rw [List.getElem?_set_self hl] at h; cases h
      · rw [List.getElem?_eq_none (by rw [List.length_set]; omega)] at h; cases h
    · rw [List.getElem?_set_ne hi] at h
      obtain ⟨h1, h2⟩ := wipeE_some h
      exact ⟨h1, fun z => by
        rcases List.mem_cons.mp z with z | z
        · exact hi z.symm
        · exact h2 z⟩
theorem wipeE_out {i : Nat} : ∀ {vs : List Nat}, i ∉ vs → (wipeE ρ vs)[i]? = ρ[i]?
  | [], _ => rfl
  | v :: vs, h => by
    have h1 : v ≠ i := fun e => h (by rw [e]; exact List.mem_cons_self)
    unfold wipeE
    rw [List.getElem?_set_ne h1, wipeE_out fun m => h (List.mem_cons_of_mem _ m)]
theorem Sim.wipe (s : Sim c e d ρ S σ H) {vs : List Nat} (hp : ∀ p ∈ e.P, p.1 ∉ vs) : Sim c e d (wipeE ρ vs) S (L2.wipe σ vs) H := by
  have back : ∀ j b, ownAt (wipeE ρ vs) (L2.wipe σ vs) j b → ownAt ρ σ j b := fun j b ⟨⟨k, z⟩, z2⟩ => ⟨⟨k, (wipeE_some z).1⟩, (wipe_some z2).1⟩
  exact {
    le0 := s.le0
    dom := s.dom
    fr := s.fr
    new := s.new
    mun := s.mun
    dm := s.dm
    mlen := s.mlen
    nodup := s.nodup
    cell := s.cell
    len := by rw [wipeE_len, wipe_length]; exact s.len
    slot := fun j sv q => by
      obtain ⟨q1, q2⟩ := wipeE_some q
      rw [wipe_out q2]
      exact s.slot j sv q1
    own := fun j b hb => s.own j b (back j b hb)
    inj := fun j j' b h1 h2 => s.inj j j' b (back _ _ h1) (back _ _ h2)
    par := fun p h => by rw [wipe_out (hp p h), wipeE_out (hp p h)]; exact s.par p h }
theorem backE_in {ρ' : Env} {i : Nat} {x : SV} : ∀ {vs : List Nat}, (backE ρ ρ' vs)[i]? = some (some x) → (i ∉ vs ∧ ρ'[i]? = some (some x)) ∨ (i ∈ vs ∧ ∃ w, x = .val w ∧ ρ[i]? = some (some (.val w)))
  | [], h => .inl ⟨by simp, h⟩
  | v :: vs, h => by
    unfold backE at h
    by_cases hi : v = i
    · subst hi
      by_cases hl : v < (backE ρ ρ' vs).length
      · rw [List.getElem?_set_self hl] at h
        split at h
        · rename_i w q
          cases h
          exact .inr ⟨List.mem_cons_self .., w, rfl, sget_iff.mp q⟩
        · cases h
      · rw [List.getElem?_eq_none (by rw [List.length_set]; omega)] at h; cases h
    · rw [List.getElem?_set_ne hi] at h
      rcases backE_in h with ⟨h1, h2⟩ | ⟨h1, h2⟩
      · exact .inl ⟨fun z => by
          rcases List.mem_cons.mp z with z | z
          · exact hi z.symm
          · exact h1 z, h2⟩
      · exact .inr ⟨List.mem_cons_of_mem _ h1, h2⟩
theorem backE_len {ρ' : Env} : ∀ (vs : List Nat), (backE ρ ρ' vs).length = ρ'.length
  | [] => rfl
  | v :: vs => by unfold backE; rw [List.length_set, backE_len vs]
theorem backE_out {ρ' : Env} {i : Nat} : ∀ {vs : List Nat}, i ∉ vs → (backE ρ ρ' vs)[i]? = ρ'[i]?
  | [], _ => rfl
  | v :: vs, h => by
    have h1 : v ≠ i := fun e => h (by rw [e]; exact List.mem_cons_self)
    unfold backE
    rw [List.getElem?_set_ne h1, backE_out fun m => h (List.mem_cons_of_mem _ m)]
/-- behind a comprehension -/
theorem Sim.back (s : Sim c e d ρ S σ H) {vs : List Nat} {e2 : Ent} (t : Sim c e2 d' ρ' S' (L2.wipe σ vs) H') (le : Le d H d' H') : Sim c e2 d' (backE ρ ρ' vs) S' σ H' := by
  have back : ∀ j b, ownAt (backE ρ ρ' vs) σ j b → ownAt ρ' (L2.wipe σ vs) j b := fun j b ⟨⟨k, z⟩, z2⟩ => by
    rcases backE_in z with ⟨h1, h2⟩ | ⟨h1, w, h2, _⟩
    · exact ⟨⟨k, h2⟩, by rw [wipe_out h1]; exact z2⟩
    · cases h2
  exact {
    le0 := t.le0
    dom := t.dom
    fr := t.fr
    new := t.new
    mun := t.mun
    dm := t.dm
    mlen := t.mlen
    nodup := t.nodup
    cell := t.cell
    len := by rw [backE_len, t.len, wipe_length]
    slot := fun j sv q => by
      rcases backE_in q with ⟨h1, h2⟩ | ⟨h1, w, rfl, h2⟩
      · obtain ⟨v, q1, q2⟩ := t.slot j sv h2
        rw [wipe_out h1] at q1
        exact ⟨v, q1, q2⟩
      · obtain ⟨v, q1, q2⟩ := s.slot j _ h2
        exact ⟨v, q1, Rep.mono le q2⟩
    own := fun j b hb => t.own j b (back j b hb)
    inj := fun j j' b h1 h2 => t.inj j j' b (back _ _ h1) (back _ _ h2)
    par := fun p h => by
      obtain ⟨q1, q2⟩ := t.par p h
      obtain ⟨q1, q3⟩ := wipe_some q1
      rw [backE_out q3]
      exact ⟨q1, q2⟩ }
theorem RvR.grow {N : Addr → Prop} (g : Grow d H N H') {r : RV} {v : V} (hd : ∀ a, d.F a → H a ≠ none) (h : RvR c e d ρ σ H r v) : RvR c e (d.more N) ρ σ H' r v := by
  cases r with
  | val w => exact Rep.mono (g.le hd) h
  | fresh l =>
    obtain ⟨a, vs, ev, h1, h2, h3, h4, h5, h6⟩ := h
    exact ⟨a, vs, ev, g.same a _ h1, RepL.mono (g.le hd) h2, fun z => Or.elim z h3 (fun z => by rw [(g.new a z).1] at h1; cases h1), h4, h5, h6⟩
/-- a list of one's own, not in a slot, is written -/
theorem Sim.updF (s : Sim c e d ρ S σ H) {a : Addr} {l l' : List W} {vs' : List V} (h : RvR c e d ρ σ H (.fresh l) (.ref a)) (hr : RepL c d H l' vs') : Sim c e d ρ S σ (upd H a (.lst vs')) ∧ RvR c e d ρ σ (upd H a (.lst vs')) (.fresh l') (.ref a) ∧ Le d H d (upd H a (.lst vs')) := by
  obtain ⟨b, vs, eb, h1, h2, h3, h4, h5, h6⟩ := h
  cases eb
  have le : Le d H d (upd H a (.lst vs')) := .upd h3
  have some' : ∀ b, H b ≠ none → upd H a (.lst vs') b ≠ none := fun b hb => by
    by_cases z : b = a
    · subst z; rw [upd_same]; simp
    · rw [upd_ne z]; exact hb
  refine ⟨{
    le0 := s.le0.trans le
    dom := fun b hb => some' b (s.dom b hb)
    fr := fun b o hb h1 h2 => by
      have q := s.fr b o hb h1 h2
      rw [upd_ne]; · exact q
      intro z; subst z
      rw [h5] at hb; cases hb
    new := s.new
    mun := s.mun
    dm := fun b hb => some' b (s.dm b hb)
    mlen := s.mlen
    nodup := s.nodup
    cell := fun n ws q => by
      obtain ⟨b, us, q1, q2, q3, q4⟩ := s.cell n ws q
      refine ⟨b, us, q1, ?_, RepL.mono le q3, q4⟩
      rw [upd_ne]; · exact q2
      intro z; subst z; exact h4 (List.mem_of_getElem? q1)
    len := s.len
    slot := fun j sv q => by
      obtain ⟨v, q1, q2⟩ := s.slot j sv q
      refine ⟨v, q1, ?_⟩
      cases sv with
      | val w => exact Rep.mono le q2
      | own l2 =>
        obtain ⟨b, us, e1, r1, r2, r3, r4⟩ := q2
        refine ⟨b, us, e1, ?_, RepL.mono le r2, r3, r4⟩
        rw [upd_ne]; · exact r1
        intro z; subst z
        exact h6 ⟨j, ⟨l2, q⟩, by rw [q1, e1]⟩
    own := s.own
    inj := s.inj
    par := s.par }, ⟨a, vs', rfl, upd_same, RepL.mono le hr, h3, h4, h5, h6⟩, le⟩
theorem g_lc (o : CxOk c k ex cf X) {elt tg iter : Expr} {ifs : List Expr} {scope : Scope} {own : List (Str × Nat)} {pos : Pos} {src tgt cond me : M} (ok : BlkOk X.N X.env.scope scope own)
    (hi : PI X tg iter (TIt c ex (evI cf src)))
    (hg : ∀ (s : Shared) (H : Hp) (C : Addr) (cl : List (Str × Addr)) (fp : List Addr), PG (X.blk s H scope (compEnvC scope cl C X.env) fp) tg (TGt c tgt))
    (ht : ∀ (s : Shared) (H : Hp) (C : Addr) (cl : List (Str × Addr)) (fp : List Addr), PTs (X.blk s H scope (compEnvC scope cl C X.env) fp) ifs (TBo c exB (tst (evE cf cond))))
    (he : ∀ (s : Shared) (H : Hp) (C : Addr) (cl : List (Str × Addr)) (fp : List Addr), PE (X.blk s H scope (compEnvC scope cl C X.env) fp) elt (TV c exB (evE cf me)))
    (hs : ∀ x, foldedSetIterable iter X.env x = pure x) (hsl : ∀ i ∈ slotsT tgt, i ∈ own.map (·.2)) :
    ∀ σ H (Q : VK), TV c ex (evE cf (.lc (own.map (·.2)) src tgt cond me)) σ H Q → tLc (TIt c ex (evI cf src)) (TGt c tgt) (TBo c exB (tst (evE cf cond))) (TV c exB (evE cf me)) (own.map (·.2)) σ H Q := by
  intro σ H Q ⟨e, d, ρ, S, s, h⟩
  simp only [evE] at h
  refine ⟨_, d, ρ, S, s.rb, ?_⟩
  cases hsrc : evI cf src ρ S with
  | stuck => rw [hsrc] at h; exact h
  | exn n w ρ1 S1 => rw [hsrc] at h; exact fun d1 H1 s1 => h d1 H1 (s.comp s1)
  | ok ws ρ1 S1 =>
    rw [hsrc, Out.bind_ok] at h
    intro J d1 H1 s1 itr D hD
    split at h
    · rename_i hfree
      rw [List.all_eq_true] at hfree
      have s2 := s.comp s1
      have hP : ∀ p ∈ e.P, p.1 ∉ own.map (·.2) := fun p hp z => by
        obtain ⟨_, l, q⟩ := s2.par p hp
        have := freeS_own (hfree _ z) q
        cases this
      have w0 : Sim c (NV.rb e d1 H1 ρ1 σ) (d1.more fun _ => False) (wipeE ρ1 (own.map (·.2))) S1 (L2.wipe σ (own.map (·.2))) (upd H1 D (.lst [])) := (s2.rb.wipe hP).grow (.none hD)
      have le1 : Le d1 H1 (d1.more fun _ => False) (upd H1 D (.lst [])) := (Grow.none hD).le s2.dom
      have r0 : RvR c (NV.rb e d1 H1 ρ1 σ) (d1.more fun _ => False) (wipeE ρ1 (own.map (·.2))) (L2.wipe σ (own.map (·.2))) (upd H1 D (.lst [])) (.fresh []) (.ref D) := by
        refine ⟨D, [], rfl, upd_same, .nil, fun z => ?_, fun z => (s2.muH z).1 hD, hD, fun ⟨j, ⟨l, z⟩, z2⟩ => ?_⟩
        · rcases z with z | z
          · exact s2.dom D z hD
          · exact z
        · exact (s2.ownsH ⟨j, ⟨l, (wipeE_some z).1⟩, (wipe_some z2).1⟩).1 hD
      revert h w0 r0
      generalize hF : (fun (ρ : Env) (S : Sto) => (evE cf cond ρ S).bind fun x ρ S => match x with
          | .val (.bl true) => (evE cf me ρ S).bind fun y ρ S => Out.ok (some y.frz) ρ S
          | .val (.bl false) => .ok none ρ S
          | _ => .stuck) = F
      intro h w0 r0
      let Fin : Out (List W) → Prop := fun o => TPost c ex (RvR c) e σ (match o with
        | .ok l ρ' S' => .ok (.fresh l) (backE ρ1 ρ' (own.map (·.2))) S'
        | _ => .stuck) Q
      let Inv' : Nat → Hp → Prop := fun i H => i ≤ ws.length ∧ ∃ d ρ S acc, Sim c (NV.rb e d1 H1 ρ1 σ) d ρ S (L2.wipe σ (own.map (·.2))) H ∧ Le d1 H1 d H ∧ RvR c (NV.rb e d1 H1 ρ1 σ) d ρ (L2.wipe σ (own.map (·.2))) H (.fresh acc) (.ref D) ∧
        Fin (lcLoop (asgT tgt) F (own.map (·.2)) (ws.drop i) acc ρ S)
      refine ⟨fun i m H => m = ws.length - i ∧ Inv' i H, ⟨ws.length, by simp, Nat.zero_le _, _, _, _, [], w0, le1, r0, h⟩, ?_⟩
      rintro i m H3 ⟨rfl, hi3, d3, ρ3, S3, acc, t, le, r, fin⟩
      obtain ⟨it1, it2⟩ := itr d3 H3 le t.dom
      by_cases hlt : i < ws.length
      · refine .inr ?_
        have hw : ws[i]? = some ws[i] := List.getElem?_eq_getElem hlt
        obtain ⟨go, it3⟩ := it2 i _ hw
        refine ⟨go, Inv' (i + 1), fun H' p => ⟨ws.length - (i + 1), by omega, rfl, p⟩, fun x H4 y => ?_⟩
        obtain ⟨N, g, rep⟩ := it3 x H4 y
        have t4 := t.grow g
        have le4 := le.trans (g.le t.dom)
        have r4 := r.grow g t.dom
        rw [List.drop_eq_getElem_cons hlt] at fin
        simp only [lcLoop] at fin
        cases ha : asgT tgt ws[i] ρ3 with
        | none => rw [ha] at fin; exact fin.elim
        | some ρ4 =>
          rw [ha] at fin
          refine ⟨_, _, ρ3, S3, ws[i], t4, rep, ρ4, ha, fun σ5 t5 hw5 ho5 => ?_⟩
          have hw5 : L2.wipe σ5 (own.map (·.2)) = L2.wipe σ (own.map (·.2)) := by
            rw [hw5 _ hsl]
            have : ∀ vs : List Nat, L2.wipe (L2.wipe σ vs) vs = L2.wipe σ vs := fun vs => by
              have : ∀ us : List Nat, (∀ u ∈ us, u ∈ vs) → L2.wipe (L2.wipe σ us) vs = L2.wipe σ vs := fun us => by
                induction us with
                | nil => intro _; rfl
                | cons a us ih =>
                  intro hu
                  show L2.wipe ((L2.wipe σ us).set a none) vs = _
                  rw [wipe_set (hu a (List.mem_cons_self ..)), ih fun u h => hu u (List.mem_cons_of_mem _ h)]
              exact this vs fun _ h => h
            exact this _
          refine ⟨hw5, ?_⟩
          have r5 : RvR c (NV.rb e d1 H1 ρ1 σ) (d3.more N) ρ4 σ5 H4 (.fresh acc) (.ref D) := by
            obtain ⟨b, vs, eb, q1, q2, q3, q4, q5, q6⟩ := r4
            exact ⟨b, vs, eb, q1, q2, q3, q4, q5, fun z => q6 (ho5 b z)⟩
          have hP5 : ∀ p ∈ (NV.rb e d1 H1 ρ1 σ).P, p.1 ∉ own.map (·.2) := hP
          /- the end of a turn -/
          have next : ∀ {d7 : Wd} {ρ7 : Env} {S7 : Sto} {H7 : Hp} {acc' : List W}, Sim c (NV.rb e d1 H1 ρ1 σ) d7 ρ7 S7 σ5 H7 → Le d1 H1 d7 H7 → RvR c (NV.rb e d1 H1 ρ1 σ) d7 ρ7 σ5 H7 (.fresh acc') (.ref D) →
              Fin (lcLoop (asgT tgt) F (own.map (·.2)) (ws.drop (i + 1)) acc' (wipeE ρ7 (own.map (·.2))) S7) → Inv' (i + 1) H7 := fun {d7 ρ7 S7 H7 acc'} t7 le7 r7 f7 => by
            refine ⟨hlt, d7, _, S7, acc', ?_, le7, ?_, f7⟩
            · rw [← hw5]; exact t7.wipe hP5
            · obtain ⟨b, vs, eb, q1, q2, q3, q4, q5, q6⟩ := r7
              refine ⟨b, vs, eb, q1, q2, q3, q4, q5, fun ⟨j, ⟨l, z⟩, z2⟩ => q6 ⟨j, ⟨l, (wipeE_some z).1⟩, ?_⟩⟩
              rw [← hw5] at z2
              exact (wipe_some z2).1
          refine ⟨_, d3.more N, ρ4, S3, t5.rb, ?_⟩
          have hF1 : F ρ4 S3 = (evE cf cond ρ4 S3).bind fun x ρ S => match x with
            | .val (.bl true) => (evE cf me ρ S).bind fun y ρ S => Out.ok (some y.frz) ρ S
            | .val (.bl false) => .ok none ρ S
            | _ => .stuck := by rw [← hF]
          simp only [hF1] at fin
          unfold tst
          cases hc : evE cf cond ρ4 S3 with
          | stuck => simp only [hc, Out.bind_stuck] at fin; exact fin.elim
          | exn n w ρ6 S6 => simp only [hc, Out.bind_exn] at fin; exact fin.elim
          | ok xr ρ6 S6 =>
            simp only [hc, Out.bind_ok] at fin ⊢
            cases xr with
            | fresh l => exact fin.elim
            | val w =>
              cases w <;> first | exact fin.elim | skip
              rename_i b
              intro b' d6 H6 t6 eb
              have eb : b' = b := eb
              subst eb
              have r6 := r5.keep t5 t6
              have t6' := t5.comp t6
              cases b' with
              | false =>
                rw [if_neg (by decide)]
                exact next t6' ((le4.trans (by exact Le.refl)).trans t6.le0) r6 fin
              | true =>
                rw [if_pos rfl]
                simp only at fin
                refine ⟨_, d6, ρ6, S6, t6'.rb, ?_⟩
                cases hm : evE cf me ρ6 S6 with
                | stuck => simp only [hm, Out.bind_stuck] at fin; exact fin.elim
                | exn n w ρ6 S6 => simp only [hm, Out.bind_exn] at fin; exact fin.elim
                | ok yr ρ7 S7 =>
                  simp only [hm, Out.bind_ok] at fin
                  intro yv d7 H7 t7 ry
                  obtain ⟨d8, t8, le8, rep8⟩ := t7.frz ry
                  have r8 := r6.keep t6' t8
                  have t8' := t6'.comp t8
                  obtain ⟨b, vs, eb, q1, q2, q3, q4, q5, q6⟩ := id r8
                  cases eb
                  split at fin
                  · rename_i hsz
                    obtain ⟨t9, r9, le9⟩ := t8'.updF r8 (l' := acc ++ [yr.frz]) (vs' := vs ++ [yv]) (q2.appE (.cons rep8 .nil))
                    exact ⟨vs, q1, by rw [q2.length]; exact hsz, next t9 (((le4.trans t6.le0).trans t8.le0).trans le9) r9 fin⟩
                  · exact fin.elim
      · have hi4 : i = ws.length := by omega
        refine .inl ⟨it1 i (by omega), ?_⟩
        rw [hi4, List.drop_length] at fin
        simp only [lcLoop] at fin
        have t5 := s2.back t le
        refine fin (.ref D) d3 H3 (s2.comp t5) ?_
        obtain ⟨b, vs, eb, q1, q2, q3, q4, q5, q6⟩ := r
        refine ⟨b, vs, eb, q1, q2, q3, q4, s2.gone q5, fun ⟨j, ⟨l, z⟩, z2⟩ => ?_⟩
        rcases backE_in z with ⟨h1, h2⟩ | ⟨h1, w, h2, _⟩
        · exact q6 ⟨j, ⟨l, h2⟩, by rw [wipe_out h1]; exact z2⟩
        · cases h2
    · exact h.elim
end
end NV
set_option Elab.async false
set_option linter.all false
set_option maxRecDepth 100000
set_option maxHeartbeats 1000000
/-! # Statements -/
namespace NV
open PySem PySem.Spec PyProof.Rows L2
inductive Fl where
  | nx | rt (r : RV) | br | ct
  deriving Inhabited
inductive MS where
  | nil | seq (a b : MS)
  | asg (i : Nat) (e : M)
  | par (is : List Nat) (es : M)
  | tgt (t e : M)
  | put (i : Nat) (ix e : M)
  | expr (e : M)
  | ret (e : M) | mvr (i : Nat) | retN
  | ite (t : M) (a b : MS)
  | whl (n : Nat) (t : M) (b : MS)
  | forr (t it : M) (b : MS)
  | brk | cont | pass | dead
  deriving Inhabited
def RV.sv : RV → SV
  | .val w => .val w
  | .fresh l => .own (false, l)
def putRs : Env → List Nat → List RV → Option Env
  | ρ, [], [] => some ρ
  | ρ, i :: is, r :: rs => match putT ρ i r.sv with
    | some ρ1 => putRs ρ1 is rs
    | none => none
  | _, _, _ => none
def evR (cf : CallF) : M → Env → Sto → Out (List RV)
  | .nil, ρ, S => .ok [] ρ S
  | .cons a b, ρ, S => (evE cf a ρ S).bind fun x ρ S => (evR cf b ρ S).bind fun r ρ S => .ok (x :: r) ρ S
  | _, _, _ => .stuck
def whileL (g : Env → Sto → Out Bool) (b : Env → Sto → Out Fl) : Nat → Env → Sto → Out Fl
  | 0, _, _ => .stuck
  | n + 1, ρ, S => (g ρ S).bind fun t ρ S => if t then (b ρ S).bind fun f ρ S => match f with
      | .nx => whileL g b n ρ S
      | .ct => whileL g b n ρ S
      | .br => .ok .nx ρ S
      | .rt r => .ok (.rt r) ρ S
    else .ok .nx ρ S
def forL (tgt : W → Env → Option Env) (b : Env → Sto → Out Fl) : List W → Env → Sto → Out Fl
  | [], ρ, S => .ok .nx ρ S
  | w :: r, ρ, S => match tgt w ρ with
    | some ρ1 => (b ρ1 S).bind fun f ρ S => match f with
      | .nx => forL tgt b r ρ S
      | .ct => forL tgt b r ρ S
      | .br => .ok .nx ρ S
      | .rt r => .ok (.rt r) ρ S
    | none => .stuck
def evS (cf : CallF) : MS → Env → Sto → Out Fl
  | .nil, ρ, S => .ok .nx ρ S
  | .pass, ρ, S => .ok .nx ρ S
  | .seq a b, ρ, S => (evS cf a ρ S).bind fun f ρ S => match f with
    | .nx => evS cf b ρ S
    | f => .ok f ρ S
  | .asg i e, ρ, S => (evE cf e ρ S).bind fun r ρ S => match putT ρ i r.sv with
    | some ρ' => .ok .nx ρ' S
    | none => .stuck
  | .par is es, ρ, S => (evR cf es ρ S).bind fun rs ρ S => match putRs ρ is rs with
    | some ρ' => .ok .nx ρ' S
    | none => .stuck
  | .tgt t e, ρ, S => (evE cf e ρ S).bind fun r ρ S => match asgT t r.frz ρ with
    | some ρ' => .ok .nx ρ' S
    | none => .stuck
  | .put i ix e, ρ, S => (evE cf e ρ S).bind fun r ρ S => match sget ρ i with
    | some (.own _) => (evE cf ix ρ S).bind fun q ρ S => match q, sget ρ i with
      | .val (.int n), some (.own xs) => match ixN xs.2.length n with
        | some j => .ok .nx (ρ.set i (some (.own (xs.1, xs.2.set j r.frz)))) S
        | none => .stuck
      | _, _ => .stuck
    | _ => .stuck
  | .expr e, ρ, S => (evE cf e ρ S).bind fun _ ρ S => .ok .nx ρ S
  | .ret e, ρ, S => (evE cf e ρ S).bind fun r ρ S => .ok (.rt r) ρ S
  | .mvr i, ρ, S => match sget ρ i with
    | some (.val w) => .ok (.rt (.val w)) ρ S
    | some (.own l) => if l.1 then .stuck else .ok (.rt (.fresh l.2)) (ρ.set i none) S
    | none => .stuck
  | .retN, ρ, S => .ok (.rt (.val .non)) ρ S
  | .ite t a b, ρ, S => (tst (evE cf t) ρ S).bind fun t ρ S => if t then evS cf a ρ S else evS cf b ρ S
  | .whl n t b, ρ, S => whileL (tst (evE cf t)) (evS cf b) n ρ S
  | .forr t it b, ρ, S => (evI cf it ρ S).bind fun ws ρ S => forL (asgT t) (evS cf b) ws ρ S
  | .brk, ρ, S => .ok .br ρ S
  | .cont, ρ, S => .ok .ct ρ S
  | .dead, _, _ => .stuck

section
variable {c : Cn} {k : Ck} {ex exB : EX} {cf : CallF} {X : Cx}
variable {e : Ent} {d d' : Wd} {ρ ρ' : Env} {S S' : Sto} {σ : L2.St} {H H' : Hp} {tg : Expr} {D : Ends}
def FlP (c : Cn) (ex : EX) (e : Ent) (D : Ends) (d : Wd) (H : Hp) : Out Fl → Prop
  | .ok .nx ρ' S' => ∀ σ' d' H', Sim c e d' ρ' S' σ' H' → Le d H d' H' → D.nx σ' H'
  | .ok (.rt r) ρ' S' => ∀ v σ' d' H', Sim c e d' ρ' S' σ' H' → Le d H d' H' → RvR c e d' ρ' σ' H' r v → D.rt v H'
  | .ok .br ρ' S' => ∀ σ' d' H', Sim c e d' ρ' S' σ' H' → Le d H d' H' → D.bk σ' H'
  | .ok .ct ρ' S' => ∀ σ' d' H', Sim c e d' ρ' S' σ' H' → Le d H d' H' → D.ct σ' H'
  | .exn k w ρ' S' => ∀ σ' d' H', Sim c e d' ρ' S' σ' H' → Le d H d' H' → ex k w d' σ' H'
  | .stuck => False
def TSt (c : Cn) (ex : EX) (e : Ent) (g : Env → Sto → Out Fl) : TS := fun D σ H => ∃ d ρ S, Sim c e d ρ S σ H ∧ FlP c ex e D d H (g ρ S)
theorem FlP.from {o : Out Fl} (h : FlP c ex e D d H o) (l : Le d H d' H') : FlP c ex e D d' H' o := by
  cases o with
  | ok f ρ1 S1 => cases f with
    | nx => exact fun σ' d1 H1 s l1 => h σ' d1 H1 s (l.trans l1)
    | rt r => exact fun v σ' d1 H1 s l1 => h v σ' d1 H1 s (l.trans l1)
    | br => exact fun σ' d1 H1 s l1 => h σ' d1 H1 s (l.trans l1)
    | ct => exact fun σ' d1 H1 s l1 => h σ' d1 H1 s (l.trans l1)
  | exn => exact fun σ' d1 H1 s l1 => h σ' d1 H1 s (l.trans l1)
  | stuck => exact h
theorem ps_imp {s : Stmt} {t t' : TS} (h : PS X s t) (k : ∀ D σ H, t' D σ H → t D σ H) : PS X s t' := ⟨fun pins s σ H D I q => h.run pins s σ H D I (k D σ H q)⟩
theorem pss_imp {s : List Stmt} {t t' : TS} (h : PSs X s t) (k : ∀ D σ H, t' D σ H → t D σ H) : PSs X s t' := ⟨fun pins s σ H D I q => h.run pins s σ H D I (k D σ H q)⟩
/-- an expression at the head of a statement -/
theorem Sim.tpS {α β : Type} {R' : Ent → Wd → Env → L2.St → Hp → α → β → Prop} (s : Sim c e d ρ S σ H) {g : Env → Sto → Out α} {f : α → Env → Sto → Out Fl} {Q : β → Hp → Prop} (h : FlP c ex e D d H ((g ρ S).bind f))
    (k : ∀ a ρ1 S1 b d1 H1, Sim c (NV.rb e d H ρ σ) d1 ρ1 S1 σ H1 → R' (NV.rb e d H ρ σ) d1 ρ1 σ H1 a b → FlP c ex e D d1 H1 (f a ρ1 S1) → Q b H1) : TP c ex R' g σ H Q := by
  refine ⟨_, d, ρ, S, s.rb, ?_⟩
  cases q : g ρ S with
  | ok a ρ1 S1 =>
    rw [q, Out.bind_ok] at h
    exact fun b d1 H1 s1 r1 => k a ρ1 S1 b d1 H1 s1 r1 (h.from s1.le0)
  | exn n w ρ1 S1 =>
    rw [q, Out.bind_exn] at h
    exact fun d1 H1 s1 => h σ d1 H1 (s.comp s1) s1.le0
  | stuck => rw [q] at h; exact h
theorem s_nil : PSs X [] (TSt c ex e (evS cf .nil)) := pss_imp pss_nil fun D σ H ⟨d, ρ, S, s, h⟩ => by
  simp only [evS] at h
  exact h σ d H s .refl
theorem s_seq {st : Stmt} {sts : List Stmt} {a b : MS} (ha : PS X st (TSt c ex e (evS cf a))) (hb : PSs X sts (TSt c ex e (evS cf b))) : PSs X (st :: sts) (TSt c ex e (evS cf (.seq a b))) := pss_imp (pss_cons ha hb) fun D σ H ⟨d, ρ, S, s, h⟩ => by
  refine ⟨d, ρ, S, s, ?_⟩
  simp only [evS] at h
  cases q : evS cf a ρ S with
  | ok f ρ1 S1 =>
    rw [q, Out.bind_ok] at h
    cases f with
    | nx => exact fun σ' d' H' s1 l => ⟨d', ρ1, S1, s1, h.from l⟩
    | rt r => exact h
    | br => exact h
    | ct => exact h
  | exn n w ρ1 S1 => rw [q] at h; exact h
  | stuck => rw [q] at h; exact h
theorem s_one {st : Stmt} {a : MS} (ha : PS X st (TSt c ex e (evS cf a))) : PSs X [st] (TSt c ex e (evS cf a)) := pss_imp (pss_cons ha pss_nil) fun D σ H h => h
theorem s_pass {pos : Pos} : PS X (.Pass pos) (TSt c ex e (evS cf .pass)) := ps_imp ps_pass fun D σ H ⟨d, ρ, S, s, h⟩ => by
  simp only [evS] at h
  exact h σ d H s .refl
theorem s_brk {pos : Pos} : PS X (.Break pos) (TSt c ex e (evS cf .brk)) := ps_imp ps_break fun D σ H ⟨d, ρ, S, s, h⟩ => by
  simp only [evS] at h
  exact h σ d H s .refl
theorem s_cont {pos : Pos} : PS X (.Continue pos) (TSt c ex e (evS cf .cont)) := ps_imp ps_continue fun D σ H ⟨d, ρ, S, s, h⟩ => by
  simp only [evS] at h
  exact h σ d H s .refl
theorem s_dead {st : Stmt} : PS X st (TSt c ex e (evS cf .dead)) := ps_imp ps_never fun D σ H ⟨d, ρ, S, s, h⟩ => by
  simp only [evS] at h
  exact h
theorem s_deads {st : List Stmt} : PSs X st (TSt c ex e (evS cf .dead)) := pss_imp pss_never fun D σ H ⟨d, ρ, S, s, h⟩ => by
  simp only [evS] at h
  exact h
theorem Sim.putR (s : Sim c e d ρ S σ H) {i : Nat} {r : RV} {v : V} (hv : RvR c e d ρ σ H r v) (h : putT ρ i r.sv = some ρ') : Sim c e d ρ' S (σ.set i (some v)) H := by
  unfold putT at h
  split at h
  · rename_i hf
    cases h
    cases r with
    | val w => exact (s.putV hf hv).1
    | fresh l =>
      obtain ⟨a, vs, rfl, h1, h2, h3, h4, h5, h6⟩ := hv
      exact s.put (sv := .own (false, l)) hf ⟨a, vs, rfl, h1, h2, h3, h4⟩ fun l' _ b hb => by cases hb; exact ⟨.inr h5, h6⟩
  · cases h
/-! ### assignments -/
def swB (st : Scope) (e : Expr) (x : Str) (py : Pos) : Bool := match e with
  | .ListComp _ _ _ _ => false
  | .SetComp _ _ _ _ => false
  | .DictComp _ _ _ _ _ => false
  | _ => true
theorem sw_of {e : Expr} {x : Str} {py : Pos} {st : Scope} {l : Nat} {env : PySem.Env} (h : swB st e x py = true) (t : Option Expr) : swapsWith e t l env = pure false := by
  cases e <;> first | rfl | cases h
theorem asg_key (o : CxOk c k ex cf X) {i : Nat} {m : M} {te : TE} (ht : ∀ σ H Q, TV c ex (evE cf m) σ H Q → te σ H Q) : ∀ D σ H, TSt c ex e (evS cf (.asg i m)) D σ H → tAsg te (gName i) D σ H := fun D σ H ⟨d, ρ, S, s, h⟩ => by
  simp only [evS] at h
  refine ht _ _ _ (s.tpS h fun r ρ1 S1 v d1 H1 s1 r1 h1 => ?_)
  split at h1
  · rename_i ρ2 q
    exact h1 _ d1 H1 ((s.comp s1).putR (r1.up s) q) .refl
  · exact h1.elim
theorem s_asg (o : CxOk c k ex cf X) {i : Nat} {x : Str} {a : Expr} {m : M} {py pos : Pos} (h : asgB k i x = true) (ha : EOk c ex X a (evE cf m)) (hs : swB k.sc a x py = true) : PS X (.Assign [.Name x py] a pos) (TSt c ex e (evS cf (.asg i m))) := by
  obtain ⟨h1, h2, h3⟩ := asg_loc o h
  exact ps_imp (ps_set o.nd h1 h2 ha.pe (sw_of hs _) h3) (asg_key o fun _ _ _ q => q)
theorem s_expr (o : CxOk c k ex cf X) {a : Expr} {m : M} {pos : Pos} (ha : EOk c ex X a (evE cf m)) (hs : swB k.sc a "" pos = true) : PS X (.Expr a pos) (TSt c ex e (evS cf (.expr m))) := ps_imp (ps_expr ha.pe (sw_of hs _)) fun D σ H ⟨d, ρ, S, s, h⟩ => by
  simp only [evS] at h
  exact s.tpS (R' := RvR c) h fun r ρ1 S1 v d1 H1 s1 r1 h1 => h1 σ d1 H1 (s.comp s1) .refl
theorem s_ret {a : Expr} {m : M} {pos : Pos} (ha : EOk c ex X a (evE cf m)) : PS X (.Return (some a) pos) (TSt c ex e (evS cf (.ret m))) := ps_imp (ps_ret ha.pe) fun D σ H ⟨d, ρ, S, s, h⟩ => by
  simp only [evS] at h
  exact s.tpS (R' := RvR c) h fun r ρ1 S1 v d1 H1 s1 r1 h1 => h1 v σ d1 H1 (s.comp s1) .refl (r1.up s)
theorem s_retN {pos : Pos} : PS X (.Return none pos) (TSt c ex e (evS cf .retN)) := ps_imp ps_retN fun D σ H ⟨d, ρ, S, s, h⟩ => by
  simp only [evS] at h
  exact h .non σ d H s .refl (by show Rep c d H .non .non; simp only [Rep])
theorem s_mvr (o : CxOk c k ex cf X) (hB : ∀ a, e.B a → ∃ j, (j, a) ∈ e.P) {i : Nat} {x : Str} {py pos : Pos} (h : visB k i x = true) : PS X (.Return (some (.Name x py)) pos) (TSt c ex e (evS cf (.mvr i))) := ps_imp (ps_ret (vis_pe o h)) fun D σ H ⟨d, ρ, S, s, h⟩ => by
  simp only [evS] at h
  split at h
  · rename_i w q
    obtain ⟨v, q1, q2⟩ := s.slot i _ (sget_iff.mp q)
    exact ⟨v, q1, h v σ d H s .refl q2⟩
  · rename_i l q
    split at h; · exact h.elim
    rename_i hl
    have q := sget_iff.mp q
    obtain ⟨v, q1, a, vs, rfl, r1, r2, r3, r4⟩ := s.slot i _ q
    have hi : i < ρ.length := (List.getElem?_eq_some_iff.mp q).1
    have oa : ownAt ρ σ i a := ⟨⟨l, q⟩, q1⟩
    have back : ∀ j b, ownAt (ρ.set i none) σ j b → j ≠ i ∧ ownAt ρ σ j b := fun j b ⟨⟨k, z⟩, z2⟩ => by
      by_cases hj : j = i
      · subst hj; rw [List.getElem?_set_self hi] at z; cases z
      · rw [List.getElem?_set_ne (Ne.symm hj)] at z; exact ⟨hj, ⟨k, z⟩, z2⟩
    have s2 : Sim c e (d.more fun _ => False) (ρ.set i none) S σ H := s.ren (fun _ z => z.elim) (fun _ z => z.elim) (fun _ z => z.elim) (fun _ z => z.elim) (List.length_set ..) (fun j b z => (back j b z).2)
      (fun j sv z => by
        by_cases hj : j = i
        · subst hj; rw [List.getElem?_set_self hi] at z; cases z
        · rw [List.getElem?_set_ne (Ne.symm hj)] at z; exact .inl z)
      (fun p hp => by
        obtain ⟨p1, l2, p2⟩ := s.par p hp
        have hj : p.1 ≠ i := fun hj => by
          rw [hj, q] at p2; cases p2
          exact hl rfl
        exact ⟨l2, by rw [List.getElem?_set_ne (Ne.symm hj)]; exact p2⟩)
    refine ⟨.ref a, q1, h (.ref a) σ _ H s2 .more ?_⟩
    refine ⟨a, vs, rfl, r1, RepL.mono .more r2, fun z => z.elim r3 id, r4, ?_, fun ⟨j, z⟩ => ?_⟩
    · rcases s.own i a oa with z | z
      · obtain ⟨j, hj⟩ := hB a z
        obtain ⟨p1, l2, p2⟩ := s.par _ hj
        have := s.inj i j a oa ⟨⟨_, p2⟩, p1⟩
        subst this
        rw [q] at p2; cases p2
        exact absurd rfl hl
      · exact z
    · obtain ⟨n1, n2⟩ := back j a z
      exact n1 (s.inj j i a n2 oa)
  · exact h.elim
theorem s_ite {t : Expr} {A B : List Stmt} {mt : M} {ma mb : MS} {pos : Pos} (ht : EOk c ex X t (evE cf mt)) (ha : PSs X A (TSt c ex e (evS cf ma))) (hb : PSs X B (TSt c ex e (evS cf mb))) : PS X (.If t A B pos) (TSt c ex e (evS cf (.ite mt ma mb))) := ps_imp (ps_if ht.pt ha hb) fun D σ H ⟨d, ρ, S, s, h⟩ => by
  simp only [evS] at h
  refine s.tpS (R' := fun _ _ _ _ _ a b => b = a) h fun r ρ1 S1 v d1 H1 s1 r1 h1 => ?_
  have r1 : v = r := r1
  subst r1
  cases v with
  | true => exact ⟨d1, ρ1, S1, s.comp s1, h1⟩
  | false => exact ⟨d1, ρ1, S1, s.comp s1, h1⟩
/-- target = value -/
theorem s_tgt (o : CxOk c k ex cf X) {tg a : Expr} {mt m : M} {pos : Pos} (hg : PG X tg (TGt c mt)) (ha : EOk c ex X a (evE cf m)) (hs : swB k.sc a "" pos = true) (ht : isTgt tg = true) (hw : swappedStores [tg] a X.env = pure none) : PS X (.Assign [tg] a pos) (TSt c ex e (evS cf (.tgt mt m))) := by
  refine ps_imp (ps_asg ha.pe hg (sw_of hs _) hw (by rw [asgEach ht]; rfl)) fun D σ H ⟨d, ρ, S, s, h⟩ => ?_
  simp only [evS] at h
  refine s.tpS (R' := RvR c) h fun r ρ1 S1 v d1 H1 s1 r1 h1 => ?_
  obtain ⟨d2, s2, le, r2⟩ := (s.comp s1).frz (r1.up s)
  split at h1
  · rename_i ρ2 q
    exact ⟨e, d2, ρ1, S1, _, s2, r2, ρ2, q, fun σ' s3 _ _ => h1 σ' d2 H1 s3 le⟩
  · exact h1.elim
theorem s_put (o : CxOk c k ex cf X) {i : Nat} {x : Str} {ix a : Expr} {mi m : M} {p p2 pos : Pos} (hv : visB k i x = true) (hi : EOk c ex X ix (evE cf mi)) (ha : EOk c ex X a (evE cf m)) (hs : swB k.sc a "" pos = true) (hix : noSlice ix = true) :
    PS X (.Assign [.Subscript (.Name x p) ix p2] a pos) (TSt c ex e (evS cf (.put i mi m))) := by
  refine ps_imp (ps_asg ha.pe (pg_sub (vis_pe o hv) hi.pe set_list (fun _ => ?_)) (show swapsWith a (some (.Subscript (.Name x p) ix p2)) pos.line X.env = pure false from sw_of (x := "") (py := pos) (st := k.sc) hs _) ?_) fun D σ H ⟨d, ρ, S, s, h⟩ => ?_
  · cases ix <;> first | rfl | cases hix
  · rfl
  · simp only [evS] at h
    refine s.tpS (R' := RvR c) h fun r ρ1 S1 v d1 H1 s1 r1 h1 => ?_
    obtain ⟨d2, s2, le, r2⟩ := (s.comp s1).frz (r1.up s)
    have h1 := h1.from le
    split at h1
    rotate_left
    · exact h1.elim
    rename_i l0 q0
    obtain ⟨v0, p1, _⟩ := s2.slot i _ (sget_iff.mp q0)
    have out : ∀ u, σ[i]? = some (some u) → gSub (tVar i) (TV c ex (evE cf mi)) rSetL v σ H1 D.nx := fun u hu => by
      refine ⟨u, hu, ?_⟩
      refine s2.tpS (R' := RvR c) h1 fun q ρ3 S3 y d3 H3 s3 r3 h3 => ?_
      split at h3
      · rename_i n xs hq
        split at h3
        · rename_i j hj
          have hq := sget_iff.mp hq
          obtain ⟨w, q1, b, vs, e1, t1, t2, t3, t4⟩ := (s2.comp s3).slot i _ hq
          rw [hu] at q1; cases q1
          subst e1
          have r3 : y = .int n := by simpa only [RvR, Rep] using r3
          subst r3
          refine ⟨b, vs, n, j, rfl, rfl, t1, by rw [t2.length]; exact hj, ?_⟩
          have hr : RepL c d3 H3 (xs.2.set j r.frz) (vs.set j v) := by
            have : ∀ {l : List W} {us : List V} {j : Nat} {w : W} {v : V}, RepL c d3 H3 l us → Rep c d3 H3 w v → RepL c d3 H3 (l.set j w) (us.set j v) := fun {l} => by
              induction l with
              | nil => intro us j w v h _; have h : us = [] := h; subst h; exact .nil
              | cons a l ih =>
                intro us j w v ⟨x, t, e, h1, h2⟩ h
                subst e
                cases j with
                | zero => exact .cons h h2
                | succ j => exact .cons h1 (ih h2 h)
            exact this t2 (Rep.mono s3.le0 r2)
          exact h3 σ d3 _ ((s2.comp s3).mutOwn hq hu hr) (.upd t3)
        · exact h3.elim
      · exact h3.elim
    exact out v0 p1
end
end NV
set_option Elab.async false
set_option linter.all false
set_option maxRecDepth 100000
set_option maxHeartbeats 1000000
/-! # Pairs, loops -/
namespace NV
open PySem PySem.Spec PyProof.Rows L2
section
variable {c : Cn} {k : Ck} {ex exB : EX} {cf : CallF} {X : Cx}
variable {e : Ent} {d d' : Wd} {ρ ρ' : Env} {S S' : Sto} {σ : L2.St} {H H' : Hp} {tg : Expr} {D : Ends}
def frV : List RV → List V → List V
  | .fresh _ :: r, v :: t => v :: frV r t
  | .val _ :: r, _ :: t => frV r t
  | _, _ => []
def RvsR (c : Cn) (e : Ent) (d : Wd) (ρ : Env) (σ : L2.St) (H : Hp) : List RV → List V → Prop
  | [], vs => vs = []
  | r :: rs, vs => ∃ v t, vs = v :: t ∧ RvR c e d ρ σ H r v ∧ RvsR c e d ρ σ H rs t ∧ ((∃ l, r = .fresh l) → v ∉ frV rs t)
theorem RvsR.up {e : Ent} {d d' : Wd} {ρ ρ' : Env} {S : Sto} {σ : L2.St} {H H' : Hp} (s : Sim c e d ρ S σ H) : ∀ {rs : List RV} {vs : List V}, RvsR c (NV.rb e d H ρ σ) d' ρ' σ H' rs vs → RvsR c e d' ρ' σ H' rs vs
  | [], _, h => h
  | _ :: _, _, ⟨v, t, e1, h1, h2, h3⟩ => ⟨v, t, e1, h1.up s, RvsR.up s h2, h3⟩
theorem RvsR.fr : ∀ {rs : List RV} {vs : List V} {v : V}, RvsR c e d ρ σ H rs vs → v ∈ frV rs vs → ∃ a, v = .ref a ∧ e.H a = none
  | [], vs, v, h, m => by
    have h : vs = [] := h
    subst h; cases m
  | .val _ :: rs, _, v, ⟨v1, t, e1, h1, h2, h3⟩, m => by subst e1; exact RvsR.fr h2 m
  | .fresh _ :: rs, _, v, ⟨v1, t, e1, h1, h2, h3⟩, m => by
    subst e1
    rcases List.mem_cons.mp m with z | z
    · subst z
      obtain ⟨a, _, ea, _, _, _, _, h5, _⟩ := h1
      exact ⟨a, ea, h5⟩
    · exact RvsR.fr h2 z
abbrev TRs (c : Cn) (ex : EX) (g : Env → Sto → Out (List RV)) : TA := TP c ex (RvsR c) g
theorem rs_nil : PA X [] (TRs c ex (evR cf .nil)) := pa_imp pa_nil fun σ H Q ⟨e, d, ρ, S, s, h⟩ => by
  simp only [evR] at h
  exact h [] d H s rfl
theorem rs_cons {a b : M} {e : Expr} {es : List Expr} (ha : EOk c ex X e (evE cf a)) (hb : PA X es (TRs c ex (evR cf b))) (hs : noStar e = true) : PA X (e :: es) (TRs c ex (evR cf (.cons a b))) :=
  pa_imp (pa_cons ha.pe hb (star_of hs)) fun σ H Q ⟨e, d, ρ, S, s, h⟩ => by
    simp only [evR] at h
    refine s.tp h fun x ρ1 S1 v d1 H1 s1 r1 h1 => (s.comp s1).tp h1 fun xs ρ2 S2 vs d2 H2 s2 r2 h2 => ?_
    refine h2 _ d2 H2 ((s.comp s1).comp s2) ⟨v, vs, rfl, (r1.up s).keep (s.comp s1) s2, r2.up (s.comp s1), fun ⟨l, hl⟩ m => ?_⟩
    subst hl
    obtain ⟨a, ea, h5⟩ := r2.fr m
    obtain ⟨b, _, eb, q1, _⟩ := r1
    rw [ea] at eb; cases eb
    have h5 : H1 a = none := h5
    rw [h5] at q1; cases q1
def setL : L2.St → List Nat → List V → L2.St
  | σ, i :: is, v :: vs => setL (σ.set i (some v)) is vs
  | σ, _, _ => σ
theorem Sim.putRs : ∀ {is : List Nat} {rs : List RV} {vs : List V} {ρ ρ' : Env} {σ : L2.St}, Sim c e d ρ S σ H → RvsR c e d ρ σ H rs vs → NV.putRs ρ is rs = some ρ' → Sim c e d ρ' S (setL σ is vs) H
  | [], [], _, ρ, ρ', σ, s, _, q => by cases q; exact s
  | i :: is, r :: rs, _, ρ, ρ', σ, s, ⟨v, t, e1, h1, h2, h3⟩, q => by
    simp only [NV.putRs] at q
    split at q
    · rename_i ρ1 q1
      subst e1
      have s1 := s.putR h1 q1
      refine Sim.putRs (is := is) s1 ?_ q
      have hf : freeS ρ i = true ∧ ρ1 = ρ.set i (some r.sv) := by
        unfold putT at q1
        split at q1
        · rename_i hf; cases q1; exact ⟨hf, rfl⟩
        · cases q1
      obtain ⟨hf, e1⟩ := hf
      have hi := freeS_len hf
      have hi2 : i < σ.length := by rw [← s.len]; exact hi
      have ow : ∀ a, owns ρ1 (σ.set i (some v)) a → owns ρ σ a ∨ ((∃ l, r = .fresh l) ∧ v = .ref a) := fun a ⟨j, ⟨l, z⟩, z2⟩ => by
        rw [e1] at z
        by_cases hj : j = i
        · subst hj
          rw [List.getElem?_set_self hi] at z
          rw [List.getElem?_set_self hi2] at z2
          cases z2
          cases r with
          | val w => cases z
          | fresh l => exact .inr ⟨⟨l, rfl⟩, rfl⟩
        · rw [List.getElem?_set_ne (Ne.symm hj)] at z z2
          exact .inl ⟨j, ⟨l, z⟩, z2⟩
      have : ∀ {rs : List RV} {t : List V}, RvsR c e d ρ σ H rs t → ((∃ l, r = .fresh l) → v ∉ frV rs t) → RvsR c e d ρ1 (σ.set i (some v)) H rs t := fun {rs} => by
        induction rs with
        | nil => intro t h _; exact h
        | cons r2 rs ih =>
          intro t ⟨v2, t2, e2, k1, k2, k3⟩ hn
          subst e2
          refine ⟨v2, t2, rfl, ?_, ih k2 fun z m => hn z ?_, k3⟩
          · cases r2 with
            | val w => exact k1
            | fresh l =>
              obtain ⟨a, us, ea, m1, m2, m3, m4, m5, m6⟩ := k1
              refine ⟨a, us, ea, m1, m2, m3, m4, m5, fun z => ?_⟩
              rcases ow a z with z | ⟨z1, z2⟩
              · exact m6 z
              · refine hn z1 ?_
                rw [z2, ea]
                exact List.mem_cons_self ..
          · cases r2 with
            | val w => exact m
            | fresh l => exact List.mem_cons_of_mem _ m
      exact this h2 h3
    · cases q
  | [], _ :: _, _, _, _, _, _, _, q => by cases q
  | _ :: _, [], _, _, _, _, _, _, q => by cases q
/-- both sides written -/
def locB (k : Ck) (i : Nat) (x : Str) : Bool := decide (k.N[i]? = some x) && decide (k.sc.names.lookup x = some .local)
theorem loc_of (o : CxOk c k ex cf X) {i : Nat} {x : Str} (h : locB k i x = true) : X.N[i]? = some x ∧ X.env.scope.names.lookup x = some .local := by
  unfold locB at h
  rw [Bool.and_eq_true, decide_eq_true_eq, decide_eq_true_eq] at h
  rw [o.N, o.sc]; exact h
theorem sw_none {t e : Expr} {l : Nat} {env : PySem.Env} {es : List Expr} {j : Nat} {p : Pos} : swapsWith (.Tuple es j p) (some t) l env = pure false := rfl
theorem sw_two {x y : Str} {px py pt p2 : Pos} {a b : Expr} {kt k2 : Nat} {env : PySem.Env} (hk : env.scope.kind = .function) (hx : env.scope.names.lookup x = some .local) (hy : env.scope.names.lookup y = some .local) (hl : (py.line == px.line) = true) (hn : x ≠ y)
    (hs : noStar a = true) (hs2 : noStar b = true) (hf : ([a, b].all (foldedForSure 8)) = false) (hc : ([a, b].all (constantsAlone 8)) = false) :
    swappedStores [.Tuple [.Name x px, .Name y py] kt pt] (.Tuple [a, b] k2 p2) env = pure (some [x, y]) := by
  have hb : env.blockKind = .function := by unfold Env.blockKind; rw [hk]; rfl
  have kx : env.kindOf x = some .local := hx
  have ky : env.kindOf y = some .local := hy
  have e2 : ([x, y] : List Str).eraseDups = [x, y] := by
    have : (y == x) = false := by rw [beq_eq_false_iff_ne]; exact hn.symm
    simp [List.eraseDups, List.eraseDupsBy, List.eraseDupsBy.loop, this]
  have f1 : (foldedForSure 8 a && foldedForSure 8 b) = false := by simpa using hf
  have f2 : (constantsAlone 8 a && constantsAlone 8 b) = false := by simpa using hc
  unfold swappedStores
  simp only [hb, Expr.pos, kx, ky, eq_of_beq hl, List.filterMap_cons, List.filterMap_nil, List.head?_cons, Option.map_some, Option.getD_some, beq_self_eq_true, Bool.and_self, if_true, e2, List.length_cons, List.length_nil, List.all_cons, List.all_nil, Bool.and_true, f1, f2, List.any_cons, List.any_nil, Bool.or_false]
  split
  · rename_i h
    simp at h
  · split
    · cases hs
    · split
      · cases hs2
      · rfl
/-- three -/
theorem sw_three {x y z : Str} {px py pz pt p2 : Pos} {a b q : Expr} {kt k2 : Nat} {env : PySem.Env} (hk : env.scope.kind = .function) (hx : env.scope.names.lookup x = some .local) (hy : env.scope.names.lookup y = some .local) (hz : env.scope.names.lookup z = some .local) (hl : (py.line == px.line) = true) (hl2 : (pz.line == px.line) = true) (hn : x ≠ y) (hn2 : x ≠ z) (hn3 : y ≠ z)
    (hs : noStar a = true) (hs2 : noStar b = true) (hs3 : noStar q = true) (hf : ([a, b, q].all (foldedForSure 8)) = false) (hc : ([a, b, q].all (constantsAlone 8)) = false) :
    swappedStores [.Tuple [.Name x px, .Name y py, .Name z pz] kt pt] (.Tuple [a, b, q] k2 p2) env = pure (some [x, y, z]) := by
  have hb : env.blockKind = .function := by unfold Env.blockKind; rw [hk]; rfl
  have kx : env.kindOf x = some .local := hx
  have ky : env.kindOf y = some .local := hy
  have kz : env.kindOf z = some .local := hz
  have e2 : ([x, y, z] : List Str).eraseDups = [x, y, z] := by
    have h1 : (y == x) = false := by rw [beq_eq_false_iff_ne]; exact hn.symm
    have h2 : (z == x) = false := by rw [beq_eq_false_iff_ne]; exact hn2.symm
    have h3 : (z == y) = false := by rw [beq_eq_false_iff_ne]; exact hn3.symm
    simp [List.eraseDups, List.eraseDupsBy, List.eraseDupsBy.loop, h1, h2, h3]
  have f1 : (foldedForSure 8 a && (foldedForSure 8 b && foldedForSure 8 q)) = false := by simpa using hf
  have f2 : (constantsAlone 8 a && (constantsAlone 8 b && constantsAlone 8 q)) = false := by simpa using hc
  unfold swappedStores
  simp only [hb, Expr.pos, kx, ky, kz, eq_of_beq hl, eq_of_beq hl2, List.filterMap_cons, List.filterMap_nil, List.head?_cons, Option.map_some, Option.getD_some, beq_self_eq_true, Bool.and_self, if_true, e2, List.length_cons, List.length_nil, List.all_cons, List.all_nil, Bool.and_true, f1, f2, List.any_cons, List.any_nil, Bool.or_false]
  split
  · rename_i h
    simp at h
  · split
    · cases hs
    · split
      · cases hs2
      · split
        · cases hs3
        · rfl
def sw2B (px py : Pos) (x y : Str) (a b : Expr) : Bool := ((py.line == px.line) && decide (x ≠ y)) && ((noStar a && noStar b) && (!([a, b].all (foldedForSure 8)) && !([a, b].all (constantsAlone 8))))
theorem s_par2 (o : CxOk c k ex cf X) (hk : X.env.scope.kind = .function) {i j : Nat} {x y : Str} {a b : Expr} {m : M} {px py pt p2 pos : Pos} {kt k2 : Nat} (h1 : locB k i x = true) (h2 : locB k j y = true) (hij : i ≠ j) (hx : PA X [a, b] (TRs c ex (evR cf m))) (hw : sw2B px py x y a b = true) (hm : lenM m = 2) :
    PS X (.Assign [.Tuple [.Name x px, .Name y py] kt pt] (.Tuple [a, b] k2 p2) pos) (TSt c ex e (evS cf (.par [i, j] m))) := by
  obtain ⟨n1, l1⟩ := loc_of o h1
  obtain ⟨n2, l2⟩ := loc_of o h2
  unfold sw2B at hw
  simp only [Bool.and_eq_true, Bool.not_eq_true', decide_eq_true_eq] at hw
  obtain ⟨⟨w1, w2⟩, ⟨w3, w4⟩, w5, w6⟩ := hw
  refine ps_imp (ps_par o.calm o.nd n1 n2 hij l1 l2 hx (sw_two hk l1 l2 w1 w2 w3 w4 w5 w6)) fun D σ H ⟨d, ρ, S, s, h⟩ => ?_
  simp only [evS] at h
  refine s.tpS (R' := RvsR c) h fun rs ρ1 S1 vs d1 H1 s1 r1 hh => ?_
  split at hh
  · rename_i ρ2 q
    have s2 := Sim.putRs (s.comp s1) (r1.up s) q
    have : ∃ u v, vs = [u, v] := by
      match rs, q, r1 with
      | [a, b], q, ⟨u, _, e1, _, ⟨v, _, e2, _, e3, _⟩, _⟩ =>
        have e3 : _ = [] := e3
        exact ⟨u, v, by rw [e1, e2, e3]⟩
      | [], q, _ => cases q
      | [a], q, _ => simp only [NV.putRs] at q; split at q <;> cases q
      | _ :: _ :: _ :: _, q, _ =>
        simp only [NV.putRs] at q
        split at q
        · split at q <;> cases q
        · cases q
    obtain ⟨u, v, rfl⟩ := this
    exact ⟨u, v, rfl, hh _ d1 H1 s2 .refl⟩
  · exact hh.elim
theorem s_par3 (o : CxOk c k ex cf X) (hk : X.env.scope.kind = .function) {i j l : Nat} {x y z : Str} {a b q : Expr} {m : M} {px py pz pt p2 pos : Pos} {kt k2 : Nat} (h1 : locB k i x = true) (h2 : locB k j y = true) (h3 : locB k l z = true) (hij : i ≠ j) (hil : i ≠ l) (hjl : j ≠ l) (hx : PA X [a, b, q] (TRs c ex (evR cf m)))
    (hl : (py.line == px.line) = true) (hl2 : (pz.line == px.line) = true) (hn : x ≠ y) (hn2 : x ≠ z) (hn3 : y ≠ z) (hs : noStar a = true) (hs2 : noStar b = true) (hs3 : noStar q = true) (hf : ([a, b, q].all (foldedForSure 8)) = false) (hc : ([a, b, q].all (constantsAlone 8)) = false) :
    PS X (.Assign [.Tuple [.Name x px, .Name y py, .Name z pz] kt pt] (.Tuple [a, b, q] k2 p2) pos) (TSt c ex e (evS cf (.par [i, j, l] m))) := by
  obtain ⟨n1, l1⟩ := loc_of o h1
  obtain ⟨n2, l2⟩ := loc_of o h2
  obtain ⟨n3, l3⟩ := loc_of o h3
  refine ps_imp (ps_par3 o.calm o.nd n1 n2 n3 hij hil hjl l1 l2 l3 hx (sw_three hk l1 l2 l3 hl hl2 hn hn2 hn3 hs hs2 hs3 hf hc)) fun D σ H ⟨d, ρ, S, s, h⟩ => ?_
  simp only [evS] at h
  refine s.tpS (R' := RvsR c) h fun rs ρ1 S1 vs d1 H1 s1 r1 hh => ?_
  split at hh
  · rename_i ρ2 q
    have s2 := Sim.putRs (s.comp s1) (r1.up s) q
    have : ∃ u v w, vs = [u, v, w] := by
      match rs, q, r1 with
      | [a, b, z], q, ⟨u, _, e1, _, ⟨v, _, e2, _, ⟨w, _, e3, _, e4, _⟩, _⟩, _⟩ =>
        have e4 : _ = [] := e4
        exact ⟨u, v, w, by rw [e1, e2, e3, e4]⟩
      | [], q, _ => cases q
      | [a], q, _ => simp only [NV.putRs] at q; split at q <;> cases q
      | [a, b], q, _ =>
        simp only [NV.putRs] at q
        split at q
        · split at q <;> cases q
        · cases q
      | _ :: _ :: _ :: _ :: _, q, _ =>
        simp only [NV.putRs] at q
        split at q
        · split at q
          · split at q <;> cases q
          · cases q
        · cases q
    obtain ⟨u, v, w, rfl⟩ := this
    exact ⟨u, v, w, rfl, hh _ d1 H1 s2 .refl⟩
  · exact hh.elim
/-! ### loops -/
theorem s_whl (o : CxOk c k ex cf X) (hp : PassesOwn (model X.prog X.w) X.A X.env X.xe) {t : Expr} {B : List Stmt} {mt : M} {mb : MS} {n : Nat} {pos : Pos} (ht : EOk c ex X t (evE cf mt)) (hb : PSs X B (TSt c ex e (evS cf mb))) : PS X (.While t B [] pos) (TSt c ex e (evS cf (.whl n mt mb))) := ps_imp (ps_while hp ht.pt hb) fun D σ H ⟨d, ρ, S, s, h⟩ => by
  simp only [evS] at h
  refine ⟨fun m σ1 H1 => ∃ d1 ρ1 S1, Sim c e d1 ρ1 S1 σ1 H1 ∧ FlP c ex e D d1 H1 (whileL (tst (evE cf mt)) (evS cf mb) m ρ1 S1), ⟨n, d, ρ, S, s, h⟩, ?_⟩
  rintro m σ1 H1 ⟨d1, ρ1, S1, s1, h1⟩
  cases m with
  | zero => exact h1.elim
  | succ m =>
    simp only [whileL] at h1
    refine s1.tpS (R' := fun _ _ _ _ _ a b => b = a) h1 fun b ρ2 S2 b' d2 H2 s2 eb h2 => ?_
    have eb : b' = b := eb
    subst eb
    have s3 := s1.comp s2
    cases b' with
    | false => exact h2 σ1 d2 H2 s3 .refl
    | true =>
      rw [if_pos rfl]
      rw [if_pos rfl] at h2
      refine ⟨fun σ' H' => ∃ d1 ρ1 S1, Sim c e d1 ρ1 S1 σ' H' ∧ FlP c ex e D d1 H' (whileL (tst (evE cf mt)) (evS cf mb) m ρ1 S1), fun σ' H' w => ⟨m, Nat.lt_succ_self _, w⟩, d2, ρ2, S2, s3, ?_⟩
      cases q : evS cf mb ρ2 S2 with
      | stuck => rw [q] at h2; exact h2
      | exn n w ρ3 S3 => rw [q] at h2; exact h2
      | ok f ρ3 S3 =>
        rw [q, Out.bind_ok] at h2
        cases f with
        | nx => exact fun σ' d' H' s4 l => ⟨d', ρ3, S3, s4, h2.from l⟩
        | ct => exact fun σ' d' H' s4 l => ⟨d', ρ3, S3, s4, h2.from l⟩
        | br => exact h2
        | rt r => exact h2
theorem s_for (o : CxOk c k ex cf X) (hp : PassesOwn (model X.prog X.w) X.A X.env X.xe) {tg it : Expr} {B : List Stmt} {mg mi : M} {mb : MS} {pos : Pos} (hi : PI X tg it (TIt c ex (evI cf mi))) (hg : PG X tg (TGt c mg)) (hb : PSs X B (TSt c ex e (evS cf mb))) (hs : ∀ x, foldedSetIterable it X.env x = pure x) :
    PS X (.For tg it B [] pos) (TSt c ex e (evS cf (.forr mg mi mb))) := ps_imp (ps_for hp o.calm hi hg hb hs) fun D σ H ⟨d, ρ, S, s, h⟩ => by
  simp only [evS] at h
  refine ⟨_, d, ρ, S, s.rb, ?_⟩
  cases q : evI cf mi ρ S with
  | stuck => rw [q] at h; exact h
  | exn n w ρ1 S1 => rw [q] at h; exact fun d1 H1 s1 => h σ d1 H1 (s.comp s1) s1.le0
  | ok ws ρ1 S1 =>
    rw [q, Out.bind_ok] at h
    intro J d1 H1 s1 itr
    have h := h.from s1.le0
    refine ⟨fun i m σ2 H2 => m = ws.length - i ∧ i ≤ ws.length ∧ ∃ d2 ρ2 S2, Sim c e d2 ρ2 S2 σ2 H2 ∧ Le d1 H1 d2 H2 ∧ FlP c ex e D d2 H2 (forL (asgT mg) (evS cf mb) (ws.drop i) ρ2 S2), ⟨ws.length, by simp, Nat.zero_le _, d1, ρ1, S1, s.comp s1, .refl, h⟩, ?_⟩
    rintro i m σ2 H2 ⟨rfl, hi3, d2, ρ2, S2, s2, le, h2⟩
    obtain ⟨it1, it2⟩ := itr d2 H2 le s2.dom
    by_cases hlt : i < ws.length
    · refine .inr ?_
      have hw : ws[i]? = some ws[i] := List.getElem?_eq_getElem hlt
      obtain ⟨go, it3⟩ := it2 i _ hw
      refine ⟨go, fun σ3 H3 => ∃ d2 ρ2 S2, Sim c e d2 ρ2 S2 σ3 H3 ∧ Le d1 H1 d2 H3 ∧ FlP c ex e D d2 H3 (forL (asgT mg) (evS cf mb) (ws.drop (i + 1)) ρ2 S2), fun σ3 H3 p => ⟨ws.length - (i + 1), by omega, rfl, hlt, p⟩, fun x H4 y => ?_⟩
      obtain ⟨N, g, rep⟩ := it3 x H4 y
      have t4 := s2.grow g
      have le4 := le.trans (g.le s2.dom)
      rw [List.drop_eq_getElem_cons hlt] at h2
      simp only [forL] at h2
      cases ha : asgT mg ws[i] ρ2 with
      | none => rw [ha] at h2; exact h2.elim
      | some ρ4 =>
        rw [ha] at h2
        have h2 := h2.from (g.le s2.dom)
        refine ⟨_, _, ρ2, S2, ws[i], t4, rep, ρ4, ha, fun σ5 t5 _ _ => ?_⟩
        refine ⟨_, ρ4, S2, t5, ?_⟩
        simp only at h2
        cases q : evS cf mb ρ4 S2 with
        | stuck => rw [q] at h2; exact h2
        | exn n w ρ3 S3 => rw [q] at h2; exact h2
        | ok f ρ3 S3 =>
          rw [q, Out.bind_ok] at h2
          cases f with
          | nx => exact fun σ' d' H' s4 l => ⟨d', ρ3, S3, s4, le4.trans l, h2.from l⟩
          | ct => exact fun σ' d' H' s4 l => ⟨d', ρ3, S3, s4, le4.trans l, h2.from l⟩
          | br => exact h2
          | rt r => exact h2
    · have hi4 : i = ws.length := by omega
      rw [hi4, List.drop_length] at h2
      simp only [forL] at h2
      exact .inl ⟨it1 i (by omega), h2 σ2 d2 H2 s2 .refl⟩
end
end NV
set_option Elab.async false
set_option linter.all false
set_option maxRecDepth 100000
set_option maxHeartbeats 1000000
/-! # Comprehensions as values; defs -/
namespace NV
open PySem PySem.Spec PyProof.Rows L2
section
variable {c : Cn} {k : Ck} {ex exB : EX} {cf : CallF} {X : Cx}
variable {e : Ent} {d d' : Wd} {ρ ρ' : Env} {S S' : Sto} {σ : L2.St} {H H' : Hp} {tg : Expr} {D : Ends}
theorem ok_edict {pos : Pos} : EOk c ex X (.Dict [] [] pos) (evE cf .edict) := by
  refine .of_plain (pe_imp pe_dnewK fun σ H Q ⟨e, d, ρ, S, s, h⟩ p hp => ?_) (fun _ => rfl) (fun _ _ _ z => by cases z)
  simp only [evE] at h
  refine s.fin h ⟨(· = p), .one hp, ?_⟩
  show Rep c (d.more (· = p)) (upd H p (.dK [])) (.dct [] []) (.ref p)
  simp only [Rep]
  exact ⟨p, [], rfl, .inr rfl, upd_same, .nil, .nil⟩
theorem EOk.lc {elt tg iter : Expr} {ifs : List Expr} {scope : Scope} {own : List (Str × Nat)} {pos : Pos} {src tgt cond me : M} (o : CxOk c k ex cf X) (ok : BlkOk X.N X.env.scope scope own)
    (hi : PI X tg iter (TIt c ex (evI cf src)))
    (hg : ∀ (s : Shared) (H : Hp) (C : Addr) (cl : List (Str × Addr)) (fp : List Addr), PG (X.blk s H scope (compEnvC scope cl C X.env) fp) tg (TGt c tgt))
    (ht : ∀ (s : Shared) (H : Hp) (C : Addr) (cl : List (Str × Addr)) (fp : List Addr), PTs (X.blk s H scope (compEnvC scope cl C X.env) fp) ifs (TBo c exB (tst (evE cf cond))))
    (he : ∀ (s : Shared) (H : Hp) (C : Addr) (cl : List (Str × Addr)) (fp : List Addr), PE (X.blk s H scope (compEnvC scope cl C X.env) fp) elt (TV c exB (evE cf me)))
    (hs : ∀ x, foldedSetIterable iter X.env x = pure x) (hsl : ∀ i ∈ slotsT tgt, i ∈ own.map (·.2)) : EOk c ex X (.ListComp elt [⟨tg, iter, ifs, 0⟩] scope pos) (evE cf (.lc (own.map (·.2)) src tgt cond me)) :=
  .of_plain (pe_imp (pe_lc o.calm o.nd hi ok hg ht he hs) (g_lc o (pos := pos) ok hi hg ht he hs hsl)) (fun _ => rfl) (fun _ _ _ z => by cases z)
def swLc (k : Ck) (y : Str) (py pos : Pos) (scope : Scope) : Bool := (decide (k.sc.names.lookup y = some .local) && (py.line == pos.line)) && !(scope.names.any fun (n, k) => n == y && (k == .local || k == .cell))
theorem s_asgLc {elt tg iter : Expr} {ifs : List Expr} {scope : Scope} {own : List (Str × Nat)} {pos spos py : Pos} {src tgt cond me : M} {i : Nat} {y : Str} (o : CxOk c k ex cf X) (hk : X.env.scope.kind = .function) (ha : asgB k i y = true) (ok : BlkOk X.N X.env.scope scope own)
    (hi : PI X tg iter (TIt c ex (evI cf src)))
    (hg : ∀ (s : Shared) (H : Hp) (C : Addr) (cl : List (Str × Addr)) (fp : List Addr), PG (X.blk s H scope (compEnvC scope cl C X.env) fp) tg (TGt c tgt))
    (ht : ∀ (s : Shared) (H : Hp) (C : Addr) (cl : List (Str × Addr)) (fp : List Addr), PTs (X.blk s H scope (compEnvC scope cl C X.env) fp) ifs (TBo c exB (tst (evE cf cond))))
    (he : ∀ (s : Shared) (H : Hp) (C : Addr) (cl : List (Str × Addr)) (fp : List Addr), PE (X.blk s H scope (compEnvC scope cl C X.env) fp) elt (TV c exB (evE cf me)))
    (hs : ∀ x, foldedSetIterable iter X.env x = pure x) (hsl : ∀ i ∈ slotsT tgt, i ∈ own.map (·.2)) : PS X (.Assign [.Name y py] (.ListComp elt [⟨tg, iter, ifs, 0⟩] scope pos) spos) (TSt c ex e (evS cf (.asg i (.lc (own.map (·.2)) src tgt cond me)))) := by
  obtain ⟨h1, h2, h3⟩ := asg_loc o ha
  have key := asg_key (e := e) (i := i) o (g_lc o (pos := pos) ok hi hg ht he hs hsl)
  cases hsw : swLc k y py pos scope with
  | true =>
    unfold swLc at hsw
    simp only [Bool.and_eq_true, Bool.not_eq_true', decide_eq_true_eq] at hsw
    have hl : X.env.scope.names.lookup y = some .local := by rw [o.sc]; exact hsw.1.1
    exact ps_imp (ps_setLc o.calm o.nd h1 hl (sw_true hk hl hsw.1.2 hsw.2) hi ok hg ht he hs) key
  | false =>
    refine ps_imp (ps_set o.nd h1 h2 (pe_lc o.calm o.nd hi ok hg ht he hs) ?_ h3) key
    have hb : X.env.blockKind = .function := by unfold Env.blockKind; rw [hk]; rfl
    have ky : X.env.kindOf y = k.sc.names.lookup y := by show X.env.scope.names.lookup y = _; rw [o.sc]
    unfold swLc at hsw
    unfold swapsWith
    simp only [hb, ky, Expr.pos]
    have e1 : (some NameKind.local == some NameKind.local) = true := rfl
    have : (k.sc.names.lookup y == some .local) = decide (k.sc.names.lookup y = some .local) := by
      by_cases z : k.sc.names.lookup y = some .local
      · rw [z]; rfl
      · rw [decide_eq_false z, beq_eq_false_iff_ne]; exact z
    rw [this]
    rw [show (ScopeKind.function == ScopeKind.function) = true from rfl, Bool.true_and]
    rw [hsw]
/-! ### defs -/
theorem Sim.ext (s : Sim c e d ρ S σ H) (n : Nat) : Sim c e d (ρ ++ List.replicate n none) S (σ ++ List.replicate n none) H := by
  have getE : ∀ {i : Nat} {sv : SV}, (ρ ++ List.replicate n none)[i]? = some (some sv) → ρ[i]? = some (some sv) := fun {i sv} z => by
    by_cases hi : i < ρ.length
    · rwa [List.getElem?_append_left hi] at z
    · rw [List.getElem?_append_right (by omega), List.getElem?_replicate] at z
      split at z <;> cases z
  have getS : ∀ {i : Nat} {v : V}, (σ ++ List.replicate n none)[i]? = some (some v) → σ[i]? = some (some v) := fun {i v} z => by
    by_cases hi : i < σ.length
    · rwa [List.getElem?_append_left hi] at z
    · rw [List.getElem?_append_right (by omega), List.getElem?_replicate] at z
      split at z <;> cases z
  have putE : ∀ {i : Nat} {sv : SV}, ρ[i]? = some (some sv) → (ρ ++ List.replicate n none)[i]? = some (some sv) := fun {i sv} z => by
    rw [List.getElem?_append_left (List.getElem?_eq_some_iff.mp z).1]; exact z
  have putS : ∀ {i : Nat} {v : V}, σ[i]? = some (some v) → (σ ++ List.replicate n none)[i]? = some (some v) := fun {i v} z => by
    rw [List.getElem?_append_left (List.getElem?_eq_some_iff.mp z).1]; exact z
  have back : ∀ j b, ownAt (ρ ++ List.replicate n none) (σ ++ List.replicate n none) j b → ownAt ρ σ j b := fun j b ⟨⟨l, z⟩, z2⟩ => ⟨⟨l, getE z⟩, getS z2⟩
  exact {
    le0 := s.le0
    dom := s.dom
    fr := s.fr
    new := s.new
    mun := s.mun
    dm := s.dm
    mlen := s.mlen
    nodup := s.nodup
    cell := s.cell
    len := by rw [List.length_append, List.length_append, s.len, List.length_replicate, List.length_replicate]
    slot := fun j sv q => by
      obtain ⟨v, q1, q2⟩ := s.slot j sv (getE q)
      exact ⟨v, putS q1, q2⟩
    own := fun j b hb => s.own j b (back j b hb)
    inj := fun j j' b h1 h2 => s.inj j j' b (back _ _ h1) (back _ _ h2)
    par := fun p hp => by
      obtain ⟨q1, l, q2⟩ := s.par p hp
      exact ⟨putS q1, l, putE q2⟩ }
/-- the parameters, behind the body -/
def backP : List SV → Env → Env
  | [], _ => []
  | .val w :: r, _ :: t => some (.val w) :: backP r t
  | .own _ :: r, s :: t => s :: backP r t
  | .val w :: r, [] => some (.val w) :: backP r []
  | .own _ :: r, [] => none :: backP r []
theorem backP_len : ∀ {args : List SV} {ρ : Env}, (backP args ρ).length = args.length
  | [], _ => rfl
  | .val _ :: r, _ :: t => congrArg Nat.succ (backP_len (args := r) (ρ := t))
  | .own _ :: r, _ :: t => congrArg Nat.succ (backP_len (args := r) (ρ := t))
  | .val _ :: r, [] => congrArg Nat.succ (backP_len (args := r) (ρ := []))
  | .own _ :: r, [] => congrArg Nat.succ (backP_len (args := r) (ρ := []))
theorem backP_at : ∀ {args : List SV} {ρ : Env} {j : Nat} {sv : SV}, (backP args ρ)[j]? = some (some sv) → (∃ w, args[j]? = some (.val w) ∧ sv = .val w) ∨ (∃ l, args[j]? = some (.own l) ∧ ρ[j]? = some (some sv))
  | .val w :: r, _ :: t, 0, sv, h => by cases h; exact .inl ⟨w, rfl, rfl⟩
  | .own l :: r, s :: t, 0, sv, h => by
    have h : s = some sv := by simpa [backP] using h
    exact .inr ⟨l, rfl, by rw [h]; rfl⟩
  | .val w :: r, [], 0, sv, h => by cases h; exact .inl ⟨w, rfl, rfl⟩
  | .own l :: r, [], 0, sv, h => by cases h
  | .val w :: r, _ :: t, j + 1, sv, h => by simpa using backP_at (args := r) (ρ := t) (j := j) (by simpa [backP] using h)
  | .own l :: r, s :: t, j + 1, sv, h => by simpa using backP_at (args := r) (ρ := t) (j := j) (by simpa [backP] using h)
  | .val w :: r, [], j + 1, sv, h => by simpa using backP_at (args := r) (ρ := []) (j := j) (by simpa [backP] using h)
  | .own l :: r, [], j + 1, sv, h => by simpa using backP_at (args := r) (ρ := []) (j := j) (by simpa [backP] using h)
theorem backP_own : ∀ {args : List SV} {ρ : Env} {j : Nat} {l : Bool × List W} {sv : SV}, args[j]? = some (.own l) → ρ[j]? = some (some sv) → (backP args ρ)[j]? = some (some sv)
  | .own l :: r, s :: t, 0, _, sv, h, h2 => by simpa [backP] using h2
  | .val w :: r, _ :: t, j + 1, _, sv, h, h2 => by simpa [backP] using backP_own (args := r) (ρ := t) (j := j) (by simpa using h) (by simpa using h2)
  | .own l :: r, s :: t, j + 1, _, sv, h, h2 => by simpa [backP] using backP_own (args := r) (ρ := t) (j := j) (by simpa using h) (by simpa using h2)
theorem Sim.params {args : List SV} {vs : List V} (s : Sim c e d (args.map some) S (vs.map some) H) (hP : ∀ i a, ownAt (args.map some) (vs.map some) i a → (i, a) ∈ e.P) (t : Sim c e d' ρ' S' σ H') (le : Le d H d' H') :
    Sim c e d' (backP args ρ') S' (vs.map some) H' ∧ ∀ r v, RvR c e d' ρ' σ H' r v → RvR c e d' (backP args ρ') (vs.map some) H' r v := by
  have getV : ∀ {j : Nat} {v : V}, (vs.map some)[j]? = some (some v) → vs[j]? = some v := fun {j v} z => by
    rw [List.getElem?_map] at z
    cases q : vs[j]? with
    | none => rw [q] at z; cases z
    | some x => rw [q] at z; cases z; rfl
  have putA : ∀ {j : Nat} {v : SV}, args[j]? = some v → (args.map some)[j]? = some (some v) := fun {j v} z => by rw [List.getElem?_map, z]; rfl
  /- an own parameter's slot -/
  have slotO : ∀ {j : Nat} {l : Bool × List W}, args[j]? = some (.own l) → ∃ a, (vs.map some)[j]? = some (some (V.ref a)) ∧ (j, a) ∈ e.P ∧ σ[j]? = some (some (V.ref a)) := fun {j l} h => by
    obtain ⟨v, q1, a, us, e1, _⟩ := s.slot j _ (putA h)
    subst e1
    have oa : ownAt (args.map some) (vs.map some) j a := ⟨⟨l, putA h⟩, q1⟩
    have hp := hP j a oa
    exact ⟨a, q1, hp, (t.par _ hp).1⟩
  have back : ∀ j b, ownAt (backP args ρ') (vs.map some) j b → ownAt ρ' σ j b := fun j b ⟨⟨l, z⟩, z2⟩ => by
    rcases backP_at z with ⟨w, _, h2⟩ | ⟨l2, h1, h2⟩
    · cases h2
    · obtain ⟨a, q1, q2, q3⟩ := slotO h1
      rw [z2] at q1; cases q1
      exact ⟨⟨l, h2⟩, q3⟩
  have main : Sim c e d' (backP args ρ') S' (vs.map some) H' := {
    le0 := t.le0
    dom := t.dom
    fr := t.fr
    new := t.new
    mun := t.mun
    dm := t.dm
    mlen := t.mlen
    nodup := t.nodup
    cell := t.cell
    len := by
      have := s.len
      rw [List.length_map] at this
      rw [backP_len, ← this]
    slot := fun j sv z => by
      rcases backP_at z with ⟨w, h1, h2⟩ | ⟨l2, h1, h2⟩
      · subst h2
        obtain ⟨v, q1, q2⟩ := s.slot j _ (putA h1)
        exact ⟨v, q1, Rep.mono le q2⟩
      · obtain ⟨a, q1, q2, q3⟩ := slotO h1
        obtain ⟨v, q4, q5⟩ := t.slot j sv h2
        rw [q3] at q4; cases q4
        exact ⟨_, q1, q5⟩
    own := fun j b hb => t.own j b (back j b hb)
    inj := fun j j' b h1 h2 => t.inj j j' b (back _ _ h1) (back _ _ h2)
    par := fun p hp => by
      obtain ⟨q1, l, q2⟩ := s.par p hp
      obtain ⟨q3, l2, q4⟩ := t.par p hp
      refine ⟨q1, l2, ?_⟩
      rw [List.getElem?_map] at q2
      cases q : args[p.1]? with
      | none => rw [q] at q2; cases q2
      | some x =>
        rw [q] at q2; cases q2
        exact backP_own q q4 }
  refine ⟨main, fun r v hr => ?_⟩
  cases r with
  | val w => exact hr
  | fresh x =>
    obtain ⟨a, us, e1, r1, r2, r3, r4, r5, r6⟩ := hr
    exact ⟨a, us, e1, r1, r2, r3, r4, r5, fun ⟨j, z⟩ => r6 ⟨j, back j a z⟩⟩
/-- a def run -/
def runF (cf : CallF) (ar ns : Nat) (b : MS) (args : List SV) (S : Sto) : Out RV := if args.length = ar then
    match evS cf b (args.map some ++ List.replicate (ns - ar) none) S with
    | .ok (.rt r) ρ S' => .ok r (backP args ρ) S'
    | .ok .nx ρ S' => .ok (.val .non) (backP args ρ) S'
    | .exn k w ρ S' => .exn k w (backP args ρ) S'
    | _ => .stuck
  else .stuck
theorem FnG.of {CX : CXT} {P : Program} {w : World} {K : PySem.W.Frag} {mg : Str → Option Value} {base : Heap} {k : Nat} {f : Addr} {name qual : Str} {params : Arguments} {body : List Stmt} {scope : Scope} {dV kV doc pm cdv ct oc : Value} {an od : Option Addr}
    {osl : Array (Option Value)} {N ps : List Str} {sp : Sp} (lk : K.lookup f = some ⟨oc, od, .func (PySem.W.fnOf name qual params body scope dV kV doc pm an cdv ct), osl⟩) (hcd : PySem.W.codeIn K cdv qual = true) (S : FnScope N ps scope)
    (len : ∀ vs H Q E, sp vs H Q E → vs.length = ps.length)
    (hbody : ∀ (A : Around) (outer : List PySem.Env) (s : Shared) (H : Hp) (vs : List V) (Q : VK) (E : XK), Room k (A.deeper (envOfC qual scope s.heap.objs.size f cdv)) → A.guards = some [] → sp vs H Q E →
      ∃ t, PSs (cxOf CX P w K mg base N qual scope f cdv A outer s H E) body t ∧ t { nx := fun _ H' => Q .non H', rt := Q } (start N vs) H) :
    FnG P w K mg base CX (k + 1) f (PySem.W.fnOf name qual params body scope dV kV doc pm an cdv ct) ps sp := by
  refine ⟨len, fun A outer s H args us vs Q E hr hg e0 hb r hsp => ?_⟩
  have hl := len _ _ _ _ hsp
  have KX : K.In s.heap := e0.mod.kin.keeps fun b o e => (e0.bs b o e).1
  have lim : s.heap.NoLimit := e0.mod.nolimit.keeps fun b o e => (e0.bs b o e).1
  have hkind : ∀ y ∈ ps.zip us, scope.names.lookup y.1 = some .local ∨ (scope.names.lookup y.1 = some .cell ∧ ((cellsFrom (s.heap.objs.size + 1) scope.names []).lookup y.1).isSome = true) := fun ⟨n, v⟩ hy => by
    rcases S.par n (List.of_mem_zip hy).1 with q | q
    · exact .inl q
    · exact .inr ⟨q, PySem.W.cellsFrom_some _ _ _ (.inl q)⟩
  refine codeAny_call_function hr.depth (KX _ _ lk) rfl S.co S.gen rfl (PySem.W.codeRec_of KX hcd) (hb _ _ _ _ ?_)
  refine wpAny_newFunctionEnv_cells S.kind hkind fun env he s1 x => ?_
  subst he
  refine ⟨lim.keeps x.toInCall.keep, codeAny_func ?_⟩
  obtain ⟨t, ht, hq⟩ := hbody A outer s H vs Q E (hr.deeper _) hg hsp
  have I : Inv (cxOf CX P w K mg base N qual scope f cdv A outer s H E) [] (start N vs) H s1 := inv_start S hr.hd e0 hl r x
  refine wpAny_mono (ht.run [] s1 (start N vs) H _ I hq) (fun fl s' hs => ?_) fun e s' hs => hs
  have fin : ∀ {σ' : L2.St} {H' : Hp} {v : V} {u : Value}, Inv (cxOf CX P w K mg base N qual scope f cdv A outer s H E) [] σ' H' s' → RelV v u → Q v H' → CE outer P w H s Q u s' :=
    fun {σ' H' v u} J rv q => ⟨v, H', J.os, J.bare, J.base, J.hok, rv, q⟩
  cases fl with
  | ret u =>
    obtain ⟨v, σ', H', J, rv, q⟩ := hs
    exact fin J rv q
  | next =>
    obtain ⟨σ', H', J, q⟩ := hs
    exact fin (v := V.non) (u := Value.none) J rfl q
  | brk =>
    obtain ⟨_, _, _, q⟩ := hs
    exact False.elim q
  | cont =>
    obtain ⟨_, _, _, q⟩ := hs
    exact False.elim q
end
end NV
set_option Elab.async false
set_option linter.all false
set_option maxRecDepth 100000
set_option maxHeartbeats 4000000
/-! # This text is that little text -/
namespace NV
open PySem PySem.Spec PyProof.Rows L2
mutual
def W.beq : W → W → Bool
  | .non, .non => true
  | .bl a, .bl b => a == b
  | .int a, .int b => decide (a = b)
  | .str a, .str b => decide (a = b)
  | .tup a, .tup b => W.beqs a b
  | .lst a, .lst b => W.beqs a b
  | .flst a, .flst b => W.beqs a b
  | .dct a b, .dct a' b' => W.beqs a a' && W.beqs b b'
  | .fn a, .fn b => decide (a = b)
  | _, _ => false
def W.beqs : List W → List W → Bool
  | [], [] => true
  | a :: r, b :: t => W.beq a b && W.beqs r t
  | _, _ => false
end
mutual
theorem W.beq_eq : ∀ {a b : W}, W.beq a b = true → a = b
  | .non, b, h => by cases b <;> first | rfl | (simp only [W.beq] at h; cases h)
  | .bl a, b, h => by cases b <;> first | (simp only [W.beq] at h; rw [eq_of_beq h]) | (simp only [W.beq] at h; cases h)
  | .int a, b, h => by cases b <;> first | (simp only [W.beq] at h; rw [of_decide_eq_true h]) | (simp only [W.beq] at h; cases h)
  | .str a, b, h => by cases b <;> first | (simp only [W.beq] at h; rw [of_decide_eq_true h]) | (simp only [W.beq] at h; cases h)
  | .tup a, b, h => by cases b <;> first | (simp only [W.beq] at h; rw [W.beqs_eq h]) | (simp only [W.beq] at h; cases h)
  | .lst a, b, h => by cases b <;> first | (simp only [W.beq] at h; rw [W.beqs_eq h]) | (simp only [W.beq] at h; cases h)
  | .flst a, b, h => by cases b <;> first | (simp only [W.beq] at h; rw [W.beqs_eq h]) | (simp only [W.beq] at h; cases h)
  | .dct a a', b, h => by
    cases b <;> first | (simp only [W.beq, Bool.and_eq_true] at h; rw [W.beqs_eq h.1, W.beqs_eq h.2]) | (simp only [W.beq] at h; cases h)
  | .fn a, b, h => by cases b <;> first | (simp only [W.beq] at h; rw [of_decide_eq_true h]) | (simp only [W.beq] at h; cases h)
  | .ref a, b, h => by cases b <;> (simp only [W.beq] at h; cases h)
  | .exc a w, b, h => by cases b <;> (simp only [W.beq] at h; cases h)
theorem W.beqs_eq : ∀ {a b : List W}, W.beqs a b = true → a = b
  | [], b, h => by cases b <;> first | rfl | (simp only [W.beqs] at h; cases h)
  | x :: r, b, h => by
    cases b <;> first | (simp only [W.beqs, Bool.and_eq_true] at h; rw [W.beq_eq h.1, W.beqs_eq h.2]) | (simp only [W.beqs] at h; cases h)
end
def hasGc (k : Ck) (x : Str) (w : W) : Bool := k.gcs.any fun p => decide (p.1 = x) && W.beq p.2 w
theorem hasGc_mem {k : Ck} {x : Str} {w : W} (h : hasGc k x w = true) : (x, w) ∈ k.gcs := by
  unfold hasGc at h
  rw [List.any_eq_true] at h
  obtain ⟨p, h1, h2⟩ := h
  rw [Bool.and_eq_true, decide_eq_true_eq] at h2
  rw [← h2.1, ← W.beq_eq h2.2]; exact h1
def hasGd (k : Ck) (x : Str) (ks vs : List W) : Bool := k.gds.any fun p => decide (p.1 = x) && (W.beqs p.2.1 ks && W.beqs p.2.2 vs)
theorem hasGd_mem {k : Ck} {x : Str} {ks vs : List W} (h : hasGd k x ks vs = true) : (x, ks, vs) ∈ k.gds := by
  unfold hasGd at h
  rw [List.any_eq_true] at h
  obtain ⟨p, h1, h2⟩ := h
  simp only [Bool.and_eq_true, decide_eq_true_eq] at h2
  rw [← h2.1, ← W.beqs_eq h2.2.1, ← W.beqs_eq h2.2.2]; exact h1
def isNilM : M → Bool
  | .nil => true
  | _ => false
theorem isNil_eq {m : M} (h : isNilM m = true) : m = .nil := by cases m <;> first | rfl | cases h
def isYes : M → Bool
  | .cst (.bl true) => true
  | _ => false
theorem isYes_eq {m : M} (h : isYes m = true) : m = .cst (.bl true) := by
  unfold isYes at h
  split at h
  · rfl
  · cases h
def noSet : Expr → Bool
  | .Set _ _ _ => false
  | _ => true
theorem noSet_of {e : Expr} {env : PySem.Env} (h : noSet e = true) (x : Value) : foldedSetIterable e env x = pure x := by
  cases e <;> first | rfl | cases h
def few1 : List Expr → Bool
  | [] => true
  | [e] => noStar e
  | _ => false
def isTupE : Expr → Bool
  | .Tuple _ _ _ => true
  | _ => false
/-- a comprehension's own names -/
def ownN (k : Ck) (own : List Nat) : List (Str × Nat) := own.map fun i => ((k.N[i]?).getD "", i)
theorem ownN_snd {k : Ck} {own : List Nat} : (ownN k own).map (·.2) = own := by
  unfold ownN
  rw [List.map_map]
  exact List.map_id _
def argC (k : Ck) (f : Expr → Bool) : M → Expr → Bool
  | .pk i, e => match e with
    | .Name x _ => visB k i x
    | _ => false
  | _, e => f e
def optC (f : Expr → Bool) : M → Option Expr → Bool
  | .nil, e => e.isNone
  | _, e => match e with
    | some x => f x
    | none => false
mutual
def chkT (k : Ck) : M → Expr → Bool
  | .tnm i, e => match e with
    | .Name x _ => asgB k i x
    | _ => false
  | .ttup ts, e => match e with
    | .Tuple es _ _ => chkTs k ts es
    | _ => false
  | _, _ => false
def chkTs (k : Ck) : M → List Expr → Bool
  | .nil, es => es.isEmpty
  | .cons a b, es => match es with
    | e :: r => (chkT k a e && isTgt e) && chkTs k b r
    | [] => false
  | _, _ => false
end
mutual
def chkE (k : Ck) : M → Expr → Bool
  | .cst w, e => match e with
    | .Constant c _ _ => constEq c w
    | _ => false
  | .nm i, e => match e with
    | .Name x _ => visB k i x
    | _ => false
  | .gf f, e => match e with
    | .Name x _ => glB k x && decide (k.fns[f]? = some x)
    | _ => false
  | .gc y w, e => match e with
    | .Name x _ => decide (x = y) && (glB k y && hasGc k y w)
    | _ => false
  | .gd y ks vs m, e => match e with
    | .Subscript (.Name x _) a _ => decide (x = y) && ((glB k y && hasGd k y ks vs) && (chkE k m a && noSlice a))
    | _ => false
  | .tup m, e => match e with
    | .Tuple es _ _ => chkA k m es
    | _ => false
  | .lst m, e => match e with
    | .List es _ => chkA k m es
    | _ => false
  | .op2 p a b, e => match p, e with
    | .bin o, .BinOp x o' y _ => decide (o = o') && (argC k (chkE k a) a x && argC k (chkE k b) b y)
    | .cmp o, .Compare x [o'] [y] _ => (decide (o = o') && !(behindInMarks o y)) && (argC k (chkE k a) a x && argC k (chkE k b) b y)
    | .ix, .Subscript x y _ => noSlice y && (argC k (chkE k a) a x && argC k (chkE k b) b y)
    | _, _ => false
  | .neg a, e => match e with
    | .UnaryOp .USub x _ => chkE k a x
    | _ => false
  | .sl a lo hi, e => match e with
    | .Subscript x (.Slice l h none _) _ => argC k (chkE k a) a x && (optC (chkE k lo) lo l && optC (chkE k hi) hi h)
    | _ => false
  | .bi b m, e => match e with
    | .Call (.Name x _) (y :: es) [] _ => (decide (x = biN b) && (glB k (biN b) && decide (biN b ∈ k.free))) && (chkA k m (y :: es) && (noStar y && es.all noStar))
    | _ => false
  | .me me m ma, e => match e with
    | .Call (.Attribute a n apos) [] [] pos => (decide (me = .bitLength) && decide (n = "bit_length")) && ((argC k (chkE k m) m a && isNilM ma) && (baseB a && (apos.endLine == pos.line)))
    | .Call (.Attribute a n apos) [x] [] pos => ((decide (me = .join) || decide (me = .count)) && decide (n = meN me)) && ((argC k (chkE k m) m a && (chkA k ma [x] && noStar x)) && (baseB a && (apos.endLine == pos.line)))
    | _ => false
  | .isi a ts, e => match e with
    | .Call (.Name x _) [y, t] [] _ => (decide (x = "isinstance") && (glB k "isinstance" && decide (("isinstance" : Str) ∈ k.free))) && (argC k (chkE k a) a y && (noStar y && isiB k ts t))
    | _ => false
  | .and a b, e => match e with
    | .BoolOp .And [x, y] _ => chkE k a x && chkE k b y
    | .BoolOp .And (x :: y :: z :: r) pos => chkE k a x && chkE k b (.BoolOp .And (y :: z :: r) pos)
    | _ => false
  | .or a b, e => match e with
    | .BoolOp .Or [x, y] _ => chkE k a x && chkE k b y
    | .BoolOp .Or (x :: y :: z :: r) pos => chkE k a x && chkE k b (.BoolOp .Or (y :: z :: r) pos)
    | _ => false
  | .not a, e => match e with
    | .UnaryOp .Not x _ => chkE k a x
    | _ => false
  | .ite t a b, e => match e with
    | .IfExp x y z _ => chkE k t x && (chkE k a y && chkE k b z)
    | _ => false
  | .chain o1 o2 a b c, e => match e with
    | .Compare x [p, q] [y, z] _ => ((decide (o1 = p) && decide (o2 = q)) && !(lastMarks [p, q] [y, z])) && (chkE k a x && (chkE k b y && chkE k c z))
    | _ => false
  | .call f m, e => match e with
    | .Call (.Name x _) es [] _ => (glB k x && decide (k.fns[f]? = some x)) && (match k.pars[f]? with
      | some ps => (decide ps.Nodup && decide (lenM m = ps.length)) && ((chkA k m es && es.all noStar) && (!es.isEmpty || isNilM m))
      | none => false)
    | _ => false
  | .callk f perm m mk, e => match e with
    | .Call (.Name x _) es kws _ => (glB k x && decide (k.fns[f]? = some x)) && (match k.pars[f]?, kwN kws with
      | some ps, some ks => (kwB ps ks perm (lenM m) && decide (lenM mk = ks.length)) && ((chkA k m es && (chkK k mk kws && es.all noStar)) && (!es.isEmpty || isNilM m))
      | _, _ => false)
    | _ => false
  | .mut me i m, e => match e with
    | .Call (.Attribute (.Name x _) n apos) es [] pos => (decide (n = muN me) && visB k i x) && ((chkA k m es && few1 es) && ((apos.endLine == pos.line) && (!es.isEmpty || (decide (me = .pop) && isNilM m))))
    | _ => false
  | .hmut me a m, e => match e with
    | .Call (.Attribute x n apos) es [] pos => (decide (n = muN me) && (argC k (chkE k a) a x && baseB x)) && ((chkA k m es && few1 es) && ((apos.endLine == pos.line) && (!es.isEmpty || (decide (me = .pop) && isNilM m))))
    | _ => false
  | .heap a, e => chkE k a e
  | .edict, e => match e with
    | .Dict [] [] _ => true
    | _ => false
  | .lc own src tgt cond elt, e => match e with
    | .ListComp el [⟨tg, it, ifs, 0⟩] scope _ => (blkC k.N k.sc scope (ownN k own) && (noSet it && (slotsT tgt).all fun i => decide (i ∈ own))) &&
        ((chkI k src tg it && chkT (k.blk scope) tgt tg) && ((match ifs with
          | [] => isYes cond
          | [x] => chkE (k.blk scope) cond x
          | _ => false) && chkE (k.blk scope) elt el))
    | _ => false
  | _, _ => false
def chkA (k : Ck) : M → List Expr → Bool
  | .nil, es => es.isEmpty
  | .cons a b, es => match es with
    | e :: r => (argC k (chkE k a) a e && noStar e) && chkA k b r
    | [] => false
  | _, _ => false
def chkI (k : Ck) : M → Expr → Expr → Bool
  | .seq a, _, it => chkE k a it
  | .rng m, _, it => match it with
    | .Call (.Name x _) es [] _ => (decide (x = "range") && (glB k "range" && decide (("range" : Str) ∈ k.free))) && ((chkA k m es && es.all noStar) && (decide (lenM m = es.length) && (decide (1 ≤ es.length) && decide (es.length ≤ 3))))
    | _ => false
  | .enum m, tg, it => match it with
    | .Call (.Name x _) es [] _ => (decide (x = "enumerate") && (glB k "enumerate" && decide (("enumerate" : Str) ∈ k.free))) && ((chkA k m es && es.all noStar) && (decide (lenM m = es.length) && (decide (es.length = 1) && isTupE tg)))
    | _ => false
  | .zip m, tg, it => match it with
    | .Call (.Name x _) es [] _ => (decide (x = "zip") && (glB k "zip" && decide (("zip" : Str) ∈ k.free))) && ((chkA k m es && es.all noStar) && (decide (lenM m = es.length) && (decide (es.length = 2) && isTupE tg)))
    | _ => false
  | _, _, _ => false
def chkK (k : Ck) : M → List Keyword → Bool
  | .nil, ks => ks.isEmpty
  | .cons a b, ks => match ks with
    | ⟨_, e, _⟩ :: r => argC k (chkE k a) a e && chkK k b r
    | [] => false
  | _, _ => false
end
section
variable {c : Cn} {cf : CallF}
theorem EOk.heap {ex : EX} {X : Cx} {e : Expr} {m : M} (h : EOk c ex X e (evE cf m)) : EOk c ex X e (evE cf (.heap m)) := by
  have key : ∀ {σ : L2.St} {H : Hp} {Q : Bool → Hp → Prop}, TBo c ex (tst (evE cf (.heap m))) σ H Q → TBo c ex (tst (evE cf m)) σ H Q := fun {σ H Q} ⟨e, d, ρ, S, s, q⟩ => by
    refine ⟨e, d, ρ, S, s, ?_⟩
    unfold tst at q ⊢
    simp only [evE] at q
    cases hm : evE cf m ρ S with
    | stuck => rw [hm] at q; exact q.elim
    | exn n w ρ1 S1 => rw [hm] at q; exact q
    | ok r ρ1 S1 =>
      rw [hm] at q
      simp only [Out.bind_ok] at q
      cases r with
      | val w => exact q.elim
      | fresh l => exact q.elim
  exact ⟨g_heap h, pt_imp h.pt fun _ _ _ => key, fun op vs pos z => pw_imp (h.pw op vs pos z) fun _ _ _ => key⟩
theorem av_of {k : Ck} {ex : EX} {X : Cx} {m : M} {e : Expr} (o : CxOk c k ex cf X) (ih : chkE k m e = true → EOk c ex X e (evE cf m)) (h : argC k (chkE k m) m e = true) : PE X e (TAv c ex (evV cf m)) := by
  cases m <;> first | exact av_val (ih h).pe | skip
  rename_i i
  cases e <;> first | (cases h; done) | exact av_pk o h
theorem op_of {k : Ck} {ex : EX} {X : Cx} {m : M} {e : Option Expr} (ih : ∀ x, chkE k m x = true → EOk c ex X x (evE cf m)) (h : optC (chkE k m) m e = true) : PO X e (TOp c ex (evO cf m)) := by
  cases e with
  | none => cases m <;> first | (cases h; done) | exact o_none
  | some x =>
    cases m <;> first | (cases h; done) | exact o_some (ih x h).pe (fun _ _ => rfl)
theorem tgt_ok {k : Ck} {ex : EX} {X : Cx} (o : CxOk c k ex cf X) : ∀ (m : M), (∀ e, chkT k m e = true → PG X e (TGt c m)) ∧ (∀ es, chkTs k m es = true → PGs X es (TGts c m) ∧ es.all isTgt = true ∧ lenM m = es.length) := by
  intro m
  induction m with
  | tnm i =>
    refine ⟨fun e h => ?_, fun es h => (by cases h)⟩
    cases e <;> first | (cases h; done) | exact tg_nm o h
  | ttup ts ih =>
    refine ⟨fun e h => ?_, fun es h => (by cases h)⟩
    cases e <;> first | (cases h; done) | skip
    obtain ⟨h1, h2, h3⟩ := ih.2 _ h
    exact tg_tup o h1 h2 h3
  | nil =>
    refine ⟨fun e h => (by cases h), fun es h => ?_⟩
    cases es with
    | nil => exact ⟨tgs_nil, rfl, rfl⟩
    | cons e r => cases h
  | cons a b iha ihb =>
    refine ⟨fun e h => (by cases h), fun es h => ?_⟩
    cases es with
    | nil => cases h
    | cons e r =>
      simp only [chkTs, Bool.and_eq_true] at h
      obtain ⟨h1, h2, h3⟩ := ihb.2 _ h.2
      exact ⟨tgs_cons (iha.1 _ h.1.1) h1 h.1.2, by rw [List.all_cons, h.1.2, h2]; rfl, congrArg Nat.succ h3⟩
  | _ => exact ⟨fun e h => (by cases h), fun es h => (by cases h)⟩
def SoundM (c : Cn) (cf : CallF) (m : M) : Prop :=
  (∀ k ex X e, CxOk c k ex cf X → chkE k m e = true → EOk c ex X e (evE cf m)) ∧
  (∀ k ex X es, CxOk c k ex cf X → chkA k m es = true → PA X es (TAs c ex (evA cf m))) ∧
  (∀ k ex X tg it, CxOk c k ex cf X → chkI k m tg it = true → PI X tg it (TIt c ex (evI cf m))) ∧
  (∀ k ex X kws, CxOk c k ex cf X → chkK k m kws = true → PK X kws (TAs c ex (evA cf m)))
theorem few1_ok {es : List Expr} (h : few1 es = true) : ∀ e r, es = e :: r → noStar e = true ∧ r = [] := by
  intro e r z
  subst z
  cases r with
  | nil => exact ⟨h, rfl⟩
  | cons a b => cases h
theorem emp_ok {es : List Expr} {b : Bool} (h : (!es.isEmpty || b) = true) (z : es = []) : b = true := by
  subst z; simpa using h
theorem sound : ∀ m : M, SoundM c cf m := by
  intro m
  induction m with
  | cst w =>
    refine ⟨fun k ex X e o h => ?_, fun k ex X es o h => (by cases h), fun k ex X tg it o h => (by cases h), fun k ex X kws o h => (by cases h)⟩
    cases e <;> first | (cases h; done) | exact ok_cst h
  | nm i =>
    refine ⟨fun k ex X e o h => ?_, fun k ex X es o h => (by cases h), fun k ex X tg it o h => (by cases h), fun k ex X kws o h => (by cases h)⟩
    cases e <;> first | (cases h; done) | exact ok_nm o h
  | gf i =>
    refine ⟨fun k ex X e o h => ?_, fun k ex X es o h => (by cases h), fun k ex X tg it o h => (by cases h), fun k ex X kws o h => (by cases h)⟩
    cases e <;> first | (cases h; done) | exact ok_gf o h
  | gc y w =>
    refine ⟨fun k ex X e o h => ?_, fun k ex X es o h => (by cases h), fun k ex X tg it o h => (by cases h), fun k ex X kws o h => (by cases h)⟩
    cases e <;> first | (cases h; done) | skip
    simp only [chkE, Bool.and_eq_true, decide_eq_true_eq] at h
    obtain ⟨rfl, h1, h2⟩ := h
    exact gc_pe o h1 (hasGc_mem h2)
  | gd y ks vs m ih =>
    refine ⟨fun k ex X e o h => ?_, fun k ex X es o h => (by cases h), fun k ex X tg it o h => (by cases h), fun k ex X kws o h => (by cases h)⟩
    simp only [chkE] at h
    split at h <;> first | (cases h; done) | skip
    simp only [Bool.and_eq_true, decide_eq_true_eq] at h
    obtain ⟨rfl, ⟨h1, h2⟩, h3, h4⟩ := h
    exact g_gd o h1 (hasGd_mem h2) (ih.1 _ _ _ _ o h3) h4
  | tup m ih =>
    refine ⟨fun k ex X e o h => ?_, fun k ex X es o h => (by cases h), fun k ex X tg it o h => (by cases h), fun k ex X kws o h => (by cases h)⟩
    cases e <;> first | (cases h; done) | exact g_tup o (ih.2.1 _ _ _ _ o h)
  | lst m ih =>
    refine ⟨fun k ex X e o h => ?_, fun k ex X es o h => (by cases h), fun k ex X tg it o h => (by cases h), fun k ex X kws o h => (by cases h)⟩
    cases e <;> first | (cases h; done) | exact g_lst o (ih.2.1 _ _ _ _ o h)
  | op2 p a b iha ihb =>
    refine ⟨fun k ex X e o h => ?_, fun k ex X es o h => (by cases h), fun k ex X tg it o h => (by cases h), fun k ex X kws o h => (by cases h)⟩
    simp only [chkE] at h
    split at h <;> first | (cases h; done) | skip
    · simp only [Bool.and_eq_true, decide_eq_true_eq] at h
      obtain ⟨rfl, h1, h2⟩ := h
      exact g_bin o (av_of o (iha.1 _ _ _ _ o) h1) (av_of o (ihb.1 _ _ _ _ o) h2)
    · simp only [Bool.and_eq_true, decide_eq_true_eq, Bool.not_eq_true'] at h
      obtain ⟨⟨rfl, h3⟩, h1, h2⟩ := h
      exact g_cmp o (av_of o (iha.1 _ _ _ _ o) h1) (av_of o (ihb.1 _ _ _ _ o) h2) h3
    · simp only [Bool.and_eq_true] at h
      obtain ⟨h3, h1, h2⟩ := h
      exact g_ix o (av_of o (iha.1 _ _ _ _ o) h1) (av_of o (ihb.1 _ _ _ _ o) h2) h3
  | neg a ih =>
    refine ⟨fun k ex X e o h => ?_, fun k ex X es o h => (by cases h), fun k ex X tg it o h => (by cases h), fun k ex X kws o h => (by cases h)⟩
    simp only [chkE] at h
    split at h <;> first | (cases h; done) | skip
    exact g_neg o (ih.1 _ _ _ _ o h).pe
  | sl a lo hi iha ihl ihh =>
    refine ⟨fun k ex X e o h => ?_, fun k ex X es o h => (by cases h), fun k ex X tg it o h => (by cases h), fun k ex X kws o h => (by cases h)⟩
    simp only [chkE] at h
    split at h <;> first | (cases h; done) | skip
    simp only [Bool.and_eq_true] at h
    obtain ⟨h1, h2, h3⟩ := h
    exact g_sl o (av_of o (iha.1 _ _ _ _ o) h1) (op_of (fun x => ihl.1 _ _ _ _ o) h2) (op_of (fun x => ihh.1 _ _ _ _ o) h3)
  | bi b m ih =>
    refine ⟨fun k ex X e o h => ?_, fun k ex X es o h => (by cases h), fun k ex X tg it o h => (by cases h), fun k ex X kws o h => (by cases h)⟩
    simp only [chkE] at h
    split at h <;> first | (cases h; done) | skip
    simp only [Bool.and_eq_true, decide_eq_true_eq] at h
    obtain ⟨⟨rfl, h1, h2⟩, h3, h4, h5⟩ := h
    exact g_bi o h1 h2 (ih.2.1 _ _ _ _ o h3) h4 h5
  | me me m ma ih ih2 =>
    refine ⟨fun k ex X e o h => ?_, fun k ex X es o h => (by cases h), fun k ex X tg it o h => (by cases h), fun k ex X kws o h => (by cases h)⟩
    simp only [chkE] at h
    split at h <;> first | (cases h; done) | skip
    · simp only [Bool.and_eq_true, decide_eq_true_eq] at h
      obtain ⟨⟨rfl, rfl⟩, ⟨h1, h2⟩, h3, h4⟩ := h
      have := isNil_eq h2
      subst this
      exact g_bits o (av_of o (ih.1 _ _ _ _ o) h1) h3 h4
    · simp only [Bool.and_eq_true, Bool.or_eq_true, decide_eq_true_eq] at h
      obtain ⟨⟨h0, rfl⟩, ⟨h1, h2, h5⟩, h3, h4⟩ := h
      exact g_me1 o h0 (av_of o (ih.1 _ _ _ _ o) h1) (ih2.2.1 _ _ _ _ o h2) h3 h4 h5 rfl
  | isi a ts ih =>
    refine ⟨fun k ex X e o h => ?_, fun k ex X es o h => (by cases h), fun k ex X tg it o h => (by cases h), fun k ex X kws o h => (by cases h)⟩
    simp only [chkE] at h
    split at h <;> first | (cases h; done) | skip
    simp only [Bool.and_eq_true, decide_eq_true_eq] at h
    obtain ⟨⟨rfl, h1, h2⟩, h3, h4, h5⟩ := h
    exact g_isi o h1 h2 (av_of o (ih.1 _ _ _ _ o) h3) h4 h5
  | and a b iha ihb =>
    refine ⟨fun k ex X e o h => ?_, fun k ex X es o h => (by cases h), fun k ex X tg it o h => (by cases h), fun k ex X kws o h => (by cases h)⟩
    simp only [chkE] at h
    split at h <;> first | (cases h; done) | skip
    · simp only [Bool.and_eq_true] at h
      exact g_and o (iha.1 _ _ _ _ o h.1) (g_one .And (ihb.1 _ _ _ _ o h.2))
    · simp only [Bool.and_eq_true] at h
      exact g_and o (iha.1 _ _ _ _ o h.1) (ihb.1 _ _ _ _ o h.2)
  | or a b iha ihb =>
    refine ⟨fun k ex X e o h => ?_, fun k ex X es o h => (by cases h), fun k ex X tg it o h => (by cases h), fun k ex X kws o h => (by cases h)⟩
    simp only [chkE] at h
    split at h <;> first | (cases h; done) | skip
    · simp only [Bool.and_eq_true] at h
      exact g_or o (iha.1 _ _ _ _ o h.1) (g_one .Or (ihb.1 _ _ _ _ o h.2))
    · simp only [Bool.and_eq_true] at h
      exact g_or o (iha.1 _ _ _ _ o h.1) (ihb.1 _ _ _ _ o h.2)
  | not a ih =>
    refine ⟨fun k ex X e o h => ?_, fun k ex X es o h => (by cases h), fun k ex X tg it o h => (by cases h), fun k ex X kws o h => (by cases h)⟩
    simp only [chkE] at h
    split at h <;> first | (cases h; done) | skip
    exact g_not o (ih.1 _ _ _ _ o h)
  | ite t a b iht iha ihb =>
    refine ⟨fun k ex X e o h => ?_, fun k ex X es o h => (by cases h), fun k ex X tg it o h => (by cases h), fun k ex X kws o h => (by cases h)⟩
    simp only [chkE] at h
    split at h <;> first | (cases h; done) | skip
    simp only [Bool.and_eq_true] at h
    exact g_ite o (iht.1 _ _ _ _ o h.1) (iha.1 _ _ _ _ o h.2.1) (ihb.1 _ _ _ _ o h.2.2)
  | chain o1 o2 a b z iha ihb ihz =>
    refine ⟨fun k ex X e o h => ?_, fun k ex X es o h => (by cases h), fun k ex X tg it o h => (by cases h), fun k ex X kws o h => (by cases h)⟩
    simp only [chkE] at h
    split at h <;> first | (cases h; done) | skip
    simp only [Bool.and_eq_true, decide_eq_true_eq, Bool.not_eq_true'] at h
    obtain ⟨⟨⟨rfl, rfl⟩, h1⟩, h2, h3, h4⟩ := h
    exact g_chain o (iha.1 _ _ _ _ o h2) (ihb.1 _ _ _ _ o h3) (ihz.1 _ _ _ _ o h4) h1
  | call f m ih =>
    refine ⟨fun k ex X e o h => ?_, fun k ex X es o h => (by cases h), fun k ex X tg it o h => (by cases h), fun k ex X kws o h => (by cases h)⟩
    simp only [chkE] at h
    split at h <;> first | (cases h; done) | skip
    rw [Bool.and_eq_true, Bool.and_eq_true, decide_eq_true_eq] at h
    obtain ⟨⟨h1, h2⟩, h⟩ := h
    split at h
    · rename_i ps hps
      simp only [Bool.and_eq_true, decide_eq_true_eq] at h
      obtain ⟨⟨h3, h4⟩, ⟨h5, h6⟩, h7⟩ := h
      exact g_call o h1 h2 hps h3 h4 (ih.2.1 _ _ _ _ o h5) h6 fun z => isNil_eq (emp_ok h7 z)
    · cases h
  | callk f perm m mk ih ih2 =>
    refine ⟨fun k ex X e o h => ?_, fun k ex X es o h => (by cases h), fun k ex X tg it o h => (by cases h), fun k ex X kws o h => (by cases h)⟩
    simp only [chkE] at h
    split at h <;> first | (cases h; done) | skip
    rw [Bool.and_eq_true, Bool.and_eq_true, decide_eq_true_eq] at h
    obtain ⟨⟨h1, h2⟩, h⟩ := h
    split at h
    · rename_i ps ks hps hks
      simp only [Bool.and_eq_true, decide_eq_true_eq] at h
      obtain ⟨⟨h3, h4⟩, ⟨h5, h6, h8⟩, h7⟩ := h
      exact g_callk o h1 h2 hps hks h3 h4 (ih.2.1 _ _ _ _ o h5) (ih2.2.2.2 _ _ _ _ o h6) h8 fun z => isNil_eq (emp_ok h7 z)
    · cases h
  | «mut» me i m ih =>
    refine ⟨fun k ex X e o h => ?_, fun k ex X es o h => (by cases h), fun k ex X tg it o h => (by cases h), fun k ex X kws o h => (by cases h)⟩
    simp only [chkE] at h
    split at h <;> first | (cases h; done) | skip
    simp only [Bool.and_eq_true, decide_eq_true_eq] at h
    obtain ⟨⟨rfl, h1⟩, ⟨h2, h3⟩, h4, h5⟩ := h
    refine g_mut o h1 (ih.2.1 _ _ _ _ o h2) h4 (few1_ok h3) fun z => ?_
    have := emp_ok h5 z
    rw [Bool.and_eq_true, decide_eq_true_eq] at this
    exact ⟨this.1, isNil_eq this.2⟩
  | hmut me a m iha ih =>
    refine ⟨fun k ex X e o h => ?_, fun k ex X es o h => (by cases h), fun k ex X tg it o h => (by cases h), fun k ex X kws o h => (by cases h)⟩
    simp only [chkE] at h
    split at h <;> first | (cases h; done) | skip
    simp only [Bool.and_eq_true, decide_eq_true_eq] at h
    obtain ⟨⟨rfl, h1, h6⟩, ⟨h2, h3⟩, h4, h5⟩ := h
    refine g_hmut o (av_of o (iha.1 _ _ _ _ o) h1) h6 (ih.2.1 _ _ _ _ o h2) h4 (few1_ok h3) fun z => ?_
    have := emp_ok h5 z
    rw [Bool.and_eq_true, decide_eq_true_eq] at this
    exact ⟨this.1, isNil_eq this.2⟩
  | heap a ih =>
    refine ⟨fun k ex X e o h => ?_, fun k ex X es o h => (by cases h), fun k ex X tg it o h => (by cases h), fun k ex X kws o h => (by cases h)⟩
    exact (ih.1 _ _ _ _ o h).heap
  | edict =>
    refine ⟨fun k ex X e o h => ?_, fun k ex X es o h => (by cases h), fun k ex X tg it o h => (by cases h), fun k ex X kws o h => (by cases h)⟩
    simp only [chkE] at h
    split at h <;> first | (cases h; done) | skip
    exact ok_edict
  | lc own src tgt cond elt ihs iht ihc ihe =>
    refine ⟨fun k ex X e o h => ?_, fun k ex X es o h => (by cases h), fun k ex X tg it o h => (by cases h), fun k ex X kws o h => (by cases h)⟩
    simp only [chkE] at h
    split at h <;> first | (cases h; done) | skip
    rename_i el tg it ifs scope pos
    simp only [Bool.and_eq_true, List.all_eq_true, decide_eq_true_eq] at h
    obtain ⟨⟨h1, h2, h3⟩, ⟨h4, h5⟩, h6, h7⟩ := h
    have hb : BlkOk X.N X.env.scope scope (ownN k own) := by rw [o.N, o.sc]; exact blkOk_by h1
    have := EOk.lc (k := k) (cf := cf) (ex := ex) (exB := exF) (elt := el) (tg := tg) (iter := it) (ifs := ifs) (pos := pos) (src := src) (tgt := tgt) (cond := cond) (me := elt) o hb (ihs.2.2.1 _ _ _ _ _ o h4)
      (fun s H C cl fp => (tgt_ok (o.blk s H scope C cl fp) tgt).1 _ h5) (fun s H C cl fp => ?_) (fun s H C cl fp => (ihe.1 _ _ _ _ (o.blk s H scope C cl fp) h7).pe) (noSet_of h2) (by rw [ownN_snd]; exact h3)
    · rw [ownN_snd] at this; exact this
    · split at h6
      · have := isYes_eq h6
        subst this
        refine ⟨fun pins s σ H Q I h => pts_nil.run pins s σ H Q I ?_⟩
        obtain ⟨e, d, ρ, S, s, q⟩ := h
        simp only [tst, evE, Out.bind_ok] at q
        exact q true d H s rfl
      · exact pts_one (ihc.1 _ _ _ _ (o.blk s H scope C cl fp) h6).pt
      · cases h6
  | nil =>
    refine ⟨fun k ex X e o h => (by cases h), fun k ex X es o h => ?_, fun k ex X tg it o h => (by cases h), fun k ex X kws o h => ?_⟩
    · cases es with
      | nil => exact as_nil
      | cons e r => cases h
    · cases kws with
      | nil => exact ks_nil
      | cons e r => cases h
  | cons a b iha ihb =>
    refine ⟨fun k ex X e o h => (by cases h), fun k ex X es o h => ?_, fun k ex X tg it o h => (by cases h), fun k ex X kws o h => ?_⟩
    · cases es with
      | nil => cases h
      | cons e r =>
        simp only [chkA, Bool.and_eq_true] at h
        exact as_cons (av_of o (iha.1 _ _ _ _ o) h.1.1) (ihb.2.1 _ _ _ _ o h.2) h.1.2
    · cases kws with
      | nil => cases h
      | cons e r =>
        obtain ⟨nm, e, kp⟩ := e
        simp only [chkK, Bool.and_eq_true] at h
        exact ks_cons (av_of o (iha.1 _ _ _ _ o) h.1) (ihb.2.2.2 _ _ _ _ o h.2)
  | seq a ih =>
    exact ⟨fun k ex X e o h => (by cases h), fun k ex X es o h => (by cases h), fun k ex X tg it o h => g_seq o (ih.1 _ _ _ _ o h), fun k ex X kws o h => (by cases h)⟩
  | rng m ih =>
    refine ⟨fun k ex X e o h => (by cases h), fun k ex X es o h => (by cases h), fun k ex X tg it o h => ?_, fun k ex X kws o h => (by cases h)⟩
    simp only [chkI] at h
    split at h <;> first | (cases h; done) | skip
    rename_i x p es pos
    simp only [Bool.and_eq_true, decide_eq_true_eq] at h
    obtain ⟨⟨rfl, h1, h2⟩, ⟨h3, h4⟩, h5, h6, h7⟩ := h
    match es, h3, h4, h5, h6, h7 with
    | [a], h3, h4, h5, h6, h7 => exact g_rng1 o h1 h2 (ih.2.1 _ _ _ _ o h3) h4 h5
    | [a, b], h3, h4, h5, h6, h7 => exact g_rng2 o h1 h2 (ih.2.1 _ _ _ _ o h3) h4 h5
    | [a, b, z], h3, h4, h5, h6, h7 => exact g_rng3 o h1 h2 (ih.2.1 _ _ _ _ o h3) h4 h5
    | [], h3, h4, h5, h6, h7 => exact absurd h6 (by simp)
    | _ :: _ :: _ :: _ :: _, h3, h4, h5, h6, h7 => exact absurd h7 (by simp)
  | enum m ih =>
    refine ⟨fun k ex X e o h => (by cases h), fun k ex X es o h => (by cases h), fun k ex X tg it o h => ?_, fun k ex X kws o h => (by cases h)⟩
    simp only [chkI] at h
    split at h <;> first | (cases h; done) | skip
    rename_i x p es pos
    simp only [Bool.and_eq_true, decide_eq_true_eq] at h
    obtain ⟨⟨rfl, h1, h2⟩, ⟨h3, h4⟩, h5, h6, h7⟩ := h
    match es, h3, h4, h5, h6 with
    | [a], h3, h4, h5, h6 =>
      cases tg <;> first | (cases h7; done) | exact g_enum o h1 h2 (ih.2.1 _ _ _ _ o h3) h4 h5
  | zip m ih =>
    refine ⟨fun k ex X e o h => (by cases h), fun k ex X es o h => (by cases h), fun k ex X tg it o h => ?_, fun k ex X kws o h => (by cases h)⟩
    simp only [chkI] at h
    split at h <;> first | (cases h; done) | skip
    rename_i x p es pos
    simp only [Bool.and_eq_true, decide_eq_true_eq] at h
    obtain ⟨⟨rfl, h1, h2⟩, ⟨h3, h4⟩, h5, h6, h7⟩ := h
    match es, h3, h4, h5, h6 with
    | [a, b], h3, h4, h5, h6 =>
      cases tg <;> first | (cases h7; done) | exact g_zip o h1 h2 (ih.2.1 _ _ _ _ o h3) h4 h5
  | _ => exact ⟨fun k ex X e o h => (by cases h), fun k ex X es o h => (by cases h), fun k ex X tg it o h => (by cases h), fun k ex X kws o h => (by cases h)⟩
end
end NV
set_option Elab.async false
set_option linter.all false
set_option maxRecDepth 100000
set_option maxHeartbeats 4000000
/-! # Statements of the text, defs, levels -/
namespace NV
open PySem PySem.Spec PyProof.Rows L2
def isLc : Expr → Bool
  | .ListComp _ _ _ _ => true
  | _ => false
def locT (k : Ck) : Expr → Bool
  | .Name id _ => k.sc.names.lookup id == some .local
  | _ => false
def noPar (k : Ck) (tg a : Expr) : Bool := match tg, a with
  | .Tuple ts _ _, .Tuple vs _ _ => !(ts.length == 2 || ts.length == 3) || (!(ts.all (locT k)) || vs.all (foldedForSure 8))
  | _, _ => true
theorem fm_lt {α β : Type} {f : α → Option β} : ∀ {l : List α} {p : α → Bool}, (∀ x, p x = false → f x = none) → l.all p = false → (l.filterMap f).length < l.length
  | [], _, _, h => by cases h
  | a :: l, p, hp, h => by
    rw [List.filterMap_cons]
    have le : (l.filterMap f).length ≤ l.length := List.length_filterMap_le ..
    cases q : p a with
    | false => rw [hp a q]; simp only [List.length_cons]; omega
    | true =>
      rw [List.all_cons, q, Bool.true_and] at h
      have := fm_lt hp h
      cases f a <;> simp only [List.length_cons] <;> omega
theorem noPar_of {c : Cn} {k : Ck} {ex : EX} {cf : CallF} {X : Cx} (o : CxOk c k ex cf X) {tg a : Expr} (ht : isTgt tg = true) (h : noPar k tg a = true) : swappedStores [tg] a X.env = pure none := by
  cases a <;> first | (cases tg <;> first | (cases ht; done) | rfl) | skip
  cases tg <;> first | (cases ht; done) | rfl | skip
  rename_i vs k2 p2 ts kt pt
  simp only [noPar] at h
  unfold swappedStores
  simp only
  split
  · rfl
  · rename_i h1
    split
    · rfl
    · split
      · rfl
      · rename_i h3
        split
        · rfl
        · rename_i h4
          exfalso
          simp only [Bool.or_eq_true, Bool.not_eq_true'] at h
          rcases h with h | h | h
          · simp only [h, Bool.not_false, Bool.true_or, not_true_eq_false] at h1
          · have := fm_lt (f := fun (t : Expr) => match t with
              | .Name id pos => if (X.env.kindOf id == some .local && pos.line == ((ts.head?.map (·.pos.line)).getD 0)) = true then some id else none
              | _ => none) (p := locT k) (fun x hx => by
                cases x <;> first | rfl | skip
                rename_i id pos
                have hx : (k.sc.names.lookup id == some .local) = false := hx
                have kk : X.env.kindOf id = k.sc.names.lookup id := by show X.env.scope.names.lookup id = _; rw [o.sc]
                simp only [kk, hx, Bool.false_and, Bool.false_eq_true, if_false]) h
            simp only [Bool.or_eq_true, not_or, bne_iff_ne, ne_eq, Decidable.not_not] at h3
            exact absurd h3.1 (Nat.ne_of_lt this)
          · exact h4 h
def isLcM : M → Bool
  | .lc _ _ _ _ _ => true
  | _ => false
mutual
def chkS1 (k : Ck) : MS → Stmt → Bool
  | .asg i m, st => match st with
    | .Assign [.Name x _] a _ => asgB k i x && (chkE k m a && (swB k.sc a "" a.pos || isLcM m))
    | _ => false
  | .par is m, st => match st with
    | .Assign [.Tuple [.Name x px, .Name y py] _ _] (.Tuple [a, b] _ _) _ => (match is with
      | [i, j] => (locB k i x && locB k j y) && (decide (i ≠ j) && ((match m with
        | .cons ma (.cons mb .nil) => chkE k ma a && chkE k mb b
        | _ => false) && sw2B px py x y a b))
      | _ => false)
    | .Assign [.Tuple [.Name x px, .Name y py, .Name z pz] _ _] (.Tuple [a, b, q] _ _) _ => (match is with
      | [i, j, l] => ((locB k i x && locB k j y) && locB k l z) && ((decide (i ≠ j) && (decide (i ≠ l) && decide (j ≠ l))) && ((match m with
        | .cons ma (.cons mb (.cons mc .nil)) => chkE k ma a && (chkE k mb b && chkE k mc q)
        | _ => false) && (((py.line == px.line) && (pz.line == px.line)) && ((decide (x ≠ y) && (decide (x ≠ z) && decide (y ≠ z))) && ((noStar a && (noStar b && noStar q)) && (!([a, b, q].all (foldedForSure 8)) && !([a, b, q].all (constantsAlone 8))))))))
      | _ => false)
    | _ => false
  | .tgt t m, st => match st with
    | .Assign [tg] a _ => (chkT k t tg && chkE k m a) && ((swB k.sc a "" a.pos && isTgt tg) && noPar k tg a)
    | _ => false
  | .put i ix m, st => match st with
    | .Assign [.Subscript (.Name x _) e _] a _ => (visB k i x && chkE k ix e) && ((chkE k m a && swB k.sc a "" a.pos) && noSlice e)
    | _ => false
  | .expr m, st => match st with
    | .Expr a _ => chkE k m a && swB k.sc a "" a.pos
    | _ => false
  | .ret m, st => match st with
    | .Return (some a) _ => chkE k m a
    | _ => false
  | .mvr i, st => match st with
    | .Return (some (.Name x _)) _ => visB k i x
    | _ => false
  | .retN, st => match st with
    | .Return none _ => true
    | _ => false
  | .ite t a b, st => match st with
    | .If c A B _ => chkE k t c && (chkS k a A && chkS k b B)
    | _ => false
  | .whl _ t b, st => match st with
    | .While c B [] _ => chkE k t c && chkS k b B
    | _ => false
  | .forr t it b, st => match st with
    | .For tg i B [] _ => (chkT k t tg && chkI k it tg i) && (chkS k b B && noSet i)
    | _ => false
  | .brk, st => match st with
    | .Break _ => true
    | _ => false
  | .cont, st => match st with
    | .Continue _ => true
    | _ => false
  | .pass, st => match st with
    | .Pass _ => true
    | _ => false
  | .dead, _ => true
  | _, _ => false
def chkS (k : Ck) : MS → List Stmt → Bool
  | .nil, sts => sts.isEmpty
  | .seq a b, sts => match sts with
    | s :: r => chkS1 k a s && chkS k b r
    | [] => false
  | .dead, _ => true
  | _, _ => false
end
section
variable {c : Cn} {cf : CallF}
def SoundS (c : Cn) (cf : CallF) (m : MS) : Prop := ∀ k ex X e, CxOk c k ex cf X → X.env.scope.kind = .function → PassesOwn (model X.prog X.w) X.A X.env X.xe → (∀ a, e.B a → ∃ j, (j, a) ∈ e.P) →
  (∀ st, chkS1 k m st = true → PS X st (TSt c ex e (evS cf m))) ∧ (∀ sts, chkS k m sts = true → PSs X sts (TSt c ex e (evS cf m)))
theorem lc_asg {k : Ck} {ex : EX} {X : Cx} {e : Ent} (o : CxOk c k ex cf X) (hk : X.env.scope.kind = .function) {i : Nat} {x : Str} {py spos : Pos} {m : M} {a : Expr} (h1 : asgB k i x = true) (h : chkE k m a = true) (hl : isLcM m = true) : PS X (.Assign [.Name x py] a spos) (TSt c ex e (evS cf (.asg i m))) := by
  cases m <;> first | (cases hl; done) | skip
  rename_i own src tgt cond elt
  simp only [chkE] at h
  split at h <;> first | (cases h; done) | skip
  rename_i el tg it ifs scope pos
  simp only [Bool.and_eq_true, List.all_eq_true, decide_eq_true_eq] at h
  obtain ⟨⟨h1', h2, h3⟩, ⟨h4, h5⟩, h6, h7⟩ := h
  have hb : BlkOk X.N X.env.scope scope (ownN k own) := by rw [o.N, o.sc]; exact blkOk_by h1'
  have := s_asgLc (k := k) (cf := cf) (ex := ex) (exB := exF) (e := e) (elt := el) (tg := tg) (iter := it) (ifs := ifs) (pos := pos) (src := src) (tgt := tgt) (cond := cond) (me := elt) (py := py) (spos := spos) o hk h1 hb ((sound src).2.2.1 _ _ _ _ _ o h4)
    (fun s H C cl fp => (tgt_ok (o.blk s H scope C cl fp) tgt).1 _ h5) (fun s H C cl fp => ?_) (fun s H C cl fp => ((sound elt).1 _ _ _ _ (o.blk s H scope C cl fp) h7).pe) (noSet_of h2) (by rw [ownN_snd]; exact h3)
  · rw [ownN_snd] at this; exact this
  · split at h6
    · have := isYes_eq h6
      subst this
      refine ⟨fun pins s σ H Q I h => pts_nil.run pins s σ H Q I ?_⟩
      obtain ⟨e, d, ρ, S, s, q⟩ := h
      simp only [tst, evE, Out.bind_ok] at q
      exact q true d H s rfl
    · exact pts_one ((sound cond).1 _ _ _ _ (o.blk s H scope C cl fp) h6).pt
    · cases h6
theorem soundS : ∀ m : MS, SoundS c cf m := by
  intro m
  induction m with
  | nil =>
    refine fun k ex X e o hk hp hB => ⟨fun st h => (by cases h), fun sts h => ?_⟩
    cases sts with
    | nil => exact s_nil
    | cons s r => cases h
  | seq a b iha ihb =>
    refine fun k ex X e o hk hp hB => ⟨fun st h => (by cases h), fun sts h => ?_⟩
    cases sts with
    | nil => cases h
    | cons s r =>
      simp only [chkS, Bool.and_eq_true] at h
      exact s_seq ((iha k ex X e o hk hp hB).1 _ h.1) ((ihb k ex X e o hk hp hB).2 _ h.2)
  | asg i m =>
    refine fun k ex X e o hk hp hB => ⟨fun st h => ?_, fun sts h => (by cases h)⟩
    simp only [chkS1] at h
    split at h <;> first | (cases h; done) | skip
    simp only [Bool.and_eq_true, Bool.or_eq_true] at h
    obtain ⟨h1, h2, h3⟩ := h
    rcases h3 with h3 | h3
    · exact s_asg o h1 ((sound m).1 _ _ _ _ o h2) (by exact h3)
    · exact lc_asg o hk h1 h2 h3
  | par is m =>
    refine fun k ex X e o hk hp hB => ⟨fun st h => ?_, fun sts h => (by cases h)⟩
    simp only [chkS1] at h
    split at h <;> first | (cases h; done) | skip
    · split at h
      · simp only [Bool.and_eq_true, decide_eq_true_eq] at h
        obtain ⟨⟨h1, h2⟩, h3, h4, h5⟩ := h
        split at h4
        · rename_i ma mb
          rw [Bool.and_eq_true] at h4
          refine s_par2 o hk h1 h2 h3 (rs_cons ((sound ma).1 _ _ _ _ o h4.1) (rs_cons ((sound mb).1 _ _ _ _ o h4.2) rs_nil ?_) ?_) h5 rfl
          · unfold sw2B at h5
            simp only [Bool.and_eq_true] at h5
            exact h5.2.1.2
          · unfold sw2B at h5
            simp only [Bool.and_eq_true] at h5
            exact h5.2.1.1
        · cases h4
      · cases h
    · split at h
      · simp only [Bool.and_eq_true, decide_eq_true_eq, Bool.not_eq_true'] at h
        obtain ⟨⟨⟨h1, h2⟩, h3⟩, ⟨n1, n2, n3⟩, h4, ⟨l1, l2⟩, ⟨m1, m2, m3⟩, ⟨s1, s2, s3⟩, f1, f2⟩ := h
        split at h4
        · rename_i ma mb mc
          simp only [Bool.and_eq_true] at h4
          exact s_par3 o hk h1 h2 h3 n1 n2 n3 (rs_cons ((sound ma).1 _ _ _ _ o h4.1) (rs_cons ((sound mb).1 _ _ _ _ o h4.2.1) (rs_cons ((sound mc).1 _ _ _ _ o h4.2.2) rs_nil s3) s2) s1) l1 l2 m1 m2 m3 s1 s2 s3 f1 f2
        · cases h4
      · cases h
  | tgt t m =>
    refine fun k ex X e o hk hp hB => ⟨fun st h => ?_, fun sts h => (by cases h)⟩
    simp only [chkS1] at h
    split at h <;> first | (cases h; done) | skip
    simp only [Bool.and_eq_true] at h
    obtain ⟨⟨h1, h2⟩, ⟨h3, h4⟩, h5⟩ := h
    exact s_tgt o ((tgt_ok o t).1 _ h1) ((sound m).1 _ _ _ _ o h2) h3 h4 (noPar_of o h4 h5)
  | put i ix m =>
    refine fun k ex X e o hk hp hB => ⟨fun st h => ?_, fun sts h => (by cases h)⟩
    simp only [chkS1] at h
    split at h <;> first | (cases h; done) | skip
    simp only [Bool.and_eq_true] at h
    obtain ⟨⟨h1, h2⟩, ⟨h3, h4⟩, h5⟩ := h
    exact s_put o h1 ((sound ix).1 _ _ _ _ o h2) ((sound m).1 _ _ _ _ o h3) h4 h5
  | expr m =>
    refine fun k ex X e o hk hp hB => ⟨fun st h => ?_, fun sts h => (by cases h)⟩
    simp only [chkS1] at h
    split at h <;> first | (cases h; done) | skip
    simp only [Bool.and_eq_true] at h
    exact s_expr o ((sound m).1 _ _ _ _ o h.1) h.2
  | ret m =>
    refine fun k ex X e o hk hp hB => ⟨fun st h => ?_, fun sts h => (by cases h)⟩
    simp only [chkS1] at h
    split at h <;> first | (cases h; done) | skip
    exact s_ret ((sound m).1 _ _ _ _ o h)
  | mvr i =>
    refine fun k ex X e o hk hp hB => ⟨fun st h => ?_, fun sts h => (by cases h)⟩
    simp only [chkS1] at h
    split at h <;> first | (cases h; done) | skip
    exact s_mvr o hB h
  | retN =>
    refine fun k ex X e o hk hp hB => ⟨fun st h => ?_, fun sts h => (by cases h)⟩
    simp only [chkS1] at h
    split at h <;> first | (cases h; done) | skip
    exact s_retN
  | ite t a b iha ihb =>
    refine fun k ex X e o hk hp hB => ⟨fun st h => ?_, fun sts h => (by cases h)⟩
    simp only [chkS1] at h
    split at h <;> first | (cases h; done) | skip
    simp only [Bool.and_eq_true] at h
    exact s_ite ((sound t).1 _ _ _ _ o h.1) ((iha k ex X e o hk hp hB).2 _ h.2.1) ((ihb k ex X e o hk hp hB).2 _ h.2.2)
  | whl n t b ih =>
    refine fun k ex X e o hk hp hB => ⟨fun st h => ?_, fun sts h => (by cases h)⟩
    simp only [chkS1] at h
    split at h <;> first | (cases h; done) | skip
    simp only [Bool.and_eq_true] at h
    exact s_whl o hp ((sound t).1 _ _ _ _ o h.1) ((ih k ex X e o hk hp hB).2 _ h.2)
  | forr t it b ih =>
    refine fun k ex X e o hk hp hB => ⟨fun st h => ?_, fun sts h => (by cases h)⟩
    simp only [chkS1] at h
    split at h <;> first | (cases h; done) | skip
    simp only [Bool.and_eq_true] at h
    exact s_for o hp ((sound it).2.2.1 _ _ _ _ _ o h.1.2) ((tgt_ok o t).1 _ h.1.1) ((ih k ex X e o hk hp hB).2 _ h.2.1) (noSet_of h.2.2)
  | brk =>
    refine fun k ex X e o hk hp hB => ⟨fun st h => ?_, fun sts h => (by cases h)⟩
    simp only [chkS1] at h
    split at h <;> first | (cases h; done) | skip
    exact s_brk
  | cont =>
    refine fun k ex X e o hk hp hB => ⟨fun st h => ?_, fun sts h => (by cases h)⟩
    simp only [chkS1] at h
    split at h <;> first | (cases h; done) | skip
    exact s_cont
  | pass =>
    refine fun k ex X e o hk hp hB => ⟨fun st h => ?_, fun sts h => (by cases h)⟩
    simp only [chkS1] at h
    split at h <;> first | (cases h; done) | skip
    exact s_pass
  | dead => exact fun k ex X e o hk hp hB => ⟨fun st h => s_dead, fun sts h => s_deads⟩
end
end NV
set_option Elab.async false
set_option linter.all false
set_option maxRecDepth 100000
set_option maxHeartbeats 4000000
/-! # The table of defs, level by level -/
namespace NV
open PySem PySem.Spec PyProof.Rows L2
structure FD where
  name : Str
  qual : Str
  ps : List Str
  N : List Str
  params : Arguments
  body : List Stmt
  scope : Scope
  ms : MS
structure Gl0 where
  free : List Str
  gcs : List (Str × W)
  gds : List (Str × List W × List W)
def ckOf (T : List FD) (G : Gl0) (D : FD) : Ck := { N := D.N, sc := D.scope, fns := T.map (·.name), free := G.free, gcs := G.gcs, gds := G.gds, pars := T.map (·.ps), top := true }
def plainB (ps : List Str) (p : Arguments) : Bool := (p.posonlyargs.isEmpty && (decide (p.args.map (·.arg) = ps) && p.kwonlyargs.isEmpty)) && (p.vararg.isNone && p.kwarg.isNone)
theorem plainB_ok {ps : List Str} {p : Arguments} (h : plainB ps p = true) : Plain ps p := by
  unfold plainB at h
  simp only [Bool.and_eq_true, List.isEmpty_iff, decide_eq_true_eq, Option.isNone_iff_eq_none] at h
  exact ⟨h.1.1, h.1.2.1, h.1.2.2, h.2.1, h.2.2⟩
def isFn : ScopeKind → Bool
  | .function => true
  | _ => false
def scopeB (N ps : List Str) (sc : Scope) : Bool := (isFn sc.kind && (!sc.isCoroutine && !sc.isGenerator)) && ((decide N.Nodup && decide (N.take ps.length = ps)) && (ps.all (fun x => decide (sc.names.lookup x = some .local) || decide (sc.names.lookup x = some .cell)) && sc.names.all fun y => decide (y.2 ≠ .free)))
theorem scopeB_ok {N ps : List Str} {sc : Scope} (h : scopeB N ps sc = true) : FnScope N ps sc := by
  unfold scopeB at h
  simp only [Bool.and_eq_true, Bool.not_eq_true', decide_eq_true_eq, List.all_eq_true, Bool.or_eq_true] at h
  obtain ⟨⟨h1, h2, h3⟩, ⟨h4, h5⟩, h6, h7⟩ := h
  have hk : sc.kind = .function := by
    unfold isFn at h1
    split at h1
    · assumption
    · cases h1
  exact ⟨hk, h2, h3, h4, h5, h6, h7⟩
def fdB (T : List FD) (G : Gl0) (D : FD) : Bool := chkS (ckOf T G D) D.ms D.body && (scopeB D.N D.ps D.scope && plainB D.ps D.params)
def callT (T : List FD) : Nat → CallF
  | 0 => fun _ _ _ => .stuck
  | n + 1 => fun f args S => match T[f]? with
    | some D => runF (callT T n) D.ps.length D.N.length D.ms args S
    | none => .stuck
structure Glob (P : Program) (w : World) (K : PySem.W.Frag) (mg : Str → Option Value) (base : Heap) (c : Cn) (T : List FD) (G : Gl0) : Prop where
  eK : c.K = K
  len : c.fa.length = T.length
  fn : ∀ (f : Nat) (D : FD) (a : Addr), T[f]? = some D → c.fa[f]? = some a → mg D.name = some (.ref a) ∧ ∃ fd, FunD K D.name D.qual D.params D.body D.scope [] [] a fd
  free : ∀ x ∈ G.free, mg x = none
  gcs : ∀ p ∈ G.gcs, ∃ u v, mg p.1 = some u ∧ RelV v u ∧ ∀ d H, Rep c d H p.2 v
  gds : ∀ p ∈ G.gds, ∃ a, mg p.1 = some (.ref a) ∧ ∀ (z : Str) (x : W), dctFind p.2.1 p.2.2 z = some x → ∃ v, KDct K w a z v ∧ ∀ d H, Rep c d H x v
theorem level {P : Program} {w : World} {K : PySem.W.Frag} {mg : Str → Option Value} {base : Heap} {c : Cn} {T : List FD} {G : Gl0} (g : Glob P w K mg base c T G) (hT : ∀ D ∈ T, fdB T G D = true) :
    ∀ (n f : Nat) (D : FD) (a : Addr), T[f]? = some D → c.fa[f]? = some a → ∃ fd, Plain D.ps fd.params ∧ fd.defaults = .none ∧ FnG P w K mg base (L2.CX P w) n a fd D.ps (spF c (callT T n) f) ∧ ∃ oc od osl, K.lookup a = some ⟨oc, od, .func fd, osl⟩ := by
  intro n
  induction n with
  | zero =>
    intro f D a hD ha
    obtain ⟨_, fd, F⟩ := g.fn f D a hD ha
    have hb := hT D (List.mem_of_getElem? hD)
    unfold fdB at hb
    simp only [Bool.and_eq_true] at hb
    obtain ⟨oc, od, dV, kV, doc, pm, an, cdv, ct, osl, rfl, lk, hcd, hd, _⟩ := F.ex
    have hdv : dV = .none := by
      rcases hd with ⟨_, h⟩ | ⟨h, _⟩
      · exact h
      · exact absurd rfl h
    refine ⟨PySem.W.fnOf D.name D.qual D.params D.body D.scope dV kV doc pm an cdv ct, plainB_ok hb.2.2, hdv, ⟨fun vs H Q E h => ?_, fun A outer s H args us vs Q E _ _ _ _ _ h => ?_⟩, oc, od, osl, lk⟩ <;>
    · obtain ⟨e, d, args, S, _, _, _, _, _, h⟩ := h
      exact h.elim
  | succ n ih =>
    intro f D a hD ha
    obtain ⟨_, fd, F⟩ := g.fn f D a hD ha
    have hb := hT D (List.mem_of_getElem? hD)
    unfold fdB at hb
    simp only [Bool.and_eq_true] at hb
    obtain ⟨hck, hsc, hpl⟩ := hb
    obtain ⟨oc, od, dV, kV, doc, pm, an, cdv, ct, osl, rfl, lk, hcd, hd, _⟩ := F.ex
    have hdv : dV = .none := by
      rcases hd with ⟨_, h⟩ | ⟨h, _⟩
      · exact h
      · exact absurd rfl h
    have Sc := scopeB_ok hsc
    have len : ∀ vs H Q E, spF c (callT T (n + 1)) f vs H Q E → vs.length = D.ps.length := fun vs H Q E ⟨e, d, args, S, _, _, sm, _, _, hm⟩ => by
      have hl := sm.len
      rw [List.length_map, List.length_map] at hl
      rw [← hl]
      simp only [callT, hD, runF] at hm
      by_cases z : args.length = D.ps.length
      · exact z
      · rw [if_neg z] at hm; exact hm.elim
    refine ⟨_, plainB_ok hpl, hdv, FnG.of lk hcd Sc len fun A outer s H vs Q E hr hg hsp => ?_, oc, od, osl, lk⟩
    have hvl := len _ _ _ _ hsp
    obtain ⟨e, d, args, S, he, hH, sm, hP, hB, hm⟩ := hsp
    subst he hH
    have hal : args.length = D.ps.length := by
      have hl := sm.len
      rw [List.length_map, List.length_map] at hl
      rw [hl]; exact hvl
    let ex : EX := fun k w d σ H => ∀ cls dd, xr c k w d H cls dd → E cls dd H
    have o : CxOk c (ckOf T G D) ex (callT T n) (cxOf (L2.CX P w) P w K mg base D.N D.qual D.scope a cdv A outer s e.H E) := {
      K := g.eK.symm
      N := rfl
      nd := Sc.nd
      sc := rfl
      fnt := fun _ _ => rfl
      calm := rfl
      un := by
        have := hr.un
        show (A.deeper _).units + 150 < cLine
        omega
      gd := by show (A.deeper _).guards = some []; exact hg
      fnm := fun f x hx => by
        have hx : (T.map (·.name))[f]? = some x := hx
        rw [List.getElem?_map] at hx
        cases q : T[f]? with
        | none => rw [q] at hx; cases hx
        | some D' =>
          rw [q] at hx; cases hx
          have hl : f < c.fa.length := by rw [g.len]; exact (List.getElem?_eq_some_iff.mp q).1
          obtain ⟨q1, fd, F'⟩ := g.fn f D' _ q (List.getElem?_eq_getElem hl)
          exact ⟨_, List.getElem?_eq_getElem hl, q1, F'.kp⟩
      free := g.free
      gcs := g.gcs
      gds := g.gds
      tk := ⟨fun cls d _ H => E cls d H, takes_of rfl rfl rfl rfl, fun k w d σ H h cls dd x => h cls dd x⟩
      fs := fun f' a' ha' => by
        have hl : f' < T.length := by rw [← g.len]; exact (List.getElem?_eq_some_iff.mp ha').1
        obtain ⟨fd', h1, h2, h3, _⟩ := ih f' T[f'] a' (List.getElem?_eq_getElem hl) ha'
        refine ⟨n, fd', T[f'].ps, ?_, h1, h2, hr, h3⟩
        show (T.map (·.ps))[f']? = _
        rw [List.getElem?_map, List.getElem?_eq_getElem hl]; rfl }
    refine ⟨TSt c ex e (evS (callT T n) D.ms), (soundS D.ms _ ex _ e o Sc.kind (passes_of rfl) (fun b hb => ?_)).2 _ hck, ?_⟩
    · obtain ⟨j, hj⟩ := hB b hb
      exact ⟨j, hP j b hj⟩
    · have s0 := sm.ext (D.N.length - D.ps.length)
      have est : L2.start D.N vs = vs.map some ++ List.replicate (D.N.length - D.ps.length) none := by unfold L2.start; rw [hvl]
      rw [est]
      refine ⟨e.d, _, S, s0, ?_⟩
      simp only [callT, hD, runF, if_pos hal] at hm
      cases q : evS (callT T n) D.ms (args.map some ++ List.replicate (D.N.length - D.ps.length) none) S with
      | stuck => rw [q] at hm; exact hm
      | exn k w ρ1 S1 =>
        rw [q] at hm
        intro σ' d' H' t le cls dd x
        exact hm d' H' cls dd (sm.params hP t le).1 x
      | ok fl ρ1 S1 =>
        rw [q] at hm
        cases fl with
        | nx =>
          intro σ' d' H' t le
          exact hm .non d' H' (sm.params hP t le).1 (by show Rep c d' H' .non .non; simp only [Rep])
        | rt r =>
          intro v σ' d' H' t le hr
          obtain ⟨k1, k2⟩ := sm.params hP t le
          exact hm v d' H' k1 (k2 r v hr)
        | br => exact hm.elim
        | ct => exact hm.elim
end NV
set_option Elab.async false
set_option linter.all false
set_option maxRecDepth 100000
set_option maxHeartbeats 4000000
/-! # The end: a law whose table answers True (the run from the caller is turned from the library's law_call: no guard stands around the caller) -/
namespace NV
open PySem PySem.Spec PyProof.Rows L2
/-- what the caller sees -/
def Seen (s₁ : Shared) (r : Result) (s' : Shared) : Prop := r = .ok (.ret (.bool true)) ∧ OldK s₁.heap s'.heap ∧ s'.os = s₁.os ∧ AllBare s'.gens
theorem run_law {P : Program} {w : World} {K : PySem.W.Frag} {mg mb : Str → Option Value} {k : Nat} {fa a : Addr} {fd : FuncData} {x : Str} {sp : Sp} {s₁ : Shared} {vs : List Value} {H : Hp}
    (KX : K.In s₁.heap) (hns : s₁.heap.Ns mainGlobals mg) (hb : s₁.heap.Ns builtinsNs mb) (hbb : ∀ x : Str, x ≠ "__name__" → mb x = bootBuiltins x) (hlim : s₁.heap.NoLimit) (hg : s₁.gens = #[])
    (ha : s₁.heap.get? a = some { cls := .type "list", data := .seq vs.toArray }) (hr : Room k callerA)
    (F : ∀ base : Heap, K.In base → base.Ns mainGlobals mg → FnG P w K mg base (L2.CX P w) k fa fd [x] sp) (hbind : ∀ (s : Shared) (u : Value), BindsTo s fd ⟨[u], []⟩ [(x, u)])
    (hO : Only H) (hok : HOk P w H s₁.heap) (hA : ∀ b, H b ≠ none → b = a) (hK : H a ≠ none → K.lookup a = none) (hsp : sp [.ref a] H (fun v _ => v = .bl true) fun _ _ _ => False) :
    codeAny (model P w) callerA (.call (.ref fa) ⟨[.ref a], []⟩) (Seen s₁) s₁ := by
  have free : ∀ {b : Addr} {o : Obj}, s₁.heap.get? b = some o → b ≠ a → H b = none := fun {b o} _ n => by
    cases q : H b with
    | none => rfl
    | some u => exact absurd (hA b (by rw [q]; exact fun z => nomatch z)) n
  have ns_base : ∀ {b : Addr} {m : Str → Option Value}, s₁.heap.Ns b m → (hidT s₁.heap H).Ns b m := fun {b m} ⟨o, es, ep, e, dd, r⟩ => by
    refine ⟨o, es, ep, hidT_get e (free e fun z => ?_), dd, r⟩
    subst z
    rw [ha] at e
    cases e
    exact nomatch (show Data.seq vs.toArray _ = Data.dict es ep from dd)
  have K_base : K.In (hidT s₁.heap H) := fun b o e => hidT_get (KX b o e) (by
    cases q : H b with
    | none => rfl
    | some u =>
      have z := hA b (by rw [q]; exact fun z => nomatch z)
      subst z
      rw [hK (by rw [q]; exact fun z => nomatch z)] at e
      exact nomatch e)
  obtain ⟨mc, l1, l2⟩ := hlim
  have M0 : Mod K mg (hidT s₁.heap H) := ⟨K_base, ns_base hns, ⟨mb, ns_base hb, hbb⟩, ⟨mc, ns_base l1, l2⟩⟩
  have none_in : ∀ b : Addr, b ∉ ([] : List Addr) := fun _ z => nomatch z
  have E0 : Env0 P w K mg (hidT s₁.heap H) callerA [] s₁ H := ⟨rfl, M0, fun b o e => of_hidT e, Nat.le_of_eq (hidT_size _ _), trivial, fun b hb => absurd hb (none_in b), hok, .of_eq hg⟩
  refine codeAny_mono ((F _ K_base (ns_base hns)).run callerA [] s₁ H ⟨[.ref a], []⟩ [.ref a] [.ref a] _ _ hr rfl E0 (hbind s₁ (.ref a)) (.cons rfl .nil) hsp) fun r s' h => ?_
  match r, h with
  | .error e, h =>
    obtain ⟨_, _, _, _, _, _, _, _, _, _, _, _, z⟩ := h
    exact z.elim
  | .ok .next, h => exact False.elim h
  | .ok .brk, h => exact False.elim h
  | .ok .cont, h => exact False.elim h
  | .ok (.ret u), ⟨v, H', os, bare, un, hok', r', q⟩ =>
    have q : v = .bl true := q
    subst q
    obtain rfl : u = Value.bool true := r'
    refine ⟨rfl, OldK.of_keep fun b o e => ?_, os, bare⟩
    rcases hO b with z | ⟨ob, xs, z⟩
    · exact un.keep b o e z (none_in b) (by simp)
    · have t1 := (hok b _ z).1
      have t2 := (hok' b _ (un.frzs b ob _ z)).1
      rw [e] at t1
      cases t1
      exact t2
theorem law_end {P : Program} {w : World} {K : PySem.W.Frag} {mg mb : Str → Option Value} {k : Nat} {fa a : Addr} {fd : FuncData} {x : Str} {sp : Sp} {s₁ : Shared} {vs : List Value} {ns : List Int}
    (KX : K.In s₁.heap) (hns : s₁.heap.Ns mainGlobals mg) (hb : s₁.heap.Ns builtinsNs mb) (hbb : ∀ x : Str, x ≠ "__name__" → mb x = bootBuiltins x) (hlim : s₁.heap.NoLimit) (hg : s₁.gens = #[])
    (ha : s₁.heap.get? a = some { cls := .type "list", data := .seq vs.toArray }) (hi : IntsAre vs ns) (hl : ns.length ≤ sizeLine) (hr : Room k callerA)
    (F : ∀ base : Heap, K.In base → base.Ns mainGlobals mg → FnG P w K mg base (L2.CX P w) k fa fd [x] sp) (hbind : ∀ (s : Shared) (u : Value), BindsTo s fd ⟨[u], []⟩ [(x, u)])
    (hsp : ∀ H : Hp, (∀ b, H b ≠ none → b = a) → ((∃ o, H a = some (.frz o (.lst (ns.map V.int)))) ∨ KL K a (ns.map V.int)) → sp [.ref a] H (fun v _ => v = .bl true) fun _ _ _ => False) :
    codeAny (model P w) callerA (.call (.ref fa) ⟨[.ref a], []⟩) (Seen s₁) s₁ := by
  have rv := vals_ints hi
  have lv := hi.length
  cases hk : K.lookup a with
  | some o =>
    have e := KX a o hk
    rw [ha] at e
    cases e
    refine run_law (H := fun _ => none) KX hns hb hbb hlim hg ha hr F hbind (fun _ => .inl rfl) (fun b u z => nomatch (show (none : Option HO) = some u from z)) (fun b z => absurd rfl z) (fun z => absurd rfl z) (hsp _ (fun b z => absurd rfl z) (.inr (.inr ⟨_, vs.toArray, _, hk, rfl, rfl, rfl, ?_, ?_⟩)))
    · rw [List.size_toArray, lv]; exact hl
    · simpa using rv
  | none =>
    let H : Hp := fun b => if b = a then some (.frz { cls := .type "list", data := .seq vs.toArray } (.lst (ns.map V.int))) else none
    have at_a : H a = some (.frz { cls := .type "list", data := .seq vs.toArray } (.lst (ns.map V.int))) := if_pos rfl
    have off : ∀ b, b ≠ a → H b = none := fun b n => if_neg n
    have only : ∀ b, H b ≠ none → b = a := fun b z => Classical.byContradiction fun n => z (off b n)
    refine run_law (H := H) KX hns hb hbb hlim hg ha hr F hbind (fun b => ?_) (fun b u z => ?_) only (fun _ => hk) (hsp H only (.inl ⟨_, at_a⟩))
    · by_cases n : b = a
      · subst n; exact .inr ⟨_, _, at_a⟩
      · exact .inl (off b n)
    · by_cases n : b = a
      · subst n
        rw [at_a] at z
        cases z
        exact ⟨ha, by rw [List.length_map]; exact hl, vs, _, rv, ha⟩
      · rw [off b n] at z
        exact nomatch z
/-- THE END: a table whose law answers True at every script -/
theorem walk_tab {l : PySem.W.OpenLaw} {n k j : Nat} {q : Program} {loose : List Str} {XP : (Str → Option Value) → Heap → Prop} {YP : World → Heap → Prop} {d : DefRec} {T : List FD} {G : Gl0} {D : FD} {x : Str}
    (hn : l.most = some n) (hn2 : n ≤ sizeLine) (hdf : d.params.defaults = []) (hr : Room k callerA) (hT : ∀ D ∈ T, fdB T G D = true) (hj : T[j]? = some D) (hx : D.ps = [x]) (hname : d.name = D.name)
    (hg : ∀ (w : World) (mg : Str → Option Value) (h : Heap), YP w h → h.Ns mainGlobals mg → ∃ (K : PySem.W.Frag) (c : Cn), K.In h ∧ ∀ base : Heap, K.In base → base.Ns mainGlobals mg → Glob l.prog w K mg base c T G)
    (law : ∀ ns : List Int, ns.length ≤ n → ∃ as S, callT T k j [.val (.flst (ns.map W.int))] [] = .ok (.val (.bl true)) as S) :
    PySem.W.WalkO q loose XP YP l.row.toRowW d [] (fun f vs => PySem.call f vs) := by
  refine Att.attach_call hn hdf fun w s₀ s₁ mg mb fa o pm cd doc a vs ns Gr Y ho hd hcd hmg hobj hints hlen hgn => ?_
  obtain ⟨K, c, KX, gl⟩ := hg w mg _ Y Gr.T.g
  have hjl : j < c.fa.length := by
    rw [(gl _ KX Gr.T.g).len]; exact (List.getElem?_eq_some_iff.mp hj).1
  have hca := List.getElem?_eq_getElem hjl
  obtain ⟨hm, fd, F⟩ := (gl _ KX Gr.T.g).fn j D _ hj hca
  rw [hname] at hmg
  rw [hmg] at hm
  cases hm
  /- one function object for all levels -/
  obtain ⟨oc, od, dV, kV, doc', pm', an, cdv, ct, osl, rfl, lk, _, hdd, _⟩ := F.ex
  have hdv : dV = .none := by
    rcases hdd with ⟨_, h⟩ | ⟨h, _⟩
    · exact h
    · exact absurd rfl h
  have hb := hT D (List.mem_of_getElem? hj)
  unfold fdB at hb
  simp only [Bool.and_eq_true] at hb
  have pl := plainB_ok hb.2.2
  refine law_end (x := x) (fd := PySem.W.fnOf D.name D.qual D.params D.body D.scope dV kV doc' pm' an cdv ct) (sp := spF c (callT T k) j) KX Gr.T.g Gr.T.b Gr.T.builtins Gr.T.nolimit hgn hobj hints (Nat.le_trans hlen hn2) hr (fun base h1 h2 => ?_) (fun s u => ?_) fun H hA hS => ?_
  · obtain ⟨fd2, p1, p2, p3, oc2, od2, osl2, lk2⟩ := level (gl base h1 h2) hT k j D _ hj hca
    have : fd2 = PySem.W.fnOf D.name D.qual D.params D.body D.scope dV kV doc' pm' an cdv ct := by
      rw [lk] at lk2
      cases lk2
      rfl
    rw [← this, ← hx]; exact p3
  · rw [hx] at pl
    have := bind_kw (fd := PySem.W.fnOf D.name D.qual D.params D.body D.scope dV kV doc' pm' an cdv ct) (ps := [x]) (ks := []) (us := [u]) (ws := []) (vals := [u]) (perm := [0]) pl hdv rfl (by simp) (by simp) (by simp) rfl rfl
    exact BindsTo.of_eq this
  · obtain ⟨as, S', hlaw⟩ := law ns hlen
    refine ⟨⟨⟨fun b => H b ≠ none, []⟩, H, fun _ => False, []⟩, ⟨fun b => H b ≠ none, []⟩, [.val (.flst (ns.map W.int))], [], rfl, rfl, ?_, fun i b z => ?_, fun _ z => z.elim, ?_⟩
    · have rl : ∀ (d : Wd) (H : Hp) (ns : List Int), RepL c d H (ns.map W.int) (ns.map V.int) := fun d H ns => by
        induction ns with
        | nil => exact .nil
        | cons n ns ih => exact .cons .intI ih
      exact {
        le0 := .refl
        dom := fun _ h => h
        fr := fun _ _ h _ _ => h
        new := fun _ h => .inl h
        mun := fun _ h => .inl h
        dm := fun _ h => h
        mlen := rfl
        nodup := List.nodup_nil
        cell := fun n ws q => by simp at q
        len := rfl
        slot := fun i sv q => by
          cases i with
          | zero =>
            cases q
            refine ⟨_, rfl, ?_⟩
            show Rep c _ H (.flst (ns.map W.int)) (.ref a)
            simp only [Rep]
            refine ⟨a, _, rfl, ?_, rl _ _ ns⟩
            rcases hS with ⟨o, h⟩ | h
            · exact .inl ⟨(by rw [h]; exact fun z => nomatch z), o, h⟩
            · exact .inr (by rw [(gl _ KX Gr.T.g).eK]; exact h)
          | succ i => cases q
        own := fun i b ⟨⟨l, z⟩, _⟩ => by
          cases i with
          | zero => cases z
          | succ i => cases z
        inj := fun i j b ⟨⟨l, z⟩, _⟩ => by
          cases i with
          | zero => cases z
          | succ i => cases z
        par := fun p hp => nomatch hp }
    · obtain ⟨⟨l, z⟩, _⟩ := z
      cases i with
      | zero => cases z
      | succ i => cases z
    · rw [hlaw]
      intro v d' H' _ hr
      simpa only [RvR, Rep] using hr
end NV
set_option Elab.async false
set_option linter.all false
set_option maxRecDepth 100000
set_option maxHeartbeats 4000000
/-! # What the head tells, as the table wants it -/
namespace NV
open PySem PySem.Spec PyProof.Rows L2
def cnOf (K : PySem.W.Frag) (T : List FD) : Cn := ⟨K, T.map fun D => He.ga K D.name, []⟩
def defD (D : FD) : He.DefD := ⟨(D.name, none), D.name, D.qual, D.params, D.body, D.scope, [], []⟩
section
variable {P : Program} {w : World} {K : PySem.W.Frag} {h : Heap} {mg : Str → Option Value} {base : Heap} {T : List FD} {G : Gl0} {fa : List He.Fa} {fn : List He.DefD}
theorem glob_of (X : K.In h) (N : h.Ns mainGlobals mg) (c : He.SaysD fa fn K) (hfn : ∀ D ∈ T, defD D ∈ fn) (hfa : ∀ D ∈ T, He.Fa.glo D.name ∈ fa) (hfr : ∀ x ∈ G.free, He.Fa.free x ∈ fa)
    (gcs : ∀ p ∈ G.gcs, ∃ u v, mg p.1 = some u ∧ RelV v u ∧ ∀ d H, Rep (cnOf K T) d H p.2 v)
    (gds : ∀ p ∈ G.gds, ∃ a, mg p.1 = some (.ref a) ∧ ∀ (z : Str) (x : W), dctFind p.2.1 p.2.2 z = some x → ∃ v, KDct K w a z v ∧ ∀ d H, Rep (cnOf K T) d H x v) : Glob P w K mg base (cnOf K T) T G where
  eK := rfl
  len := List.length_map ..
  fn := fun f D a hD ha => by
    have ha : (T.map fun D => He.ga K D.name)[f]? = some a := ha
    rw [List.getElem?_map, hD] at ha
    cases ha
    have hm := List.mem_of_getElem? hD
    exact ⟨He.glo_ok X N (c.facts (hfa D hm)), c.defs (hfn D hm)⟩
  free := fun x hx => He.free_ok X N (c.facts (hfr x hx))
  gcs := gcs
  gds := gds
theorem gc_str {cn : Cn} (X : K.In h) (N : h.Ns mainGlobals mg) (c : He.SaysD fa fn K) {x z : Str} (hm : He.Fa.str x z ∈ fa) : ∃ u v, mg x = some u ∧ RelV v u ∧ ∀ d H, Rep cn d H (.str z) v := by
  obtain ⟨t, e⟩ := He.str_ok X N (c.facts hm)
  exact ⟨_, .str z, e, ⟨t, rfl⟩, fun _ _ => .strI⟩
theorem gc_int {cn : Cn} (X : K.In h) (N : h.Ns mainGlobals mg) (c : He.SaysD fa fn K) {x : Str} {i : Int} (hm : He.Fa.int x i ∈ fa) : ∃ u v, mg x = some u ∧ RelV v u ∧ ∀ d H, Rep cn d H (.int i) v := by
  obtain ⟨t, e⟩ := He.int_ok X N (c.facts hm)
  exact ⟨_, .int i, e, ⟨t, rfl⟩, fun _ _ => .intI⟩
theorem gc_tup {cn : Cn} (hK : cn.K = K) (X : K.In h) (N : h.Ns mainGlobals mg) (c : He.SaysD fa fn K) {x : Str} {vs : List He.Dv} {ws : List W} (hm : He.Fa.glo x ∈ fa) (ht : He.tupB K x vs = true) (hr : ∀ d H, RepL cn d H ws (vs.map (He.Dv.v K))) :
    ∃ u v, mg x = some u ∧ RelV v u ∧ ∀ d H, Rep cn d H (.tup ws) v := by
  refine ⟨_, .ref (He.ga K x), He.glo_ok X N (c.facts hm), rfl, fun d H => ?_⟩
  simp only [Rep]
  exact ⟨_, _, rfl, .inr (by rw [hK]; exact He.tupB_ok ht _), hr d H⟩
theorem dctFind_str : ∀ {kvs : List (Str × Str)} {z : Str} {x : W}, dctFind (kvs.map fun p => .str p.1) (kvs.map fun p => .str p.2) z = some x → ∃ y, (z, y) ∈ kvs ∧ x = .str y
  | [], _, _, h => by cases h
  | (k, v) :: r, z, x, h => by
    have h : (if k = z then some (.str v) else dctFind (r.map fun p => .str p.1) (r.map fun p => .str p.2) z) = some x := h
    by_cases e : k = z
    · rw [if_pos e] at h
      cases h; subst e
      exact ⟨v, List.mem_cons_self .., rfl⟩
    · rw [if_neg e] at h
      obtain ⟨y, h1, h2⟩ := dctFind_str h
      exact ⟨y, List.mem_cons_of_mem _ h1, h2⟩
theorem gd_str {cn : Cn} {ts : List He.Tab} (X : K.In h) (N : h.Ns mainGlobals mg) (c : He.SaysT fa fn ts w K) (i : Nat) {x : Str} {ks : List Str} {kvs : List (Str × Str)} (hm : He.Fa.glo x ∈ fa) (hi : ts[i]? = some (fun K => He.ga K x, ks)) (hv : He.valsB K (He.ga K x) (kvs.map fun p => (p.1, He.Dv.str p.2)) = true) :
    ∃ a, mg x = some (.ref a) ∧ ∀ (z : Str) (y : W), dctFind (kvs.map fun p => .str p.1) (kvs.map fun p => .str p.2) z = some y → ∃ v, KDct K w a z v ∧ ∀ d H, Rep cn d H y v := by
  refine ⟨_, He.glo_ok X N (c.d.facts hm), fun z y hy => ?_⟩
  obtain ⟨q, h1, rfl⟩ := dctFind_str hy
  obtain ⟨es, n, k1, k2, k3⟩ := c.tab i hi
  obtain ⟨u, n1, n2⟩ := He.valsB_ok hv (List.mem_map_of_mem (f := fun p => (p.1, He.Dv.str p.2)) h1)
  exact ⟨.str q, ⟨es, n, u, k1, k2, n1, n2⟩, fun _ _ => .strI⟩
end
end NV
set_option Elab.async false
set_option linter.all false
set_option maxRecDepth 100000
set_option maxHeartbeats 1000000
/-! # Runs of the little text, step by step -/
namespace NV
open PySem PySem.Spec PyProof.Rows L2
structure PO (p : P) (u v : W) (r : RV) : Prop where
  h : pOp2 p u v = some r
structure CC (cf : CallF) (f : Nat) (args : List SV) (S : Sto) (r : RV) (as : Env) (S' : Sto) : Prop where
  h : cf f args S = .ok r as S'
structure EV (cf : CallF) (m : M) (ρ : Env) (S : Sto) (r : RV) (ρ' : Env) (S' : Sto) : Prop where
  h : evE cf m ρ S = .ok r ρ' S'
structure AV1 (cf : CallF) (m : M) (ρ : Env) (S : Sto) (r : AV) (ρ' : Env) (S' : Sto) : Prop where
  h : argV (evE cf m) m ρ S = .ok r ρ' S'
structure AA (cf : CallF) (m : M) (ρ : Env) (S : Sto) (r : List AV) (ρ' : Env) (S' : Sto) : Prop where
  h : evA cf m ρ S = .ok r ρ' S'
structure OO (cf : CallF) (m : M) (ρ : Env) (S : Sto) (r : Option Int) (ρ' : Env) (S' : Sto) : Prop where
  h : optO (evE cf m) m ρ S = .ok r ρ' S'
structure II (cf : CallF) (m : M) (ρ : Env) (S : Sto) (r : List W) (ρ' : Env) (S' : Sto) : Prop where
  h : evI cf m ρ S = .ok r ρ' S'
structure TT1 (cf : CallF) (m : M) (ρ : Env) (S : Sto) (r : Bool) (ρ' : Env) (S' : Sto) : Prop where
  h : tst (evE cf m) ρ S = .ok r ρ' S'
structure RR (cf : CallF) (m : M) (ρ : Env) (S : Sto) (r : List RV) (ρ' : Env) (S' : Sto) : Prop where
  h : evR cf m ρ S = .ok r ρ' S'
structure SS (cf : CallF) (m : MS) (ρ : Env) (S : Sto) (r : Fl) (ρ' : Env) (S' : Sto) : Prop where
  h : evS cf m ρ S = .ok r ρ' S'
/-- go on unless something has ended -/
structure SF (cf : CallF) (f : Fl) (m : MS) (ρ : Env) (S : Sto) (r : Fl) (ρ' : Env) (S' : Sto) : Prop where
  h : (match f with
    | .nx => evS cf m ρ S
    | f => .ok f ρ S) = .ok r ρ' S'
structure SB (cf : CallF) (b : Bool) (m n : MS) (ρ : Env) (S : Sto) (r : Fl) (ρ' : Env) (S' : Sto) : Prop where
  h : (if b then evS cf m ρ S else evS cf n ρ S) = .ok r ρ' S'
structure EB (cf : CallF) (b : Bool) (m n : M) (ρ : Env) (S : Sto) (r : RV) (ρ' : Env) (S' : Sto) : Prop where
  h : (if b then evE cf m ρ S else evE cf n ρ S) = .ok r ρ' S'
structure FL (tgt : W → Env → Option Env) (cf : CallF) (m : MS) (l : List W) (ρ : Env) (S : Sto) (r : Fl) (ρ' : Env) (S' : Sto) : Prop where
  h : forL tgt (evS cf m) l ρ S = .ok r ρ' S'
section
variable {cf : CallF} {ρ ρ' ρ1 ρ2 ρ3 : Env} {S S' S1 S2 S3 : Sto} {a b m m2 n : M} {w u v : W} {r q : RV} {x y : AV} {l l2 : List AV} {i j : Nat} {o : Option Int} {bb : Bool}
def isPk : M → Bool
  | .pk _ => true
  | _ => false
theorem argV_ne {g : Env → Sto → Out RV} (h : isPk m = false) : argV g m ρ S = (g ρ S).bind fun r ρ S => .ok (.val r.frz) ρ S := by
  cases m <;> first | rfl | cases h
theorem A_pk {s : SV} (h : sget ρ i = some s) : AV1 cf (.pk i) ρ S (.pk i) ρ S := ⟨by simp only [argV, h]⟩
theorem A_v (h : EV cf m ρ S r ρ' S') (hm : isPk m = false) : AV1 cf m ρ S (.val r.frz) ρ' S' := ⟨by rw [argV_ne hm, h.h]; rfl⟩
theorem AA_nil : AA cf .nil ρ S [] ρ S := ⟨by simp only [evA]⟩
theorem AA_cons (h1 : AV1 cf a ρ S x ρ1 S1) (h2 : AA cf b ρ1 S1 l ρ2 S2) : AA cf (.cons a b) ρ S (x :: l) ρ2 S2 := ⟨by simp only [evA, h1.h, Out.bind_ok, h2.h]⟩
theorem RR_nil : RR cf .nil ρ S [] ρ S := ⟨by simp only [evR]⟩
theorem RR_cons {rs : List RV} (h1 : EV cf a ρ S r ρ1 S1) (h2 : RR cf b ρ1 S1 rs ρ2 S2) : RR cf (.cons a b) ρ S (r :: rs) ρ2 S2 := ⟨by simp only [evR, h1.h, Out.bind_ok, h2.h]⟩
theorem O_nil : OO cf .nil ρ S none ρ S := ⟨rfl⟩
theorem O_some {k : Int} (h : EV cf m ρ S (.val (.int k)) ρ' S') (hm : isNilM m = false) : OO cf m ρ S (some k) ρ' S' := ⟨by
  have : optO (evE cf m) m ρ S = (evE cf m ρ S).bind fun r ρ S => match r with
    | .val (.int i) => .ok (some i) ρ S
    | _ => .stuck := by cases m <;> first | rfl | cases hm
  rw [this, h.h]; rfl⟩
theorem E_cst : EV cf (.cst w) ρ S (.val w) ρ S := ⟨by simp only [evE]⟩
theorem E_gf {f : Nat} : EV cf (.gf f) ρ S (.val (.fn f)) ρ S := ⟨by simp only [evE]⟩
theorem E_gc {z : Str} : EV cf (.gc z w) ρ S (.val w) ρ S := ⟨by simp only [evE]⟩
theorem E_nm (h : rdEnv ρ i = some (w, ρ')) : EV cf (.nm i) ρ S (.val w) ρ' S := ⟨by simp only [evE, h]⟩
theorem E_gd {z : Str} {ks vs : List W} (h : EV cf m ρ S r ρ' S') (hw : pIx (.dct ks vs) r.frz = some w) : EV cf (.gd z ks vs m) ρ S (.val w) ρ' S' := ⟨by simp only [evE, h.h, Out.bind_ok, hw]⟩
theorem E_tup {ws : List W} (h : AA cf m ρ S l ρ' S') (hv : vals l = some ws) (hz : szOk ws.length = true) : EV cf (.tup m) ρ S (.val (.tup ws)) ρ' S' := ⟨by simp only [evE, h.h, Out.bind_ok, hv, hz, if_true]⟩
theorem E_lst {ws : List W} (h : AA cf m ρ S l ρ' S') (hv : vals l = some ws) (hz : szOk ws.length = true) : EV cf (.lst m) ρ S (.fresh ws) ρ' S' := ⟨by simp only [evE, h.h, Out.bind_ok, hv, hz, if_true]⟩
theorem E_op2 {p : P} (h1 : AV1 cf a ρ S x ρ1 S1) (h2 : AV1 cf b ρ1 S1 y ρ2 S2) (hx : x.get ρ2 S2 = some u) (hy : y.get ρ2 S2 = some v) (hp : PO p u v r) : EV cf (.op2 p a b) ρ S r ρ2 S2 := ⟨by simp only [evE, h1.h, Out.bind_ok, h2.h, hx, hy, hp.h]⟩
theorem E_neg {k : Int} (h : EV cf a ρ S (.val (.int k)) ρ' S') : EV cf (.neg a) ρ S (.val (.int (-k))) ρ' S' := ⟨by simp only [evE, h.h, Out.bind_ok, RV.frz_val]⟩
theorem E_sl {lo hi : M} {o2 : Option Int} (h1 : AV1 cf a ρ S x ρ1 S1) (h2 : OO cf lo ρ1 S1 o ρ2 S2) (h3 : OO cf hi ρ2 S2 o2 ρ3 S3) (hx : x.get ρ3 S3 = some u) (hp : pSl u o o2 = some r) : EV cf (.sl a lo hi) ρ S r ρ3 S3 := ⟨by simp only [evE, h1.h, Out.bind_ok, h2.h, h3.h, hx, hp]⟩
theorem E_bi {k : Bi} {ws : List W} (h : AA cf m ρ S l ρ' S') (hv : avs ρ' S' l = some ws) (hp : pBi k ws = some r) : EV cf (.bi k m) ρ S r ρ' S' := ⟨by simp only [evE, h.h, Out.bind_ok, hv, hp]⟩
theorem E_me {k : Me} {ws : List W} (h1 : AV1 cf a ρ S x ρ1 S1) (ht : tyOk k (x.get ρ1 S1) = true) (h2 : AA cf m ρ1 S1 l ρ2 S2) (hx : x.get ρ2 S2 = some u) (hv : avs ρ2 S2 l = some ws) (hp : pMe k u ws = some r) : EV cf (.me k a m) ρ S r ρ2 S2 := ⟨by simp only [evE, h1.h, Out.bind_ok, ht, if_true, h2.h, hx, hv, hp]⟩
theorem E_isi {ts : List Ty} (h : AV1 cf a ρ S x ρ' S') (hx : x.get ρ' S' = some u) (hp : isiW u ts = some bb) : EV cf (.isi a ts) ρ S (.val (.bl bb)) ρ' S' := ⟨by simp only [evE, h.h, Out.bind_ok, hx, hp]⟩
theorem E_andT (h : EV cf a ρ S (.val (.bl true)) ρ1 S1) (h2 : EV cf b ρ1 S1 r ρ' S') : EV cf (.and a b) ρ S r ρ' S' := ⟨by simp only [evE, h.h, Out.bind_ok, h2.h]⟩
theorem E_andF (h : EV cf a ρ S (.val (.bl false)) ρ1 S1) : EV cf (.and a b) ρ S (.val (.bl false)) ρ1 S1 := ⟨by simp only [evE, h.h, Out.bind_ok]⟩
theorem E_orF (h : EV cf a ρ S (.val (.bl false)) ρ1 S1) (h2 : EV cf b ρ1 S1 r ρ' S') : EV cf (.or a b) ρ S r ρ' S' := ⟨by simp only [evE, h.h, Out.bind_ok, h2.h]⟩
theorem E_orT (h : EV cf a ρ S (.val (.bl true)) ρ1 S1) : EV cf (.or a b) ρ S (.val (.bl true)) ρ1 S1 := ⟨by simp only [evE, h.h, Out.bind_ok]⟩
theorem E_and (h : EV cf a ρ S (.val (.bl bb)) ρ1 S1) (h2 : EB cf bb b (.cst (.bl false)) ρ1 S1 r ρ' S') : EV cf (.and a b) ρ S r ρ' S' := by
  cases bb with
  | true => exact E_andT h ⟨by simpa using h2.h⟩
  | false =>
    have := h2.h
    simp only [Bool.false_eq_true, if_false, evE] at this
    cases this
    exact E_andF h
theorem E_or (h : EV cf a ρ S (.val (.bl bb)) ρ1 S1) (h2 : EB cf bb (.cst (.bl true)) b ρ1 S1 r ρ' S') : EV cf (.or a b) ρ S r ρ' S' := by
  cases bb with
  | false => exact E_orF h ⟨by simpa using h2.h⟩
  | true =>
    have := h2.h
    simp only [if_true, evE] at this
    cases this
    exact E_orT h
theorem E_not (h : EV cf a ρ S (.val (.bl bb)) ρ1 S1) : EV cf (.not a) ρ S (.val (.bl (!bb))) ρ1 S1 := ⟨by simp only [evE, h.h, Out.bind_ok]⟩
theorem E_ite (h : EV cf m ρ S (.val (.bl bb)) ρ1 S1) (h2 : EB cf bb a b ρ1 S1 r ρ' S') : EV cf (.ite m a b) ρ S r ρ' S' := ⟨by
  have := h2.h
  cases bb with
  | true => simp only [evE, h.h, Out.bind_ok]; simpa using this
  | false => simp only [evE, h.h, Out.bind_ok]; simpa using this⟩
theorem EB_t (hb : bb = true) (h : EV cf a ρ S r ρ' S') : EB cf bb a b ρ S r ρ' S' := ⟨by rw [if_pos hb]; exact h.h⟩
theorem EB_f (hb : bb = false) (h : EV cf b ρ S r ρ' S') : EB cf bb a b ρ S r ρ' S' := ⟨by rw [if_neg (by rw [hb]; decide)]; exact h.h⟩
theorem E_chainF {p q : CmpOp} {z : M} {r2 : RV} (h1 : EV cf a ρ S r ρ1 S1) (h2 : EV cf b ρ1 S1 r2 ρ2 S2) (hp : pCmp p r.frz r2.frz = some false) : EV cf (.chain p q a b z) ρ S (.val (.bl false)) ρ2 S2 := ⟨by simp only [evE, h1.h, Out.bind_ok, h2.h, hp]⟩
theorem E_chainT {p q : CmpOp} {z : M} {r2 r3 : RV} (h1 : EV cf a ρ S r ρ1 S1) (h2 : EV cf b ρ1 S1 r2 ρ2 S2) (hp : pCmp p r.frz r2.frz = some true) (h3 : EV cf z ρ2 S2 r3 ρ3 S3) (hq : pCmp q r2.frz r3.frz = some bb) : EV cf (.chain p q a b z) ρ S (.val (.bl bb)) ρ3 S3 := ⟨by simp only [evE, h1.h, Out.bind_ok, h2.h, hp, h3.h, hq]⟩
theorem E_call {f : Nat} {args : List SV} {as : Env} (h : AA cf m ρ S l ρ1 S1) (hq : argSV ρ1 l = some args) (hn : (pks l).Nodup) (hc : CC cf f args S1 r as S2) (hb : backA ρ1 l as = some ρ2) : EV cf (.call f m) ρ S r ρ2 S2 := ⟨by simp only [evE, h.h, Out.bind_ok, doCall, hq, if_pos hn, hc.h, hb]⟩
theorem E_callk {f : Nat} {perm : List Nat} {ks : M} {l3 : List AV} {args : List SV} {as : Env} (h : AA cf m ρ S l ρ1 S1) (h2 : AA cf ks ρ1 S1 l2 ρ2 S2) (hp : pickL (l ++ l2) perm = some l3) (hq : argSV ρ2 l3 = some args) (hn : (pks l3).Nodup) (hc : CC cf f args S2 r as S3) (hb : backA ρ2 l3 as = some ρ3) : EV cf (.callk f perm m ks) ρ S r ρ3 S3 := ⟨by simp only [evE, h.h, h2.h, Out.bind_ok, hp, doCall, hq, if_pos hn, hc.h, hb]⟩
theorem E_mut {k : Mu} {xs0 xs : Bool × List W} {ys : List W} (h0 : sget ρ i = some (.own xs0)) (h : AA cf m ρ S l ρ1 S1) (h1 : sget ρ1 i = some (.own xs)) (hm : muE k xs.2 ρ1 S1 l = some (w, ys)) : EV cf (.mut k i m) ρ S (.val w) (ρ1.set i (some (.own (xs.1, ys)))) S1 := ⟨by simp only [evE, h0, h.h, Out.bind_ok, h1, hm]⟩
theorem E_heap {xs : List W} (h : EV cf a ρ S (.fresh xs) ρ1 S1) : EV cf (.heap a) ρ S (.val (.ref S1.length)) ρ1 (S1 ++ [xs]) := ⟨by simp only [evE, h.h, Out.bind_ok]⟩
theorem E_edict : EV cf .edict ρ S (.val (.dct [] [])) ρ S := ⟨by simp only [evE]⟩
theorem I_seq {ws : List W} (h : EV cf a ρ S r ρ1 S1) (hf : r.frz = .lst ws ∨ r.frz = .flst ws ∨ r.frz = .tup ws) : II cf (.seq a) ρ S ws ρ1 S1 := ⟨by
  rcases hf with hf | hf | hf <;> simp only [evI, h.h, Out.bind_ok, hf]⟩
theorem I_str {z : Str} (h : EV cf a ρ S r ρ1 S1) (hf : r.frz = .str z) : II cf (.seq a) ρ S (z.cps.toList.map fun c => .str ⟨#[c]⟩) ρ1 S1 := ⟨by simp only [evI, h.h, Out.bind_ok, hf]⟩
theorem I_rng {ws ns : List W} (h : AA cf m ρ S l ρ1 S1) (hv : vals l = some ws) (hr : rngL ws = some ns) : II cf (.rng m) ρ S ns ρ1 S1 := ⟨by simp only [evI, h.h, Out.bind_ok, hv, hr]⟩
theorem T_of (h : EV cf m ρ S (.val (.bl bb)) ρ1 S1) : TT1 cf m ρ S bb ρ1 S1 := ⟨by simp only [tst, h.h, Out.bind_ok]⟩
/-! ### statements -/
variable {sa sb : MS} {f : Fl}
theorem S_nil : SS cf .nil ρ S .nx ρ S := ⟨by simp only [evS]⟩
theorem S_pass : SS cf .pass ρ S .nx ρ S := ⟨by simp only [evS]⟩
theorem S_seq {f1 : Fl} (h : SS cf sa ρ S f1 ρ1 S1) (h2 : SF cf f1 sb ρ1 S1 f ρ' S') : SS cf (.seq sa sb) ρ S f ρ' S' := ⟨by
  have := h2.h
  simp only [evS, h.h, Out.bind_ok]
  cases f1 <;> exact this⟩
theorem SF_nx (h : SS cf sb ρ S f ρ' S') : SF cf .nx sb ρ S f ρ' S' := ⟨h.h⟩
theorem SF_rt : SF cf (.rt r) sb ρ S (.rt r) ρ S := ⟨rfl⟩
theorem SF_br : SF cf .br sb ρ S .br ρ S := ⟨rfl⟩
theorem SF_ct : SF cf .ct sb ρ S .ct ρ S := ⟨rfl⟩
theorem S_asg (h : EV cf m ρ S r ρ1 S1) (hp : putT ρ1 i r.sv = some ρ2) : SS cf (.asg i m) ρ S .nx ρ2 S1 := ⟨by simp only [evS, h.h, Out.bind_ok, hp]⟩
theorem S_par {is : List Nat} {rs : List RV} (h : RR cf m ρ S rs ρ1 S1) (hp : putRs ρ1 is rs = some ρ2) : SS cf (.par is m) ρ S .nx ρ2 S1 := ⟨by simp only [evS, h.h, Out.bind_ok, hp]⟩
theorem S_tgt {t : M} (h : EV cf m ρ S r ρ1 S1) (hp : asgT t r.frz ρ1 = some ρ2) : SS cf (.tgt t m) ρ S .nx ρ2 S1 := ⟨by simp only [evS, h.h, Out.bind_ok, hp]⟩
theorem S_put {ix : M} {k : Int} {p : Nat} {xs0 xs : Bool × List W} (h : EV cf m ρ S r ρ1 S1) (h0 : sget ρ1 i = some (.own xs0)) (h2 : EV cf ix ρ1 S1 (.val (.int k)) ρ2 S2) (h1 : sget ρ2 i = some (.own xs)) (hk : ixN xs.2.length k = some p) :
    SS cf (.put i ix m) ρ S .nx (ρ2.set i (some (.own (xs.1, xs.2.set p r.frz)))) S2 := ⟨by simp only [evS, h.h, Out.bind_ok, h0, h2.h, h1, hk]⟩
theorem S_expr (h : EV cf m ρ S r ρ1 S1) : SS cf (.expr m) ρ S .nx ρ1 S1 := ⟨by simp only [evS, h.h, Out.bind_ok]⟩
theorem S_ret (h : EV cf m ρ S r ρ1 S1) : SS cf (.ret m) ρ S (.rt r) ρ1 S1 := ⟨by simp only [evS, h.h, Out.bind_ok]⟩
theorem S_mvv (h : sget ρ i = some (.val w)) : SS cf (.mvr i) ρ S (.rt (.val w)) ρ S := ⟨by simp only [evS, h]⟩
theorem S_mvo {xs : List W} (h : sget ρ i = some (.own (false, xs))) : SS cf (.mvr i) ρ S (.rt (.fresh xs)) (ρ.set i none) S := ⟨by simp only [evS, h, Bool.false_eq_true, if_false]⟩
theorem S_ite (h : EV cf m ρ S (.val (.bl bb)) ρ1 S1) (h2 : SB cf bb sa sb ρ1 S1 f ρ' S') : SS cf (.ite m sa sb) ρ S f ρ' S' := ⟨by
  simp only [evS, (T_of h).h, Out.bind_ok]
  exact h2.h⟩
theorem SB_t (hb : bb = true) (h : SS cf sa ρ S f ρ' S') : SB cf bb sa sb ρ S f ρ' S' := ⟨by rw [if_pos hb]; exact h.h⟩
theorem SB_f (hb : bb = false) (h : SS cf sb ρ S f ρ' S') : SB cf bb sa sb ρ S f ρ' S' := ⟨by rw [if_neg (by rw [hb]; decide)]; exact h.h⟩
theorem S_forr {t it : M} {ws : List W} (h : II cf it ρ S ws ρ1 S1) (h2 : FL (asgT t) cf sa ws ρ1 S1 f ρ' S') : SS cf (.forr t it sa) ρ S f ρ' S' := ⟨by
  simp only [evS, h.h, Out.bind_ok]
  exact h2.h⟩
theorem FL_nil {t : W → Env → Option Env} : FL t cf sa [] ρ S .nx ρ S := ⟨rfl⟩
theorem FL_cons {t : W → Env → Option Env} {ws : List W} (ht : t w ρ = some ρ1) (h : SS cf sa ρ1 S .nx ρ2 S2) (h2 : FL t cf sa ws ρ2 S2 f ρ' S') : FL t cf sa (w :: ws) ρ S f ρ' S' := ⟨by
  simp only [forL, ht, h.h, Out.bind_ok]
  exact h2.h⟩
theorem FL_ret {t : W → Env → Option Env} {ws : List W} (ht : t w ρ = some ρ1) (h : SS cf sa ρ1 S (.rt r) ρ2 S2) : FL t cf sa (w :: ws) ρ S (.rt r) ρ2 S2 := ⟨by simp only [forL, ht, h.h, Out.bind_ok]⟩
/-- a def's run -/
theorem run_rt {T : List FD} {k f : Nat} {D : FD} {args : List SV} (hD : T[f]? = some D) (hl : args.length = D.ps.length) (h : SS (callT T k) D.ms (args.map some ++ List.replicate (D.N.length - D.ps.length) none) S (.rt r) ρ' S') {as : Env} (hb : backP args ρ' = as) : CC (callT T (k + 1)) f args S r as S' := by
  exact ⟨by simp only [callT, hD, runF, if_pos hl, h.h, hb]⟩
theorem run_nx {T : List FD} {k f : Nat} {D : FD} {args : List SV} (hD : T[f]? = some D) (hl : args.length = D.ps.length) (h : SS (callT T k) D.ms (args.map some ++ List.replicate (D.N.length - D.ps.length) none) S .nx ρ' S') {as : Env} (hb : backP args ρ' = as) : CC (callT T (k + 1)) f args S (.val .non) as S' := by
  exact ⟨by simp only [callT, hD, runF, if_pos hl, h.h, hb]⟩
/-! ### numbers -/
theorem log2_le {n k : Nat} (h : n < 2 ^ k) : n.log2 ≤ k := by
  by_cases z : n = 0
  · subst z; simp
  · have := (Nat.log2_lt z).mpr h
    omega
theorem p_mul {i j : Int} (a b : Nat) (hi : i.natAbs < 2 ^ a) (hj : j.natAbs < 2 ^ b) (h : a + b < 1000000) : PO (.bin .Mult) (.int i) (.int j) (.val (.int (i * j))) := by
  have h1 := log2_le hi
  have h2 := log2_le hj
  constructor
  simp only [pOp2, pBin]
  rw [if_pos]
  rw [decide_eq_true_eq]
  omega
theorem p_mod {i j : Int} (h : 0 < j) : PO (.bin .Mod) (.int i) (.int j) (.val (.int (i % j))) := by
  constructor
  simp only [pOp2, pBin]
  rw [if_pos]
  rw [decide_eq_true_eq]; exact h
theorem p_add {i j : Int} : PO (.bin .Add) (.int i) (.int j) (.val (.int (i + j))) := ⟨rfl⟩
theorem p_sub {i j : Int} : PO (.bin .Sub) (.int i) (.int j) (.val (.int (i - j))) := ⟨rfl⟩
theorem p_div {i j : Int} (h : 0 < j) (h2 : j.natAbs < 2 ^ 8000) : PO (.bin .FloorDiv) (.int i) (.int j) (.val (.int (i / j))) := by
  have := log2_le h2
  constructor
  simp only [pOp2, pBin]
  rw [if_pos]
  rw [Bool.and_eq_true, decide_eq_true_eq, decide_eq_true_eq]
  exact ⟨h, by omega⟩
end
end NV
namespace NV
open PySem PySem.Spec PyProof.Rows L2
section
variable {cf : CallF} {ρ ρ1 : Env} {S S1 : Sto}
theorem atI_at {α : Type} {ws : List α} {r : Int} {j : Nat} (h : r = (j : Int)) (hj : j < ws.length) : atI ws r = some ws[j] := by
  subst h
  unfold atI ixN
  rw [if_pos (by omega), if_pos (by omega)]
  simp [hj]
theorem lc_pure {tgt : W → Env → Option Env} {F : Env → Sto → Out (Option W)} {own : List Nat} {P : W → Bool} {g : W → W} : ∀ {ws acc : List W}, (∀ w ∈ ws, ∃ ρ2, tgt w ρ = some ρ2 ∧ ∃ ρ3, F ρ2 S = .ok (if P w then some (g w) else none) ρ3 S ∧ wipeE ρ3 own = ρ) → acc.length + ws.length ≤ sizeLine →
    lcLoop tgt F own ws acc ρ S = .ok (acc ++ (ws.filter P).map g) ρ S
  | [], acc, _, _ => by simp [lcLoop]
  | w :: ws, acc, h, hl => by
    obtain ⟨ρ2, h1, ρ3, h2, h3⟩ := h w (List.mem_cons_self ..)
    rw [List.length_cons] at hl
    have ih := fun a => lc_pure (ws := ws) (acc := a) (tgt := tgt) (F := F) (own := own) (P := P) (g := g) (fun w hw => h w (List.mem_cons_of_mem _ hw))
    cases hp : P w with
    | true =>
      rw [hp, if_pos rfl] at h2
      simp only [lcLoop, h1, h2, h3]
      rw [if_pos (by omega), ih _ (by rw [List.length_append, List.length_singleton]; omega), List.filter_cons_of_pos hp]
      simp
    | false =>
      rw [hp, if_neg (by decide)] at h2
      simp only [lcLoop, h1, h2, h3]
      rw [ih _ (by omega), List.filter_cons_of_neg (by rw [hp]; decide)]
theorem E_lcp {own : List Nat} {src tgt cond elt : M} {ws : List W} {P : W → Bool} {g : W → W} (hi : II cf src ρ S ws ρ1 S1) (hf : own.all (freeS ρ1) = true)
    (hs : ∀ w ∈ ws, ∃ ρ2, asgT tgt w (wipeE ρ1 own) = some ρ2 ∧ ∃ ρ3, EV cf cond ρ2 S1 (.val (.bl (P w))) ρ3 S1 ∧ (P w = true → ∃ r ρ4, EV cf elt ρ3 S1 r ρ4 S1 ∧ r.frz = g w ∧ wipeE ρ4 own = wipeE ρ1 own) ∧ (P w = false → wipeE ρ3 own = wipeE ρ1 own)) (hl : ws.length ≤ sizeLine) :
    EV cf (.lc own src tgt cond elt) ρ S (.fresh ((ws.filter P).map g)) (backE ρ1 (wipeE ρ1 own) own) S1 := by
  constructor
  simp only [evE, hi.h, Out.bind_ok, if_pos hf]
  rw [lc_pure (P := P) (g := g) (acc := []) (fun w hw => ?_) (by simpa using hl)]
  · rfl
  · obtain ⟨ρ2, h1, ρ3, h2, h3, h4⟩ := hs w hw
    refine ⟨ρ2, h1, ?_⟩
    cases hp : P w with
    | true =>
      obtain ⟨r, ρ4, h5, h6, h7⟩ := h3 hp
      rw [hp] at h2
      exact ⟨ρ4, by simp only [h2.h, Out.bind_ok, h5.h, h6, if_true], h7⟩
    | false =>
      rw [hp] at h2
      exact ⟨ρ3, by simp only [h2.h, Out.bind_ok, Bool.false_eq_true, if_false], h4 hp⟩
theorem p_eqnil {l : List W} {xs : List PyData} (h : W.toDs l = some xs) : PO (.cmp .Eq) (.lst l) (.lst []) (.val (.bl l.isEmpty)) := by
  constructor
  have e1 : W.toD (.lst l) = some (.list xs) := by simp only [W.toD, h]; rfl
  have e2 : W.toD (.lst []) = some (.list []) := rfl
  have e3 : dOk (.list []) = true := by decide
  simp only [pOp2, pCmp, wEq, e1, e2, e3, Bool.or_true, if_true, Option.map_some]
  cases l with
  | nil => cases h; rfl
  | cons a l =>
    cases xs with
    | nil =>
      simp only [W.toDs] at h
      split at h <;> cases h
    | cons x xs => rfl
theorem strs_toDs : ∀ {l : List Str}, W.toDs (l.map W.str) = some (l.map PyData.str)
  | [] => rfl
  | a :: l => by
    show (match W.toD (.str a), W.toDs (l.map W.str) with
    | some x, some xs => some (x :: xs)
    | _, _ => none) = _
    rw [strs_toDs]; rfl
end
end NV
namespace NV
open PySem PySem.Spec PyProof.Rows L2
/-- the second half of a chain -/
structure CH (cf : CallF) (b : Bool) (q : CmpOp) (r2 : RV) (z : M) (ρ : Env) (S : Sto) (r : RV) (ρ' : Env) (S' : Sto) : Prop where
  h : (if b then (evE cf z ρ S).bind fun z ρ S => match pCmp q r2.frz z.frz with
      | some r => .ok (.val (.bl r)) ρ S
      | none => .stuck
    else .ok (.val (.bl false)) ρ S) = .ok r ρ' S'
section
variable {cf : CallF} {ρ ρ' ρ1 ρ2 ρ3 : Env} {S S' S1 S2 S3 : Sto} {a b z : M} {r r2 r3 q : RV} {bb b1 : Bool}
theorem E_chain {p q : CmpOp} (h1 : EV cf a ρ S r ρ1 S1) (h2 : EV cf b ρ1 S1 r2 ρ2 S2) (hp : pCmp p r.frz r2.frz = some b1) (h3 : CH cf b1 q r2 z ρ2 S2 r3 ρ3 S3) : EV cf (.chain p q a b z) ρ S r3 ρ3 S3 := by
  have := h3.h
  constructor
  cases b1 with
  | true =>
    simp only [evE, h1.h, Out.bind_ok, h2.h, hp]
    rw [if_pos rfl] at this
    exact this
  | false =>
    simp only [evE, h1.h, Out.bind_ok, h2.h, hp]
    exact this
theorem CH_t {q : CmpOp} (hb : b1 = true) (h : EV cf z ρ S r3 ρ' S') (hq : pCmp q r2.frz r3.frz = some bb) : CH cf b1 q r2 z ρ S (.val (.bl bb)) ρ' S' := ⟨by rw [if_pos hb, h.h, Out.bind_ok]; simp only [hq]⟩
theorem CH_f {q : CmpOp} (hb : b1 = false) : CH cf b1 q r2 z ρ S (.val (.bl false)) ρ S := ⟨by rw [hb]; rfl⟩
theorem p_ixs {s : Str} {i : Int} {c : Nat} (hz : s.length ≤ sizeLine) (h : atI s.cps.toList i = some c) : PO .ix (.str s) (.int i) (.val (.str ⟨#[c]⟩)) := ⟨by
  have : szOk s.length = true := decide_eq_true hz
  simp only [pOp2, pIx, this, if_true, h]; rfl⟩
theorem p_len {s : Str} (hz : s.length ≤ sizeLine) : pBi .len [.str s] = some (.val (.int s.length)) := by
  have : szOk s.length = true := decide_eq_true hz
  simp only [pBi, this, if_true]
end
end NV
namespace NV
open PySem PySem.Spec PyProof.Rows L2
structure WL (cf : CallF) (t : M) (b : MS) (n : Nat) (ρ : Env) (S : Sto) (f : Fl) (ρ' : Env) (S' : Sto) : Prop where
  h : whileL (tst (evE cf t)) (evS cf b) n ρ S = .ok f ρ' S'
section
variable {cf : CallF} {ρ ρ' ρ1 ρ2 ρ3 : Env} {S S' S1 S2 S3 : Sto} {t : M} {b : MS} {n : Nat} {f : Fl} {r : RV} {bb : Bool}
theorem S_whl (h : WL cf t b n ρ S f ρ' S') : SS cf (.whl n t b) ρ S f ρ' S' := ⟨by simp only [evS]; exact h.h⟩
theorem W_stop (h : EV cf t ρ S (.val (.bl false)) ρ1 S1) : WL cf t b (n + 1) ρ S .nx ρ1 S1 := ⟨by simp only [whileL, (T_of h).h, Out.bind_ok, Bool.false_eq_true, if_false]⟩
theorem W_go (h : EV cf t ρ S (.val (.bl true)) ρ1 S1) (hb : SS cf b ρ1 S1 .nx ρ2 S2) (hw : WL cf t b n ρ2 S2 f ρ' S') : WL cf t b (n + 1) ρ S f ρ' S' := ⟨by simp only [whileL, (T_of h).h, Out.bind_ok, if_true, hb.h]; exact hw.h⟩
theorem W_ret (h : EV cf t ρ S (.val (.bl true)) ρ1 S1) (hb : SS cf b ρ1 S1 (.rt r) ρ2 S2) : WL cf t b (n + 1) ρ S (.rt r) ρ2 S2 := ⟨by simp only [whileL, (T_of h).h, Out.bind_ok, if_true, hb.h]⟩
theorem mu_pop {st : List W} {e : W} : muE .pop (st ++ [e]) ρ S [] = some (e, st) := by
  simp [muE]
theorem mu_ext {xs ys : List W} (h : xs.length + ys.length ≤ sizeLine) : muE .extend xs ρ S [.val (.lst ys)] = some (.non, xs ++ ys) := by
  simp only [muE, AV.get, res]
  rw [if_pos h]
theorem p_nenil {l : List W} {xs : List PyData} (h : W.toDs l = some xs) : PO (.cmp .NotEq) (.lst l) (.lst []) (.val (.bl (!l.isEmpty))) := by
  have := (p_eqnil h).h
  constructor
  simp only [pOp2, pCmp] at this ⊢
  cases q : wEq (.lst l) (.lst []) with
  | none => rw [q] at this; cases this
  | some b =>
    rw [q] at this
    simp only [Option.map_some] at this ⊢
    cases this
    rfl
end
end NV
set_option Elab.async false
set_option linter.all false
set_option maxRecDepth 100000
set_option maxHeartbeats 0
/-! # The law's text, the little text -/
namespace K05
open PySem PySem.Spec PyProof.Rows L2 NV
def top (i : Nat) : Stmt := PySem.Challenge.pw_netsproved_k05_whole_texts_of_formulas.main.body.getD i (.Pass ⟨0, 0, 0, 0⟩)
/-- is_word -/
def m_is_word : MS := (.seq (.ite (.or (.not (.isi (.pk 0) [.str])) (.or (.not (.chain .LtE .LtE (.cst (.int 1)) (.bi .len (.cons (.pk 0) .nil)) (.gc "MOST_SIGNS" (.int 8)))) (.op2 (.cmp .NotIn) (.op2 .ix (.pk 0) (.cst (.int 0))) (.gc "LETTERS" (.str "abcdefghijklmnopqrstuvwxyz"))))) (.seq (.ret (.cst (.bl false)))
    .nil) .nil)
    (.seq (.ret (.and (.op2 (.cmp .Eq) (.lc [1] (.seq (.nm 0)) (.tnm 1) (.op2 (.cmp .NotIn) (.pk 1) (.op2 (.bin .Add) (.gc "LETTERS" (.str "abcdefghijklmnopqrstuvwxyz")) (.gc "FIGURES" (.str "0123456789")))) (.nm 1)) (.lst .nil)) (.op2 (.cmp .NotIn) (.pk 0) (.gc "CLOSED" (.tup [(.str "both"), (.str "either"), (.str "not"), (.str "close"), (.str "cut"), (.str "order"), (.str "end"), (.str "pair")])))))
    .nil))
/-- check_text -/
def m_check_text : MS := (.seq (.ite (.not (.isi (.pk 0) [.str])) .dead .nil)
    .nil)
/-- inner_of -/
def m_inner_of : MS := (.seq (.ret (.ite (.op2 (.cmp .In) (.op2 .ix (.pk 0) (.cst (.int 0))) (.tup (.cons (.cst (.str "both")) (.cons (.cst (.str "either")) .nil)))) (.bi .list (.cons (.sl (.pk 0) (.cst (.int 1)) .nil) .nil)) (.lst .nil)))
    .nil)
/-- is_formed -/
def m_is_formed : MS := (.seq (.ite (.or (.not (.isi (.pk 0) [.tuple])) (.or (.op2 (.cmp .Eq) (.pk 0) (.tup .nil)) (.not (.isi (.op2 .ix (.pk 0) (.cst (.int 0))) [.str])))) (.seq (.ret (.cst (.bl false)))
    .nil) .nil)
    (.seq (.ite (.op2 (.cmp .In) (.op2 .ix (.pk 0) (.cst (.int 0))) (.tup (.cons (.cst (.str "is")) (.cons (.cst (.str "not")) .nil)))) (.seq (.ret (.and (.op2 (.cmp .Eq) (.bi .len (.cons (.pk 0) .nil)) (.cst (.int 2))) (.call 0 (.cons (.op2 .ix (.pk 0) (.cst (.int 1))) .nil))))
    .nil) .nil)
    (.seq (.ret (.and (.op2 (.cmp .In) (.op2 .ix (.pk 0) (.cst (.int 0))) (.tup (.cons (.cst (.str "both")) (.cons (.cst (.str "either")) .nil)))) (.op2 (.cmp .Eq) (.bi .len (.cons (.pk 0) .nil)) (.cst (.int 3)))))
    .nil)))
/-- is_formula_in -/
def m_is_formula_in : MS := (.seq (.par [1, 2] (.cons (.lst (.cons (.tup (.cons (.nm 0) (.cons (.cst (.int 1)) .nil))) .nil)) (.cons (.cst (.int 0)) .nil)))
    (.seq (.whl 4096 (.op2 (.cmp .NotEq) (.pk 1) (.lst .nil)) (.seq (.tgt (.ttup (.cons (.tnm 3) (.cons (.tnm 4) .nil))) (.mut .pop 1 .nil))
    (.seq (.asg 2 (.op2 (.bin .Add) (.pk 2) (.cst (.int 1))))
    (.seq (.ite (.or (.op2 (.cmp .Gt) (.pk 2) (.gc "MOST_FORMULAS" (.int 60))) (.or (.op2 (.cmp .Gt) (.pk 4) (.gc "MOST_WITHIN" (.int 20))) (.not (.call 3 (.cons (.nm 3) .nil))))) (.seq (.ret (.cst (.bl false)))
    .nil) .nil)
    (.seq (.expr (.mut .extend 1 (.cons (.lc [5] (.seq (.call 2 (.cons (.nm 3) .nil))) (.tnm 5) (.cst (.bl true)) (.tup (.cons (.nm 5) (.cons (.op2 (.bin .Add) (.pk 4) (.cst (.int 1))) .nil)))) .nil)))
    .nil)))))
    (.seq (.ret (.cst (.bl true)))
    .nil)))
/-- check_formula -/
def m_check_formula : MS := (.seq (.ite (.not (.call 4 (.cons (.nm 0) .nil))) .dead .nil)
    .nil)
/-- turned_in -/
def m_turned_in : MS := (.seq (.ite (.op2 (.cmp .In) (.op2 .ix (.pk 0) (.cst (.int 0))) (.tup (.cons (.cst (.str "is")) (.cons (.cst (.str "not")) .nil)))) (.seq (.ret (.tup (.cons (.gd "SIDES" [(.str "is"), (.str "not"), (.str "both"), (.str "either")] [(.str "not"), (.str "is"), (.str "either"), (.str "both")] (.op2 .ix (.pk 0) (.cst (.int 0)))) (.cons (.op2 .ix (.pk 0) (.cst (.int 1))) .nil))))
    .nil) .nil)
    (.seq (.ret (.op2 (.bin .Add) (.tup (.cons (.gd "SIDES" [(.str "is"), (.str "not"), (.str "both"), (.str "either")] [(.str "not"), (.str "is"), (.str "either"), (.str "both")] (.op2 .ix (.pk 0) (.cst (.int 0)))) .nil)) (.bi .tuple (.cons (.lc [1] (.seq (.sl (.pk 0) (.cst (.int 1)) .nil)) (.tnm 1) (.cst (.bl true)) (.call 6 (.cons (.nm 1) .nil))) .nil))))
    .nil))
/-- turned -/
def m_turned : MS := (.seq (.expr (.call 5 (.cons (.nm 0) .nil)))
    (.seq (.ret (.call 6 (.cons (.nm 0) .nil)))
    .nil))
/-- closely -/
def m_closely : MS := (.seq (.ret (.ite (.op2 (.cmp .In) (.op2 .ix (.pk 0) (.cst (.int 0))) (.tup (.cons (.cst (.str "is")) (.cons (.cst (.str "not")) .nil)))) (.call 9 (.cons (.nm 0) .nil)) (.op2 (.bin .Add) (.op2 (.bin .Add) (.cst (.str "(")) (.call 9 (.cons (.nm 0) .nil))) (.cst (.str ")")))))
    .nil)
/-- text_in -/
def m_text_in : MS := (.seq (.asg 1 (.op2 .ix (.pk 0) (.cst (.int 0))))
    (.seq (.ite (.op2 (.cmp .In) (.pk 1) (.tup (.cons (.cst (.str "is")) (.cons (.cst (.str "not")) .nil)))) (.seq (.ret (.ite (.op2 (.cmp .Eq) (.pk 1) (.cst (.str "is"))) (.op2 .ix (.pk 0) (.cst (.int 1))) (.op2 (.bin .Add) (.cst (.str "not ")) (.op2 .ix (.pk 0) (.cst (.int 1))))))
    .nil) .nil)
    (.seq (.asg 2 (.ite (.op2 (.cmp .Eq) (.tup (.cons (.nm 1) (.cons (.op2 .ix (.op2 .ix (.pk 0) (.cst (.int 1))) (.cst (.int 0))) .nil))) (.tup (.cons (.cst (.str "both")) (.cons (.cst (.str "either")) .nil)))) (.call 8 (.cons (.op2 .ix (.pk 0) (.cst (.int 1))) .nil)) (.call 9 (.cons (.op2 .ix (.pk 0) (.cst (.int 1))) .nil))))
    (.seq (.asg 3 (.ite (.op2 (.cmp .Eq) (.tup (.cons (.nm 1) (.cons (.op2 .ix (.op2 .ix (.pk 0) (.cst (.int 2))) (.cst (.int 0))) .nil))) (.tup (.cons (.cst (.str "either")) (.cons (.cst (.str "both")) .nil)))) (.call 9 (.cons (.op2 .ix (.pk 0) (.cst (.int 2))) .nil)) (.call 8 (.cons (.op2 .ix (.pk 0) (.cst (.int 2))) .nil))))
    (.seq (.ret (.op2 (.bin .Add) (.op2 (.bin .Add) (.op2 (.bin .Add) (.op2 (.bin .Add) (.pk 2) (.cst (.str " "))) (.pk 1)) (.cst (.str " "))) (.pk 3)))
    .nil)))))
/-- text_of_formula -/
def m_text_of_formula : MS := (.seq (.expr (.call 5 (.cons (.nm 0) .nil)))
    (.seq (.ret (.call 9 (.cons (.nm 0) .nil)))
    .nil))
/-- words_in -/
def m_words_in : MS := (.seq (.par [2, 3] (.cons (.lst .nil) (.cons (.cst (.bl false)) .nil)))
    (.seq (.forr (.tnm 1) (.seq (.nm 0)) (.seq (.asg 4 (.op2 (.cmp .In) (.pk 1) (.op2 (.bin .Add) (.gc "LETTERS" (.str "abcdefghijklmnopqrstuvwxyz")) (.gc "FIGURES" (.str "0123456789")))))
    (.seq (.ite (.and (.nm 4) (.nm 3)) (.seq (.put 2 (.neg (.cst (.int 1))) (.op2 (.bin .Add) (.op2 .ix (.pk 2) (.neg (.cst (.int 1)))) (.pk 1)))
    .nil) (.seq (.ite (.op2 (.cmp .NotIn) (.pk 1) (.cst (.str " \n"))) (.seq (.expr (.mut .append 2 (.cons (.nm 1) .nil)))
    .nil) .nil)
    .nil))
    (.seq (.asg 3 (.nm 4))
    .nil))))
    (.seq (.mvr 2)
    .nil)))
/-- first_wrong_in -/
def m_first_wrong_in : MS := (.seq (.tgt (.ttup (.cons (.tnm 1) (.cons (.tnm 2) .nil))) (.tup (.cons (.cst (.bl true)) (.cons (.cst (.int 0)) .nil))))
    (.seq (.forr (.ttup (.cons (.tnm 3) (.cons (.tnm 4) .nil))) (.enum (.cons (.nm 0) .nil)) (.seq (.ite (.nm 1) (.seq (.ite (.and (.op2 (.cmp .NotIn) (.pk 4) (.tup (.cons (.cst (.str "not")) (.cons (.cst (.str "(")) .nil)))) (.not (.call 0 (.cons (.nm 4) .nil)))) (.seq (.mvr 3)
    .nil) .nil)
    (.seq (.par [1, 2] (.cons (.op2 (.cmp .In) (.pk 4) (.tup (.cons (.cst (.str "not")) (.cons (.cst (.str "(")) .nil)))) (.cons (.op2 (.bin .Add) (.pk 2) (.bi .int (.cons (.op2 (.cmp .Eq) (.pk 4) (.cst (.str "("))) .nil))) .nil)))
    .nil)) (.seq (.ite (.op2 (.cmp .In) (.pk 4) (.tup (.cons (.cst (.str "both")) (.cons (.cst (.str "either")) .nil)))) (.seq (.asg 1 (.cst (.bl true)))
    .nil) (.seq (.ite (.and (.op2 (.cmp .Eq) (.pk 4) (.cst (.str ")"))) (.op2 (.cmp .Gt) (.pk 2) (.cst (.int 0)))) (.seq (.asg 2 (.op2 (.bin .Sub) (.pk 2) (.cst (.int 1))))
    .nil) (.seq (.mvr 3)
    .nil))
    .nil))
    .nil))
    .nil))
    (.seq (.ret (.ite (.and (.not (.nm 1)) (.op2 (.cmp .Eq) (.pk 2) (.cst (.int 0)))) (.cst .non) (.bi .len (.cons (.pk 0) .nil))))
    .nil)))
/-- join_both -/
def m_join_both : MS := (.seq (.whl 4096 (.and (.op2 (.cmp .NotEq) (.pk 1) (.lst .nil)) (.op2 (.cmp .In) (.op2 .ix (.pk 1) (.neg (.cst (.int 1)))) (.pk 2))) (.seq (.asg 3 (.mut .pop 0 .nil))
    (.seq (.expr (.mut .append 0 (.cons (.tup (.cons (.mut .pop 1 .nil) (.cons (.mut .pop 0 .nil) (.cons (.nm 3) .nil)))) .nil)))
    .nil)))
    .nil)
/-- turn_last -/
def m_turn_last : MS := (.seq (.whl 4096 (.and (.op2 (.cmp .NotEq) (.pk 1) (.lst .nil)) (.op2 (.cmp .Eq) (.op2 .ix (.pk 1) (.neg (.cst (.int 1)))) (.cst (.str "not")))) (.seq (.expr (.mut .pop 1 .nil))
    (.seq (.expr (.mut .append 0 (.cons (.call 6 (.cons (.mut .pop 0 .nil) .nil)) .nil)))
    .nil)))
    .nil)
/-- built -/
def m_built : MS := (.seq (.par [2, 3] (.cons (.lst .nil) (.cons (.lst .nil) .nil)))
    (.seq (.forr (.tnm 1) (.seq (.nm 0)) (.seq (.ite (.op2 (.cmp .In) (.pk 1) (.tup (.cons (.cst (.str "not")) (.cons (.cst (.str "(")) .nil)))) (.seq (.expr (.mut .append 3 (.cons (.nm 1) .nil)))
    .nil) (.seq (.ite (.op2 (.cmp .In) (.pk 1) (.tup (.cons (.cst (.str "both")) (.cons (.cst (.str "either")) .nil)))) (.seq (.expr (.call 13 (.cons (.pk 2) (.cons (.pk 3) (.cons (.ite (.op2 (.cmp .Eq) (.pk 1) (.cst (.str "both"))) (.tup (.cons (.cst (.str "both")) .nil)) (.tup (.cons (.cst (.str "both")) (.cons (.cst (.str "either")) .nil)))) .nil)))))
    (.seq (.expr (.mut .append 3 (.cons (.nm 1) .nil)))
    .nil)) (.seq (.ite (.op2 (.cmp .Eq) (.pk 1) (.cst (.str ")"))) (.seq (.expr (.call 13 (.cons (.pk 2) (.cons (.pk 3) (.cons (.tup (.cons (.cst (.str "both")) (.cons (.cst (.str "either")) .nil))) .nil)))))
    (.seq (.expr (.mut .pop 3 .nil))
    .nil)) (.seq (.expr (.mut .append 2 (.cons (.tup (.cons (.cst (.str "is")) (.cons (.nm 1) .nil))) .nil)))
    .nil))
    (.seq (.expr (.call 14 (.cons (.pk 2) (.cons (.pk 3) .nil))))
    .nil)))
    .nil))
    .nil))
    (.seq (.expr (.call 13 (.cons (.pk 2) (.cons (.pk 3) (.cons (.tup (.cons (.cst (.str "both")) (.cons (.cst (.str "either")) .nil))) .nil)))))
    (.seq (.ret (.op2 .ix (.pk 2) (.cst (.int 0))))
    .nil))))
/-- read_in -/
def m_read_in : MS := (.seq (.asg 1 (.call 11 (.cons (.nm 0) .nil)))
    (.seq (.asg 2 (.call 12 (.cons (.nm 1) .nil)))
    (.seq (.ite (.op2 (.cmp .IsNot) (.pk 2) (.cst .non)) (.seq (.ret (.tup (.cons (.cst .non) (.cons (.nm 2) .nil))))
    .nil) .nil)
    (.seq (.ite (.op2 (.cmp .Gt) (.bi .len (.cons (.lc [4] (.seq (.nm 1)) (.tnm 4) (.call 0 (.cons (.nm 4) .nil)) (.nm 4)) .nil)) (.gc "MOST_LETTERS" (.int 30))) (.seq (.ret (.tup (.cons (.cst .non) (.cons (.bi .len (.cons (.pk 1) .nil)) .nil))))
    .nil) .nil)
    (.seq (.asg 3 (.call 15 (.cons (.nm 1) .nil)))
    (.seq (.ret (.ite (.call 4 (.cons (.nm 3) .nil)) (.tup (.cons (.nm 3) (.cons (.cst .non) .nil))) (.tup (.cons (.cst .non) (.cons (.bi .len (.cons (.pk 1) .nil)) .nil)))))
    .nil))))))
/-- formula_of_text -/
def m_formula_of_text : MS := (.seq (.expr (.call 1 (.cons (.nm 0) .nil)))
    (.seq (.tgt (.ttup (.cons (.tnm 1) (.cons (.tnm 2) .nil))) (.call 16 (.cons (.nm 0) .nil)))
    (.seq (.ite (.op2 (.cmp .IsNot) (.pk 2) (.cst .non)) .dead .nil)
    (.seq (.mvr 1)
    .nil))))
/-- wrong_word -/
def m_wrong_word : MS := (.seq (.expr (.call 1 (.cons (.nm 0) .nil)))
    (.seq (.ret (.op2 .ix (.call 16 (.cons (.nm 0) .nil)) (.cst (.int 1))))
    .nil))
/-- _law_hash -/
def m_law_hash : MS := (.seq (.asg 2 (.op2 (.bin .Mod) (.bi .int (.cons (.op2 (.bin .Add) (.op2 (.bin .Add) (.op2 (.bin .Add) (.op2 (.bin .Mult) (.pk 0) (.cst (.int 1140671))) (.op2 (.bin .Mult) (.op2 (.bin .Mult) (.cst (.int 27644437)) (.pk 1)) (.pk 1))) (.op2 (.bin .Mult) (.cst (.int 131)) (.pk 1))) (.cst (.int 19))) .nil)) (.cst (.int 2147483629))))
    (.seq (.asg 2 (.op2 (.bin .Mod) (.bi .int (.cons (.op2 (.bin .Add) (.op2 (.bin .Add) (.op2 (.bin .Mult) (.pk 2) (.pk 2)) (.op2 (.bin .Mult) (.cst (.int 62089)) (.pk 1))) (.cst (.int 32416187))) .nil)) (.cst (.int 2147483587))))
    (.seq (.ret (.op2 (.bin .Mod) (.bi .int (.cons (.op2 (.bin .Mult) (.pk 2) (.cst (.int 48271))) .nil)) (.cst (.int 2147483647))))
    .nil)))
/-- _law_random -/
def m_law_random : MS := (.seq (.ite (.op2 (.cmp .Gt) (.op2 .ix (.pk 0) (.cst (.int 0))) (.cst (.int 0))) (.seq (.asg 2 (.op2 (.bin .Mod) (.bi .int (.cons (.op2 .ix (.pk 0) (.cst (.int 0))) .nil)) (.pk 1)))
    (.seq (.put 0 (.cst (.int 0)) (.op2 (.bin .FloorDiv) (.op2 .ix (.pk 0) (.cst (.int 0))) (.pk 1)))
    (.seq (.mvr 2)
    .nil))) .nil)
    (.seq (.asg 2 (.cst (.int 0)))
    (.seq (.forr (.tnm 3) (.rng (.cons (.op2 (.bin .Add) (.cst (.int 1)) (.op2 (.bin .FloorDiv) (.me .bitLength (.pk 1) .nil) (.cst (.int 30)))) .nil)) (.seq (.put 0 (.cst (.int 2)) (.op2 (.bin .Add) (.op2 .ix (.pk 0) (.cst (.int 2))) (.cst (.int 1))))
    (.seq (.asg 2 (.op2 (.bin .Add) (.op2 (.bin .Mult) (.pk 2) (.cst (.int 2147483587))) (.call 19 (.cons (.op2 .ix (.pk 0) (.cst (.int 1))) (.cons (.op2 .ix (.pk 0) (.cst (.int 2))) .nil)))))
    .nil)))
    (.seq (.ret (.op2 (.bin .Mod) (.bi .int (.cons (.pk 2) .nil)) (.pk 1)))
    .nil))))
/-- _law_cell -/
def m_law_cell : MS := (.seq (.ite (.op2 (.cmp .Lt) (.pk 1) (.bi .len (.cons (.pk 0) .nil))) (.seq (.ret (.op2 .ix (.pk 0) (.pk 1)))
    .nil) .nil)
    (.seq (.ret (.op2 (.bin .Mod) (.bi .sum (.cons (.sl (.pk 0) .nil (.cst (.int 1))) .nil)) (.cst (.int 1000003))))
    .nil))
/-- _law_generator -/
def m_law_generator : MS := (.seq (.asg 2 (.call 21 (.cons (.nm 0) (.cons (.nm 1) .nil))))
    (.seq (.ret (.lst (.cons (.op2 (.bin .Mod) (.bi .int (.cons (.bi .max2 (.cons (.op2 (.bin .Sub) (.pk 2) (.op2 (.bin .Pow) (.cst (.int 10)) (.cst (.int 18)))) (.cons (.cst (.int 0)) .nil))) .nil)) (.op2 (.bin .Pow) (.op2 (.bin .Pow) (.cst (.int 10)) (.cst (.int 60))) (.cst (.int 10)))) (.cons (.op2 (.bin .Mod) (.bi .int (.cons (.pk 2) .nil)) (.cst (.int 2147483647))) (.cons (.op2 (.bin .Mult) (.cst (.int 1000)) (.pk 1)) .nil)))))
    .nil))
/-- _law_pick -/
def m_law_pick : MS := (.seq (.ret (.op2 .ix (.pk 1) (.call 20 (.cons (.pk 0) (.cons (.bi .len (.cons (.pk 1) .nil)) .nil)))))
    .nil)
/-- _law_same -/
def m_law_same : MS := (.seq (.ite (.or (.op2 (.cmp .Is) (.pk 1) (.cst .non)) (.or (.op2 (.cmp .Is) (.pk 1) (.cst (.bl true))) (.op2 (.cmp .Is) (.pk 1) (.cst (.bl false))))) (.seq (.ret (.ite (.op2 (.cmp .Is) (.pk 1) (.cst .non)) (.op2 (.cmp .Is) (.pk 0) (.cst .non)) (.ite (.op2 (.cmp .Is) (.pk 1) (.cst (.bl true))) (.op2 (.cmp .Is) (.pk 0) (.cst (.bl true))) (.op2 (.cmp .Is) (.pk 0) (.cst (.bl false))))))
    .nil) .nil)
    (.seq (.ite (.isi (.pk 1) [.list, .tuple]) (.seq (.ite (.or (.and (.not (.isi (.pk 0) [.list])) (.isi (.pk 1) [.list])) (.and (.not (.isi (.pk 0) [.tuple])) (.isi (.pk 1) [.tuple]))) (.seq (.ret (.cst (.bl false)))
    .nil) .nil)
    (.seq (.ret (.and (.op2 (.cmp .Eq) (.bi .len (.cons (.pk 0) .nil)) (.bi .len (.cons (.pk 1) .nil))) (.op2 (.cmp .Eq) (.lc [2] (.rng (.cons (.bi .len (.cons (.pk 1) .nil)) .nil)) (.tnm 2) (.not (.call 24 (.cons (.op2 .ix (.pk 0) (.pk 2)) (.cons (.op2 .ix (.pk 1) (.pk 2)) .nil)))) (.nm 2)) (.lst .nil))))
    .nil)) .nil)
    (.seq (.ite (.isi (.pk 1) [.dict]) (.seq (.ret (.and (.isi (.pk 0) [.dict]) (.op2 (.cmp .Eq) (.bi .repr (.cons (.pk 0) .nil)) (.bi .repr (.cons (.pk 1) .nil)))))
    .nil) .nil)
    (.seq (.ite (.isi (.pk 1) [.int]) (.seq (.ret (.and (.isi (.pk 0) [.int]) (.and (.not (.isi (.pk 0) [.bool])) (.op2 (.cmp .Eq) (.pk 0) (.pk 1)))))
    .nil) .nil)
    (.seq (.ret (.and (.isi (.pk 0) [.str]) (.op2 (.cmp .Eq) (.pk 0) (.pk 1))))
    .nil)))))
/-- _law_inner -/
def m_law_inner : MS := (.seq (.ret (.ite (.op2 (.cmp .In) (.op2 .ix (.pk 0) (.cst (.int 0))) (.tup (.cons (.cst (.str "both")) (.cons (.cst (.str "either")) .nil)))) (.bi .list (.cons (.sl (.pk 0) (.cst (.int 1)) .nil) .nil)) (.lst .nil)))
    .nil)
/-- _law_turned -/
def m_law_turned : MS := (.seq (.asg 1 (.op2 .ix (.bi .dict (.cons (.lst (.cons (.tup (.cons (.cst (.str "is")) (.cons (.cst (.str "not")) .nil))) (.cons (.tup (.cons (.cst (.str "not")) (.cons (.cst (.str "is")) .nil))) (.cons (.tup (.cons (.cst (.str "both")) (.cons (.cst (.str "either")) .nil))) (.cons (.tup (.cons (.cst (.str "either")) (.cons (.cst (.str "both")) .nil))) .nil))))) .nil)) (.op2 .ix (.pk 0) (.cst (.int 0)))))
    (.seq (.asg 2 (.lc [3] (.seq (.call 25 (.cons (.nm 0) .nil))) (.tnm 3) (.cst (.bl true)) (.call 26 (.cons (.nm 3) .nil))))
    (.seq (.ret (.ite (.op2 (.cmp .NotEq) (.pk 2) (.lst .nil)) (.op2 (.bin .Add) (.tup (.cons (.nm 1) .nil)) (.bi .tuple (.cons (.pk 2) .nil))) (.tup (.cons (.nm 1) (.cons (.op2 .ix (.pk 0) (.cst (.int 1))) .nil)))))
    .nil)))
/-- _law_formula -/
def m_law_formula : MS := (.seq (.ite (.or (.op2 (.cmp .Eq) (.pk 1) (.cst (.int 0))) (.op2 (.cmp .Eq) (.call 20 (.cons (.pk 0) (.cons (.cst (.int 4)) .nil))) (.cst (.int 0)))) (.seq (.ret (.tup (.cons (.call 23 (.cons (.pk 0) (.cons (.lst (.cons (.cst (.str "is")) (.cons (.cst (.str "not")) .nil))) .nil))) (.cons (.call 23 (.cons (.pk 0) (.cons (.lst (.cons (.cst (.str "p")) (.cons (.cst (.str "q")) (.cons (.cst (.str "r2")) .nil)))) .nil))) .nil))))
    .nil) .nil)
    (.seq (.asg 2 (.call 23 (.cons (.pk 0) (.cons (.lst (.cons (.cst (.str "both")) (.cons (.cst (.str "either")) .nil))) .nil))))
    (.seq (.ret (.tup (.cons (.nm 2) (.cons (.call 27 (.cons (.pk 0) (.cons (.op2 (.bin .Sub) (.pk 1) (.cst (.int 1))) .nil))) (.cons (.call 27 (.cons (.pk 0) (.cons (.op2 (.bin .Sub) (.pk 1) (.cst (.int 1))) .nil))) .nil)))))
    .nil)))
/-- _law_close -/
def m_law_close : MS := (.seq (.ite (.op2 (.cmp .In) (.op2 .ix (.pk 0) (.cst (.int 0))) (.tup (.cons (.cst (.str "is")) (.cons (.cst (.str "not")) .nil)))) (.seq (.ret (.ite (.op2 (.cmp .Eq) (.op2 .ix (.pk 0) (.cst (.int 0))) (.cst (.str "is"))) (.op2 .ix (.pk 0) (.cst (.int 1))) (.op2 (.bin .Add) (.cst (.str "not ")) (.op2 .ix (.pk 0) (.cst (.int 1))))))
    .nil) .nil)
    (.seq (.ret (.op2 (.bin .Add) (.op2 (.bin .Add) (.cst (.str "(")) (.call 29 (.cons (.nm 0) .nil))) (.cst (.str ")"))))
    .nil))
/-- _law_said -/
def m_law_said : MS := (.seq (.ite (.op2 (.cmp .In) (.op2 .ix (.pk 0) (.cst (.int 0))) (.tup (.cons (.cst (.str "is")) (.cons (.cst (.str "not")) .nil)))) (.seq (.ret (.call 28 (.cons (.nm 0) .nil)))
    .nil) .nil)
    (.seq (.tgt (.ttup (.cons (.tnm 4) (.cons (.tnm 5) (.cons (.tnm 6) .nil)))) (.nm 0))
    (.seq (.asg 1 (.or (.op2 (.cmp .Eq) (.op2 .ix (.pk 5) (.cst (.int 0))) (.pk 4)) (.and (.op2 (.cmp .Eq) (.pk 4) (.cst (.str "either"))) (.op2 (.cmp .Eq) (.op2 .ix (.pk 5) (.cst (.int 0))) (.cst (.str "both"))))))
    (.seq (.asg 2 (.ite (.nm 1) (.call 29 (.cons (.nm 5) .nil)) (.call 28 (.cons (.nm 5) .nil))))
    (.seq (.asg 3 (.ite (.and (.op2 (.cmp .Eq) (.pk 4) (.cst (.str "either"))) (.op2 (.cmp .Eq) (.op2 .ix (.pk 6) (.cst (.int 0))) (.cst (.str "both")))) (.call 29 (.cons (.nm 6) .nil)) (.call 28 (.cons (.nm 6) .nil))))
    (.seq (.ret (.op2 (.bin .Add) (.op2 (.bin .Add) (.op2 (.bin .Add) (.op2 (.bin .Add) (.pk 2) (.cst (.str " "))) (.pk 4)) (.cst (.str " "))) (.pk 3)))
    .nil))))))
/-- _law_gap -/
def m_law_gap : MS := (.seq (.ret (.call 23 (.cons (.pk 0) (.cons (.lst (.cons (.cst (.str " ")) (.cons (.cst (.str " ")) (.cons (.cst (.str "  ")) (.cons (.cst (.str "\n")) (.cons (.cst (.str " \n ")) .nil)))))) .nil))))
    .nil)
/-- _law_loose_close -/
def m_law_loose_close : MS := (.seq (.asg 3 (.ite (.op2 (.cmp .Gt) (.pk 2) (.cst (.int 0))) (.call 20 (.cons (.pk 0) (.cons (.cst (.int 6)) .nil))) (.cst (.int 0))))
    (.seq (.ite (.op2 (.cmp .Eq) (.pk 3) (.cst (.int 1))) (.seq (.ret (.op2 (.bin .Add) (.op2 (.bin .Add) (.cst (.str "not")) (.call 30 (.cons (.pk 0) .nil))) (.call 31 (.cons (.pk 0) (.cons (.call 26 (.cons (.nm 1) .nil)) (.cons (.op2 (.bin .Sub) (.pk 2) (.cst (.int 1))) .nil))))))
    .nil) .nil)
    (.seq (.ite (.or (.op2 (.cmp .Eq) (.pk 3) (.cst (.int 2))) (.op2 (.cmp .In) (.op2 .ix (.pk 1) (.cst (.int 0))) (.tup (.cons (.cst (.str "both")) (.cons (.cst (.str "either")) .nil))))) (.seq (.ret (.op2 (.bin .Add) (.op2 (.bin .Add) (.op2 (.bin .Add) (.op2 (.bin .Add) (.cst (.str "(")) (.call 23 (.cons (.pk 0) (.cons (.lst (.cons (.cst (.str "")) (.cons (.cst (.str " ")) .nil))) .nil)))) (.call 32 (.cons (.pk 0) (.cons (.nm 1) (.cons (.ite (.op2 (.cmp .Gt) (.pk 2) (.cst (.int 0))) (.op2 (.bin .Sub) (.pk 2) (.cst (.int 1))) (.cst (.int 0))) .nil))))) (.call 23 (.cons (.pk 0) (.cons (.lst (.cons (.cst (.str "")) (.cons (.cst (.str "\n")) .nil))) .nil)))) (.cst (.str ")"))))
    .nil) .nil)
    (.seq (.ret (.ite (.op2 (.cmp .Eq) (.op2 .ix (.pk 1) (.cst (.int 0))) (.cst (.str "is"))) (.op2 .ix (.pk 1) (.cst (.int 1))) (.op2 (.bin .Add) (.op2 (.bin .Add) (.cst (.str "not")) (.call 30 (.cons (.pk 0) .nil))) (.op2 .ix (.pk 1) (.cst (.int 1))))))
    .nil))))
/-- _law_loose -/
def m_law_loose : MS := (.seq (.ite (.op2 (.cmp .In) (.op2 .ix (.pk 1) (.cst (.int 0))) (.tup (.cons (.cst (.str "is")) (.cons (.cst (.str "not")) .nil)))) (.seq (.ret (.ite (.op2 (.cmp .Gt) (.pk 2) (.cst (.int 0))) (.call 31 (.cons (.pk 0) (.cons (.nm 1) (.cons (.nm 2) .nil)))) (.call 28 (.cons (.nm 1) .nil))))
    .nil) .nil)
    (.seq (.tgt (.ttup (.cons (.tnm 6) (.cons (.tnm 7) (.cons (.tnm 8) .nil)))) (.nm 1))
    (.seq (.asg 3 (.or (.op2 (.cmp .Eq) (.op2 .ix (.pk 7) (.cst (.int 0))) (.pk 6)) (.and (.op2 (.cmp .Eq) (.pk 6) (.cst (.str "either"))) (.op2 (.cmp .Eq) (.op2 .ix (.pk 7) (.cst (.int 0))) (.cst (.str "both"))))))
    (.seq (.asg 4 (.ite (.nm 3) (.call 32 (.cons (.pk 0) (.cons (.nm 7) (.cons (.nm 2) .nil)))) (.call 31 (.cons (.pk 0) (.cons (.nm 7) (.cons (.nm 2) .nil))))))
    (.seq (.asg 5 (.ite (.and (.op2 (.cmp .Eq) (.pk 6) (.cst (.str "either"))) (.op2 (.cmp .Eq) (.op2 .ix (.pk 8) (.cst (.int 0))) (.cst (.str "both")))) (.call 32 (.cons (.pk 0) (.cons (.nm 8) (.cons (.nm 2) .nil)))) (.call 31 (.cons (.pk 0) (.cons (.nm 8) (.cons (.nm 2) .nil))))))
    (.seq (.ret (.op2 (.bin .Add) (.op2 (.bin .Add) (.op2 (.bin .Add) (.op2 (.bin .Add) (.pk 4) (.call 30 (.cons (.pk 0) .nil))) (.pk 6)) (.call 30 (.cons (.pk 0) .nil))) (.pk 5)))
    .nil))))))
/-- law -/
def m_law : MS := (.seq (.forr (.tnm 1) (.rng (.cons (.cst (.int 3)) .nil)) (.seq (.asg 5 (.call 22 (.cons (.nm 0) (.cons (.nm 1) .nil))))
    (.seq (.forr (.tnm 6) (.rng (.cons (.cst (.int 5)) .nil)) (.seq (.asg 11 (.call 27 (.cons (.pk 5) (.cons (.cst (.int 4)) .nil))))
    (.seq (.par [14, 15, 16] (.cons (.bi .repr (.cons (.pk 11) .nil)) (.cons (.call 29 (.cons (.nm 11) .nil)) (.cons (.call 32 (.cons (.pk 5) (.cons (.nm 11) (.cons (.cst (.int 2)) .nil)))) .nil))))
    (.seq (.ite (.not (.call 24 (.cons (.lst (.cons (.call 10 (.cons (.nm 11) .nil)) (.cons (.callk 10 [0] .nil (.cons (.nm 11) .nil)) (.cons (.call 17 (.cons (.nm 15) .nil)) (.cons (.callk 17 [0] .nil (.cons (.nm 15) .nil)) .nil))))) (.cons (.lst (.cons (.nm 15) (.cons (.nm 15) (.cons (.nm 11) (.cons (.nm 11) .nil))))) .nil)))) (.seq (.ret (.cst (.bl false)))
    .nil) .nil)
    (.seq (.ite (.not (.call 24 (.cons (.lst (.cons (.call 17 (.cons (.nm 16) .nil)) (.cons (.call 18 (.cons (.nm 16) .nil)) (.cons (.callk 18 [0] .nil (.cons (.nm 15) .nil)) (.cons (.call 10 (.cons (.call 17 (.cons (.nm 16) .nil)) .nil)) .nil))))) (.cons (.lst (.cons (.nm 11) (.cons (.cst .non) (.cons (.cst .non) (.cons (.nm 15) .nil))))) .nil)))) (.seq (.ret (.cst (.bl false)))
    .nil) .nil)
    (.seq (.asg 12 (.op2 (.bin .Add) (.op2 (.bin .Add) (.cst (.str "not (")) (.pk 15)) (.cst (.str ")"))))
    (.seq (.ite (.or (.not (.call 24 (.cons (.lst (.cons (.call 17 (.cons (.nm 12) .nil)) (.cons (.call 17 (.cons (.op2 (.bin .Add) (.cst (.str "not ")) (.pk 12)) .nil)) .nil))) (.cons (.lst (.cons (.call 26 (.cons (.nm 11) .nil)) (.cons (.nm 11) .nil))) .nil)))) (.or (.op2 (.cmp .NotEq) (.call 7 (.cons (.call 17 (.cons (.nm 12) .nil)) .nil)) (.pk 11)) (.op2 (.cmp .NotEq) (.bi .repr (.cons (.pk 11) .nil)) (.pk 14)))) (.seq (.ret (.cst (.bl false)))
    .nil) .nil)
    .nil)))))))
    .nil)))
    (.seq (.tgt (.ttup (.cons (.tnm 7) (.cons (.tnm 8) (.cons (.tnm 9) (.cons (.tnm 10) .nil))))) (.tup (.cons (.tup (.cons (.cst (.str "is")) (.cons (.cst (.str "p")) .nil))) (.cons (.tup (.cons (.cst (.str "is")) (.cons (.cst (.str "q")) .nil))) (.cons (.tup (.cons (.cst (.str "not")) (.cons (.cst (.str "p")) .nil))) (.cons (.tup (.cons (.cst (.str "not")) (.cons (.cst (.str "q")) .nil))) .nil))))))
    (.seq (.asg 2 (.lst (.cons (.cst (.str "p either q both p")) (.cons (.cst (.str "p both q either p")) (.cons (.cst (.str "p either q either p")) (.cons (.cst (.str "not not p")) (.cons (.cst (.str "not p both q")) (.cons (.cst (.str "(((p)))")) (.cons (.cst (.str "not (p both (q either not p))")) .nil)))))))))
    (.seq (.asg 3 (.lst (.cons (.tup (.cons (.cst (.str "either")) (.cons (.nm 7) (.cons (.tup (.cons (.cst (.str "both")) (.cons (.nm 8) (.cons (.nm 7) .nil)))) .nil)))) (.cons (.tup (.cons (.cst (.str "either")) (.cons (.tup (.cons (.cst (.str "both")) (.cons (.nm 7) (.cons (.nm 8) .nil)))) (.cons (.nm 7) .nil)))) (.cons (.tup (.cons (.cst (.str "either")) (.cons (.tup (.cons (.cst (.str "either")) (.cons (.nm 7) (.cons (.nm 8) .nil)))) (.cons (.nm 7) .nil)))) (.cons (.nm 7) (.cons (.tup (.cons (.cst (.str "both")) (.cons (.nm 9) (.cons (.nm 8) .nil)))) (.cons (.nm 7) (.cons (.tup (.cons (.cst (.str "either")) (.cons (.nm 9) (.cons (.tup (.cons (.cst (.str "both")) (.cons (.nm 10) (.cons (.nm 7) .nil)))) .nil)))) .nil)))))))))
    (.seq (.asg 4 (.lc [13] (.seq (.tup (.cons (.tup (.cons (.cst (.str "both")) (.cons (.tup (.cons (.cst (.str "either")) (.cons (.nm 7) (.cons (.nm 8) .nil)))) (.cons (.nm 7) .nil)))) (.cons (.tup (.cons (.cst (.str "either")) (.cons (.nm 7) (.cons (.tup (.cons (.cst (.str "either")) (.cons (.nm 8) (.cons (.nm 7) .nil)))) .nil)))) (.cons (.tup (.cons (.cst (.str "both")) (.cons (.nm 7) (.cons (.tup (.cons (.cst (.str "both")) (.cons (.nm 7) (.cons (.nm 7) .nil)))) .nil)))) (.cons (.tup (.cons (.cst (.str "either")) (.cons (.tup (.cons (.cst (.str "both")) (.cons (.nm 7) (.cons (.nm 8) .nil)))) (.cons (.tup (.cons (.cst (.str "both")) (.cons (.nm 9) (.cons (.nm 8) .nil)))) .nil)))) .nil)))))) (.tnm 13) (.cst (.bl true)) (.call 10 (.cons (.nm 13) .nil))))
    (.seq (.ret (.call 24 (.cons (.lst (.cons (.lc [15] (.seq (.nm 2)) (.tnm 15) (.cst (.bl true)) (.call 17 (.cons (.nm 15) .nil))) (.cons (.nm 4) .nil))) (.cons (.lst (.cons (.nm 3) (.cons (.lst (.cons (.cst (.str "(p either q) both p")) (.cons (.cst (.str "p either (q either p)")) (.cons (.cst (.str "p both (p both p)")) (.cons (.cst (.str "p both q either not p both q")) .nil))))) .nil))) .nil))))
    .nil))))))
def d_is_word : FD := ⟨"is_word", "is_word", ["value"], ["value", "sign"], defArgs (top 9), defBody (top 9), defScope (top 9), m_is_word⟩
def d_check_text : FD := ⟨"check_text", "check_text", ["text"], ["text"], defArgs (top 10), defBody (top 10), defScope (top 10), m_check_text⟩
def d_inner_of : FD := ⟨"inner_of", "inner_of", ["formula"], ["formula"], defArgs (top 15), defBody (top 15), defScope (top 15), m_inner_of⟩
def d_is_formed : FD := ⟨"is_formed", "is_formed", ["value"], ["value"], defArgs (top 16), defBody (top 16), defScope (top 16), m_is_formed⟩
def d_is_formula_in : FD := ⟨"is_formula_in", "is_formula_in", ["value"], ["value", "waiting", "many", "here", "deep", "one"], defArgs (top 17), defBody (top 17), defScope (top 17), m_is_formula_in⟩
def d_check_formula : FD := ⟨"check_formula", "check_formula", ["formula"], ["formula"], defArgs (top 18), defBody (top 18), defScope (top 18), m_check_formula⟩
def d_turned_in : FD := ⟨"turned_in", "turned_in", ["formula"], ["formula", "one"], defArgs (top 19), defBody (top 19), defScope (top 19), m_turned_in⟩
def d_turned : FD := ⟨"turned", "turned", ["formula"], ["formula"], defArgs (top 20), defBody (top 20), defScope (top 20), m_turned⟩
def d_closely : FD := ⟨"closely", "closely", ["formula"], ["formula"], defArgs (top 23), defBody (top 23), defScope (top 23), m_closely⟩
def d_text_in : FD := ⟨"text_in", "text_in", ["formula"], ["formula", "word", "left", "right"], defArgs (top 24), defBody (top 24), defScope (top 24), m_text_in⟩
def d_text_of_formula : FD := ⟨"text_of_formula", "text_of_formula", ["formula"], ["formula"], defArgs (top 25), defBody (top 25), defScope (top 25), m_text_of_formula⟩
def d_words_in : FD := ⟨"words_in", "words_in", ["text"], ["text", "sign", "told", "is_run", "is_own"], defArgs (top 26), defBody (top 26), defScope (top 26), m_words_in⟩
def d_first_wrong_in : FD := ⟨"first_wrong_in", "first_wrong_in", ["words"], ["words", "is_wanted", "many", "at", "word"], defArgs (top 27), defBody (top 27), defScope (top 27), m_first_wrong_in⟩
def d_join_both : FD := ⟨"join_both", "join_both", ["values", "signs", "kinds"], ["values", "signs", "kinds", "last"], defArgs (top 28), defBody (top 28), defScope (top 28), m_join_both⟩
def d_turn_last : FD := ⟨"turn_last", "turn_last", ["values", "signs"], ["values", "signs"], defArgs (top 29), defBody (top 29), defScope (top 29), m_turn_last⟩
def d_built : FD := ⟨"built", "built", ["words"], ["words", "word", "values", "signs"], defArgs (top 30), defBody (top 30), defScope (top 30), m_built⟩
def d_read_in : FD := ⟨"read_in", "read_in", ["text"], ["text", "words", "wrong", "told", "word"], defArgs (top 31), defBody (top 31), defScope (top 31), m_read_in⟩
def d_formula_of_text : FD := ⟨"formula_of_text", "formula_of_text", ["text"], ["text", "told", "wrong"], defArgs (top 32), defBody (top 32), defScope (top 32), m_formula_of_text⟩
def d_wrong_word : FD := ⟨"wrong_word", "wrong_word", ["text"], ["text"], defArgs (top 33), defBody (top 33), defScope (top 33), m_wrong_word⟩
def d_law_hash : FD := ⟨"_law_hash", "_law_hash", ["seed", "index"], ["seed", "index", "mixed"], defArgs (top 35), defBody (top 35), defScope (top 35), m_law_hash⟩
def d_law_random : FD := ⟨"_law_random", "_law_random", ["generator", "bound"], ["generator", "bound", "drawn", "turn"], defArgs (top 36), defBody (top 36), defScope (top 36), m_law_random⟩
def d_law_cell : FD := ⟨"_law_cell", "_law_cell", ["script", "index"], ["script", "index"], defArgs (top 37), defBody (top 37), defScope (top 37), m_law_cell⟩
def d_law_generator : FD := ⟨"_law_generator", "_law_generator", ["script", "index"], ["script", "index", "seed"], defArgs (top 38), defBody (top 38), defScope (top 38), m_law_generator⟩
def d_law_pick : FD := ⟨"_law_pick", "_law_pick", ["generator", "things"], ["generator", "things"], defArgs (top 39), defBody (top 39), defScope (top 39), m_law_pick⟩
def d_law_same : FD := ⟨"_law_same", "_law_same", ["told", "due"], ["told", "due", "at"], defArgs (top 40), defBody (top 40), defScope (top 40), m_law_same⟩
def d_law_inner : FD := ⟨"_law_inner", "_law_inner", ["formula"], ["formula"], defArgs (top 41), defBody (top 41), defScope (top 41), m_law_inner⟩
def d_law_turned : FD := ⟨"_law_turned", "_law_turned", ["formula"], ["formula", "word", "inner", "one"], defArgs (top 42), defBody (top 42), defScope (top 42), m_law_turned⟩
def d_law_formula : FD := ⟨"_law_formula", "_law_formula", ["generator", "deep"], ["generator", "deep", "word"], defArgs (top 43), defBody (top 43), defScope (top 43), m_law_formula⟩
def d_law_close : FD := ⟨"_law_close", "_law_close", ["formula"], ["formula"], defArgs (top 44), defBody (top 44), defScope (top 44), m_law_close⟩
def d_law_said : FD := ⟨"_law_said", "_law_said", ["formula"], ["formula", "is_free", "one", "other", "word", "left", "right"], defArgs (top 45), defBody (top 45), defScope (top 45), m_law_said⟩
def d_law_gap : FD := ⟨"_law_gap", "_law_gap", ["generator"], ["generator"], defArgs (top 46), defBody (top 46), defScope (top 46), m_law_gap⟩
def d_law_loose_close : FD := ⟨"_law_loose_close", "_law_loose_close", ["generator", "formula", "deep"], ["generator", "formula", "deep", "way"], defArgs (top 47), defBody (top 47), defScope (top 47), m_law_loose_close⟩
def d_law_loose : FD := ⟨"_law_loose", "_law_loose", ["generator", "formula", "deep"], ["generator", "formula", "deep", "is_free", "one", "other", "word", "left", "right"], defArgs (top 48), defBody (top 48), defScope (top 48), m_law_loose⟩
def d_law : FD := ⟨"law", "law", ["script"], ["script", "index", "texts", "due", "told", "generator", "turn", "p", "q", "no_p", "no_q", "formula", "other", "one", "kept", "text", "loose"], defArgs (top 49), defBody (top 49), defScope (top 49), m_law⟩
def T : List FD := [d_is_word, d_check_text, d_inner_of, d_is_formed, d_is_formula_in, d_check_formula, d_turned_in, d_turned, d_closely, d_text_in, d_text_of_formula, d_words_in, d_first_wrong_in, d_join_both, d_turn_last, d_built, d_read_in, d_formula_of_text, d_wrong_word, d_law_hash, d_law_random, d_law_cell, d_law_generator, d_law_pick, d_law_same, d_law_inner, d_law_turned, d_law_formula, d_law_close, d_law_said, d_law_gap, d_law_loose_close, d_law_loose, d_law]
def G : Gl0 := ⟨["bool", "dict", "enumerate", "int", "isinstance", "len", "list", "max", "range", "repr", "str", "sum", "tuple"],
  [("CLOSED", (.tup [(.str "both"), (.str "either"), (.str "not"), (.str "close"), (.str "cut"), (.str "order"), (.str "end"), (.str "pair")])), ("LETTERS", (.str "abcdefghijklmnopqrstuvwxyz")), ("FIGURES", (.str "0123456789")), ("MOST_SIGNS", (.int 8)), ("MOST_WITHIN", (.int 20)), ("MOST_FORMULAS", (.int 60)), ("MOST_LETTERS", (.int 30))],
  [("SIDES", [(.str "is"), (.str "not"), (.str "both"), (.str "either")], [(.str "not"), (.str "is"), (.str "either"), (.str "both")])]⟩
def i_is_word : Nat := 0
def i_check_text : Nat := 1
def i_inner_of : Nat := 2
def i_is_formed : Nat := 3
def i_is_formula_in : Nat := 4
def i_check_formula : Nat := 5
def i_turned_in : Nat := 6
def i_turned : Nat := 7
def i_closely : Nat := 8
def i_text_in : Nat := 9
def i_text_of_formula : Nat := 10
def i_words_in : Nat := 11
def i_first_wrong_in : Nat := 12
def i_join_both : Nat := 13
def i_turn_last : Nat := 14
def i_built : Nat := 15
def i_read_in : Nat := 16
def i_formula_of_text : Nat := 17
def i_wrong_word : Nat := 18
def i_law_hash : Nat := 19
def i_law_random : Nat := 20
def i_law_cell : Nat := 21
def i_law_generator : Nat := 22
def i_law_pick : Nat := 23
def i_law_same : Nat := 24
def i_law_inner : Nat := 25
def i_law_turned : Nat := 26
def i_law_formula : Nat := 27
def i_law_close : Nat := 28
def i_law_said : Nat := 29
def i_law_gap : Nat := 30
def i_law_loose_close : Nat := 31
def i_law_loose : Nat := 32
def i_law : Nat := 33
def lawI : Nat := 49
end K05
set_option Elab.async false
set_option linter.all false
set_option maxRecDepth 100000
set_option maxHeartbeats 0
/-! # The head -/
namespace K05
open PySem PySem.Spec PyProof.Rows L2 NV
def fa : List He.Fa := (T.map fun D => He.Fa.glo D.name) ++ ((G.free.map He.Fa.free) ++ [.glo "CLOSED", .str "LETTERS" "abcdefghijklmnopqrstuvwxyz", .str "FIGURES" "0123456789", .int "MOST_SIGNS" 8, .int "MOST_WITHIN" 20, .int "MOST_FORMULAS" 60, .int "MOST_LETTERS" 30, .glo "SIDES"])
def fn : List He.DefD := T.map fun D => ⟨(D.name, none), D.name, D.qual, D.params, D.body, D.scope, [], []⟩
def ts : List He.Tab := [(fun K => He.ga K "SIDES", ["is", "not", "both", "either"])]
def exB (K : PySem.W.Frag) : Bool := He.tupB K "CLOSED" [.str "both", .str "either", .str "not", .str "close", .str "cut", .str "order", .str "end", .str "pair"] && He.valsB K (He.ga K "SIDES") [("is", .str "not"), ("not", .str "is"), ("both", .str "either"), ("either", .str "both")]
def loose : List Str := (["NetError", "InvalidFormula", "InvalidText", "LETTERS", "FIGURES", "MOST_SIGNS", "CLOSED", "is_word", "check_text", "MOST_FORMULAS", "MOST_WITHIN", "SIDES"] : List Str) ++ (["inner_of", "is_formed", "is_formula_in", "check_formula", "turned_in", "turned", "MOST_LETTERS", "closely", "text_in", "text_of_formula", "words_in", "first_wrong_in"] : List Str) ++ (["join_both", "turn_last", "built", "read_in", "formula_of_text", "wrong_word", "_law_hash", "_law_random", "_law_cell", "_law_generator", "_law_pick", "_law_same"] : List Str) ++ (["_law_inner", "_law_turned", "_law_formula", "_law_close", "_law_said", "_law_gap", "_law_loose_close", "_law_loose"] : List Str)
abbrev R : PySem.W.OpenRow := PySem.W.OpenLaw.row PySem.Challenge.rw_netsproved_k05_whole_texts_of_formulas
abbrev hk : PySem.W.Hook := He.hookX 4 fa fn ts [] exB
def ob (s : PySem.W.SharedT) : He.AlX := He.obsX 4 fa fn ts [] exB (HandSHeadRun.getT s)
theorem ob_eq (s : PySem.W.SharedT) : ob s = hk.obs s.abs := He.obsX_eq (HandSHeadRun.getT_eq s)
theorem run_f (w : World) : HandSHeadRun.RunEq R (PySem.W.view R.prog [49]) hk ob 3000 loose (w.withFollow "special-get-raises" false) := by
  intro os
  kernel_rfl
theorem run_t (w : World) : HandSHeadRun.RunEq R (PySem.W.view R.prog [49]) hk ob 3000 loose (w.withFollow "special-get-raises" true) := by
  intro os
  kernel_rfl
theorem run (w : World) : HandSHeadRun.RunEq R (PySem.W.view R.prog [49]) hk ob 3000 loose w := PySem.W.byRow2 "special-get-raises" (P := fun w => HandSHeadRun.RunEq R (PySem.W.view R.prog [49]) hk ob 3000 loose w) run_f run_t w
end K05
set_option Elab.async false
set_option linter.all false
set_option maxRecDepth 100000
set_option maxHeartbeats 1000000
set_option exponentiation.threshold 10000
namespace K05
open PySem PySem.Spec PyProof.Rows L2 NV
local macro_rules | `(tactic| walk_at "nv") => `(tactic| first
  | exact E_cst | exact AA_nil | exact RR_nil | exact O_nil | exact S_nil | exact SF_rt | exact E_gc | exact E_edict | exact FL_nil
  | exact A_pk rfl | apply A_v (hm := rfl) | apply AA_cons | apply RR_cons | apply O_some (hm := rfl)
  | apply S_seq | apply SF_nx | apply S_asg | apply S_ite | apply S_ret | exact S_mvv rfl | exact S_mvo rfl | apply S_put | apply S_par | apply S_expr | apply S_tgt | apply S_forr
  | apply E_op2 | apply E_bi | apply E_me | apply E_isi | apply E_not | apply E_ite | apply E_and | apply E_or | apply E_tup | apply E_lst | apply E_sl | apply E_call | apply E_nm | apply E_neg | apply E_mut | apply E_heap | apply I_rng
  | apply SB_t (hb := by first | rfl | assumption) | apply SB_f (hb := by first | rfl | assumption) | apply EB_t (hb := by first | rfl | assumption) | apply EB_f (hb := by first | rfl | assumption)
  | exact p_add | exact p_sub | assumption | exact ⟨rfl⟩ | exact List.Pairwise.nil | exact List.pairwise_singleton .. | rfl | decide)
theorem f_hash (n : Nat) (seed index : Int) (S : Sto) (h1 : 0 ≤ seed ∧ seed < 2147483647) (h2 : 0 ≤ index ∧ index < 2 ^ 30) :
    ∃ r, CC (callT T (n + 1)) i_law_hash [.val (.int seed), .val (.int index)] S (.val (.int r)) [some (.val (.int seed)), some (.val (.int index))] S ∧ 0 ≤ r ∧ r < 2147483647 := by
  have m1 := p_mul (i := seed) (j := 1140671) 31 31 (by omega) (by omega) (by omega)
  have m2 := p_mul (i := 27644437) (j := index) 31 31 (by omega) (by omega) (by omega)
  have m3 := p_mul (i := 27644437 * index) (j := index) 100 31 (by omega) (by omega) (by omega)
  have m4 := p_mul (i := 131) (j := index) 31 31 (by omega) (by omega) (by omega)
  have m5 := p_mul (i := 62089) (j := index) 31 31 (by omega) (by omega) (by omega)
  have m9 := fun x : Int => p_mul (i := x % 2147483629) (j := x % 2147483629) 31 31 (by omega) (by omega) (by omega)
  have m10 := fun x : Int => p_mul (i := x % 2147483587) (j := 48271) 31 31 (by omega) (by omega) (by omega)
  apply Exists.intro
  apply And.intro
  · apply run_rt (hD := rfl) (hl := rfl)
    · show SS _ m_law_hash [some (.val (.int seed)), some (.val (.int index)), none] _ _ _ _
      repeat (first | walk_at "nv" | exact m9 _ | exact m10 _)
    · rfl
  · omega
theorem lt8000 {i : Nat} (h : i < 2 ^ 20) : i < 2 ^ 8000 := Nat.lt_of_lt_of_le h (Nat.pow_le_pow_right (by omega) (by omega))
def gen (a b c : Int) : List W := [.int a, .int b, .int c]
theorem f_random (n : Nat) (a b c bound : Int) (S : Sto) (ha : 0 ≤ a) (hb : 0 ≤ b ∧ b < 2147483647) (hc : 0 ≤ c ∧ c < 2 ^ 29) (hbd : 1 ≤ bound ∧ bound < 2 ^ 20) :
    ∃ r a' c', CC (callT T (n + 2)) i_law_random [.own (true, gen a b c), .val (.int bound)] S (.val (.int r)) [some (.own (true, gen a' b c')), some (.val (.int bound))] S ∧ (0 ≤ r ∧ r < bound) ∧ 0 ≤ a' ∧ c ≤ c' ∧ c' ≤ c + 1 := by
  by_cases h : 0 < a
  · have d1 : decide (0 < a) = true := decide_eq_true h
    have m1 := p_mod (i := a) (j := bound) (by omega)
    have m2 := p_div (i := a) (j := bound) (by omega) (lt8000 (by omega))
    refine ⟨a % bound, a / bound, c, ?_, ⟨Int.emod_nonneg _ (by omega), Int.emod_lt_of_pos _ (by omega)⟩, Int.ediv_nonneg ha (by omega), by omega, by omega⟩
    apply run_rt (hD := rfl) (hl := rfl)
    · show SS _ m_law_random [some (.own (true, gen a b c)), some (.val (.int bound)), none, none] _ _ _ _
      repeat (walk_at "nv")
    · rfl
  · have d1 : decide (0 < a) = false := decide_eq_false h
    obtain ⟨r, hr, hr2⟩ := f_hash n b (c + 1) S hb (by omega)
    have hbits : Builtin.Int.intBits bound ≤ 20 := by
      unfold Builtin.Int.intBits
      split
      · omega
      · have : bound.natAbs.log2 < 20 := (Nat.log2_lt (by omega)).mpr (by omega)
        omega
    have m1 : PO (.bin .FloorDiv) (.int (Builtin.Int.intBits bound)) (.int 30) (.val (.int 0)) := by
      have q := p_div (i := (Builtin.Int.intBits bound : Int)) (j := 30) (by omega) (lt8000 (by omega))
      have : ((Builtin.Int.intBits bound : Nat) : Int) / 30 = 0 := by omega
      rw [this] at q
      exact q
    have m2 := p_mod (i := 0 * 2147483587 + r) (j := bound) (by omega)
    have m3 := p_mul (i := 0) (j := 2147483587) 31 33 (by omega) (by omega) (by omega)
    refine ⟨(0 * 2147483587 + r) % bound, a, c + 1, ?_, ⟨Int.emod_nonneg _ (by omega), Int.emod_lt_of_pos _ (by omega)⟩, ha, by omega, by omega⟩
    apply run_rt (hD := rfl) (hl := rfl)
    · show SS _ m_law_random [some (.own (true, gen a b c)), some (.val (.int bound)), none, none] _ _ _ _
      repeat (walk_at "nv")
      apply FL_cons
      repeat (walk_at "nv")
    · rfl
end K05

namespace K05
open PySem PySem.Spec PyProof.Rows L2 NV
local macro_rules | `(tactic| walk_at "nv") => `(tactic| first
  | exact E_cst | exact AA_nil | exact RR_nil | exact O_nil | exact S_nil | exact SF_rt | exact E_gc | exact E_edict | exact FL_nil
  | exact A_pk rfl | apply A_v (hm := rfl) | apply AA_cons | apply RR_cons | apply O_some (hm := rfl)
  | apply S_seq | apply SF_nx | apply S_asg | apply S_ite | apply S_ret | exact S_mvv rfl | exact S_mvo rfl | apply S_put | apply S_par | apply S_expr | apply S_tgt | apply S_forr
  | apply E_op2 | apply E_bi | apply E_me | apply E_isi | apply E_not | apply E_ite | apply E_and | apply E_or | apply E_tup | apply E_lst | apply E_sl | apply E_call | apply E_nm | apply E_neg | apply E_mut | apply E_heap | apply I_rng
  | apply SB_t (hb := by first | rfl | assumption) | apply SB_f (hb := by first | rfl | assumption) | apply EB_t (hb := by first | rfl | assumption) | apply EB_f (hb := by first | rfl | assumption)
  | exact p_add | exact p_sub | assumption | exact ⟨rfl⟩ | exact List.Pairwise.nil | exact List.pairwise_singleton .. | rfl | decide)
/-- the generator's state is sound, at most k draws from its start -/
structure GenOk (g : List W) (k : Int) : Prop where
  h : ∃ a b c : Int, g = gen a b c ∧ 0 ≤ a ∧ (0 ≤ b ∧ b < 2147483647) ∧ 0 ≤ c ∧ c ≤ k
theorem GenOk.mono {g : List W} {k j : Int} (h : GenOk g k) (l : k ≤ j) : GenOk g j := by
  obtain ⟨a, b, c, e, h1, h2, h3, h4⟩ := h.h
  exact ⟨a, b, c, e, h1, h2, h3, by omega⟩
theorem g_random (n : Nat) {g : List W} {k : Int} (hg : GenOk g k) (hk : k < 2 ^ 29) (bound : Int) (S : Sto) (hbd : 1 ≤ bound ∧ bound < 2 ^ 20) :
    ∃ r g', CC (callT T (n + 2)) i_law_random [.own (true, g), .val (.int bound)] S (.val (.int r)) [some (.own (true, g')), some (.val (.int bound))] S ∧ (0 ≤ r ∧ r < bound) ∧ GenOk g' (k + 1) := by
  obtain ⟨a, b, c, rfl, h1, h2, h3, h4⟩ := hg.h
  obtain ⟨r, a', c', q1, q2, q3, q4, q5⟩ := f_random n a b c bound S h1 h2 ⟨h3, by omega⟩ hbd
  exact ⟨r, _, q1, q2, ⟨a', b, c', rfl, q3, h2, by omega, by omega⟩⟩
theorem p_ixl {ws : List W} {r : Int} {w : W} (h : atI ws r = some w) : PO .ix (.lst ws) (.int r) (.val w) := ⟨by simp only [pOp2, pIx, h]; rfl⟩
theorem p_ixt {ws : List W} {r : Int} {w : W} (h : atI ws r = some w) : PO .ix (.tup ws) (.int r) (.val w) := ⟨by simp only [pOp2, pIx, h]; rfl⟩
theorem p_ixf {ws : List W} {r : Int} {w : W} (h : atI ws r = some w) : PO .ix (.flst ws) (.int r) (.val w) := ⟨by simp only [pOp2, pIx, h]; rfl⟩
theorem g_pick (n : Nat) {g : List W} {k : Int} (hg : GenOk g k) (hk : k < 2 ^ 29) (ws : List W) (S : Sto) (hw : 1 ≤ ws.length ∧ ws.length < 2 ^ 20) :
    ∃ w g', CC (callT T (n + 3)) i_law_pick [.own (true, g), .val (.lst ws)] S (.val w) [some (.own (true, g')), some (.val (.lst ws))] S ∧ w ∈ ws ∧ GenOk g' (k + 1) := by
  obtain ⟨r, g', q1, q2, q3⟩ := g_random n hg hk (ws.length : Int) S (by omega)
  have hr : r.toNat < ws.length := by omega
  have ha : atI ws r = some ws[r.toNat] := atI_at (by omega) hr
  have m1 := p_ixl ha
  refine ⟨ws[r.toNat], g', ?_, List.getElem_mem _, q3⟩
  apply run_rt (hD := rfl) (hl := rfl)
  · show SS _ m_law_pick [some (.own (true, g)), some (.val (.lst ws))] _ _ _ _
    repeat (walk_at "nv")
  · rfl
end K05

namespace K05
open PySem PySem.Spec PyProof.Rows L2 NV
local macro_rules | `(tactic| walk_at "nv") => `(tactic| first
  | assumption
  | exact E_cst | exact AA_nil | exact RR_nil | exact O_nil | exact S_nil | exact SF_rt | exact E_gc | exact E_edict | exact FL_nil
  | exact A_pk rfl | apply A_v (hm := rfl) | apply AA_cons | apply RR_cons | apply O_some (hm := rfl)
  | apply S_seq | apply SF_nx | apply S_asg | apply S_ite | apply S_ret | exact S_mvv rfl | exact S_mvo rfl | apply S_put | apply S_par | apply S_expr | apply S_tgt | apply S_forr
  | apply E_op2 | apply E_bi | apply E_me | apply E_isi | apply E_not | apply E_ite | apply E_and | apply E_or | apply E_tup | apply E_lst | apply E_sl | apply E_call | apply E_nm | apply E_neg | apply E_mut | apply E_heap | apply I_rng | apply E_chain
  | apply SB_t (hb := by first | rfl | assumption | (rw [Bool.not_eq_true']; assumption) | (rw [Bool.not_eq_false']; assumption)) | apply SB_f (hb := by first | rfl | assumption | (rw [Bool.not_eq_true']; assumption) | (rw [Bool.not_eq_false']; assumption)) | apply EB_t (hb := by first | rfl | assumption | (rw [Bool.not_eq_true']; assumption) | (rw [Bool.not_eq_false']; assumption)) | apply EB_f (hb := by first | rfl | assumption | (rw [Bool.not_eq_true']; assumption) | (rw [Bool.not_eq_false']; assumption)) | apply CH_t (hb := by first | rfl | assumption | (rw [Bool.not_eq_true']; assumption) | (rw [Bool.not_eq_false']; assumption)) | exact CH_f (hb := by first | rfl | assumption | (rw [Bool.not_eq_true']; assumption) | (rw [Bool.not_eq_false']; assumption))
  | exact p_add | exact p_sub | exact ⟨rfl⟩ | exact List.Pairwise.nil | exact List.pairwise_singleton .. | rfl | decide)
def LET : Str := "abcdefghijklmnopqrstuvwxyz"
def LF : Str := "abcdefghijklmnopqrstuvwxyz0123456789"
def CLD : List PyData := [.str "both", .str "either", .str "not", .str "close", .str "cut", .str "order", .str "end", .str "pair"]
/-- not among these signs -/
def outL (t : Str) (w : W) : Bool := match w with
  | .str s => match s.cps.toList with
    | [c] => !decide (c ∈ t.cps.toList)
    | _ => false
  | _ => false
def signs (z : Str) : List W := z.cps.toList.map fun c => W.str ⟨#[c]⟩
def badSigns (z : Str) : List W := (signs z).filter (outL LF)
def wordS (z : Str) : Bool := match z.cps.toList with
  | [] => false
  | c :: _ => decide (z.length ≤ 8) && (decide (c ∈ LET.cps.toList) && ((badSigns z).isEmpty && !(CLD.any fun y => PyData.eqv y (.str z))))
theorem bad_toDs (z : Str) (t : Str) : ∃ xs, W.toDs ((signs z).filter (outL t)) = some xs := by
  unfold signs
  rw [List.filter_map]
  exact ⟨_, by rw [show (fun c => W.str ⟨#[c]⟩) = (W.str ∘ fun c : Nat => (⟨#[c]⟩ : Str)) from rfl, ← List.map_map]; exact strs_toDs⟩
theorem p_notCL (z : Str) : PO (.cmp .NotIn) (.str z) (.tup [(.str "both"), (.str "either"), (.str "not"), (.str "close"), (.str "cut"), (.str "order"), (.str "end"), (.str "pair")]) (.val (.bl (!(CLD.any fun y => PyData.eqv y (.str z))))) := by
  constructor
  rfl
theorem p_addLF : PO (.bin .Add) (.str "abcdefghijklmnopqrstuvwxyz") (.str "0123456789") (.val (.str LF)) := ⟨by kernel_rfl⟩
theorem p_out (c : Nat) (t : Str) : PO (.cmp .NotIn) (.str ⟨#[c]⟩) (.str t) (.val (.bl (outL t (.str ⟨#[c]⟩)))) := ⟨rfl⟩
theorem lc_word (n : Nat) (z : Str) (S : Sto) (hz : z.length ≤ sizeLine) : EV (callT T n) (.lc [1] (.seq (.nm 0)) (.tnm 1) (.op2 (.cmp .NotIn) (.pk 1) (.op2 (.bin .Add) (.gc "LETTERS" (.str "abcdefghijklmnopqrstuvwxyz")) (.gc "FIGURES" (.str "0123456789")))) (.nm 1)) [some (.val (.str z)), none] S (.fresh (badSigns z)) [some (.val (.str z)), none] S := by
  have q := E_lcp (cf := callT T n) (own := [1]) (src := .seq (.nm 0)) (tgt := .tnm 1) (cond := .op2 (.cmp .NotIn) (.pk 1) (.op2 (.bin .Add) (.gc "LETTERS" (.str "abcdefghijklmnopqrstuvwxyz")) (.gc "FIGURES" (.str "0123456789")))) (elt := .nm 1) (ρ := [some (.val (.str z)), none]) (S := S) (P := outL LF) (g := id) (I_str (E_nm rfl) rfl) rfl (fun w hw => ?_) (by rw [List.length_map, Array.length_toList]; exact hz)
  · rw [List.map_id] at q
    exact q
  · obtain ⟨c, _, rfl⟩ := List.mem_map.mp hw
    have h1 := p_addLF
    have h2 := p_out c LF
    refine ⟨[some (.val (.str z)), some (.val (.str ⟨#[c]⟩))], rfl, [some (.val (.str z)), some (.val (.str ⟨#[c]⟩))], ?_, fun _ => ⟨.val (.str ⟨#[c]⟩), _, E_nm rfl, rfl, rfl⟩, fun _ => rfl⟩
    repeat (walk_at "nv")
theorem f_is_word (n : Nat) (z : Str) (S : Sto) (hz : z.length ≤ sizeLine) : CC (callT T (n + 1)) i_is_word [.val (.str z)] S (.val (.bl (wordS z))) [some (.val (.str z))] S := by
  have hlen := p_len hz
  have hlc := lc_word n z S hz
  have hcl := p_notCL z
  obtain ⟨xs, hxs⟩ := bad_toDs z LF
  have hnil : PO (.cmp .Eq) (.lst (badSigns z)) (.lst []) (.val (.bl (badSigns z).isEmpty)) := p_eqnil hxs
  cases hcs : z.cps.toList with
  | nil =>
    have h0 : z.length = 0 := by
      show z.cps.size = 0
      rw [← Array.length_toList, hcs]; rfl
    have e : wordS z = false := by unfold wordS; rw [hcs]
    rw [e]
    have d1 : decide ((1 : Int) ≤ (z.length : Int)) = false := decide_eq_false (by omega)
    apply run_rt (hD := rfl) (hl := rfl)
    · show SS _ m_is_word [some (.val (.str z)), none] _ _ _ _
      repeat (walk_at "nv")
    · rfl
  | cons c r =>
    have h0 : 1 ≤ z.length := by
      show 1 ≤ z.cps.size
      rw [← Array.length_toList, hcs]; simp
    have e : wordS z = (decide (z.length ≤ 8) && (decide (c ∈ LET.cps.toList) && ((badSigns z).isEmpty && !(CLD.any fun y => PyData.eqv y (.str z))))) := by unfold wordS; rw [hcs]
    rw [e]
    have d1 : decide ((1 : Int) ≤ (z.length : Int)) = true := decide_eq_true (by omega)
    have hix : PO .ix (.str z) (.int 0) (.val (.str ⟨#[c]⟩)) := p_ixs hz (by rw [hcs]; exact atI_at (j := 0) rfl (by simp))
    by_cases h8 : z.length ≤ 8
    · have d2 : decide ((z.length : Int) ≤ 8) = true := decide_eq_true (by omega)
      rw [decide_eq_true h8, Bool.true_and]
      have ho := p_out c LET
      have eo : outL LET (.str ⟨#[c]⟩) = !decide (c ∈ LET.cps.toList) := rfl
      rw [eo] at ho
      have ho : PO (.cmp .NotIn) (.str ⟨#[c]⟩) (.str "abcdefghijklmnopqrstuvwxyz") (.val (.bl (!decide (c ∈ LET.cps.toList)))) := ho
      generalize decide (c ∈ LET.cps.toList) = bL at ho ⊢
      generalize (badSigns z).isEmpty = bB at hnil ⊢
      generalize (CLD.any fun y => PyData.eqv y (.str z)) = bC at hcl ⊢
      cases bL with
      | false =>
        rw [Bool.false_and]
        apply run_rt (hD := rfl) (hl := rfl)
        · show SS _ m_is_word [some (.val (.str z)), none] _ _ _ _
          repeat (walk_at "nv")
        · rfl
      | true =>
        rw [Bool.true_and]
        cases bB with
        | false =>
          rw [Bool.false_and]
          apply run_rt (hD := rfl) (hl := rfl)
          · show SS _ m_is_word [some (.val (.str z)), none] _ _ _ _
            repeat (walk_at "nv")
          · rfl
        | true =>
          rw [Bool.true_and]
          apply run_rt (hD := rfl) (hl := rfl)
          · show SS _ m_is_word [some (.val (.str z)), none] _ _ _ _
            repeat (walk_at "nv")
          · rfl
    · have d2 : decide ((z.length : Int) ≤ 8) = false := decide_eq_false (by omega)
      rw [decide_eq_false h8, Bool.false_and]
      apply run_rt (hD := rfl) (hl := rfl)
      · show SS _ m_is_word [some (.val (.str z)), none] _ _ _ _
        repeat (walk_at "nv")
      · rfl
end K05

namespace K05
open PySem PySem.Spec PyProof.Rows L2 NV
local macro_rules | `(tactic| walk_at "nv") => `(tactic| first
  | assumption
  | exact E_cst | exact AA_nil | exact RR_nil | exact O_nil | exact S_nil | exact SF_rt | exact E_gc | exact E_edict | exact FL_nil
  | exact A_pk rfl | apply A_v (hm := rfl) | apply AA_cons | apply RR_cons | apply O_some (hm := rfl)
  | apply S_seq | apply SF_nx | apply S_asg | apply S_ite | apply S_ret | exact S_mvv rfl | exact S_mvo rfl | apply S_put | apply S_par | apply S_expr | apply S_tgt | apply S_forr
  | apply E_op2 | apply E_bi | apply E_me | apply E_isi | apply E_not | apply E_ite | apply E_and | apply E_or | apply E_tup | apply E_lst | apply E_sl | apply E_call | apply E_nm | apply E_neg | apply E_mut | apply E_heap | apply I_rng | apply E_chain
  | apply SB_t (hb := by first | rfl | assumption | (rw [Bool.not_eq_true']; assumption) | (rw [Bool.not_eq_false']; assumption)) | apply SB_f (hb := by first | rfl | assumption | (rw [Bool.not_eq_true']; assumption) | (rw [Bool.not_eq_false']; assumption)) | apply EB_t (hb := by first | rfl | assumption | (rw [Bool.not_eq_true']; assumption) | (rw [Bool.not_eq_false']; assumption)) | apply EB_f (hb := by first | rfl | assumption | (rw [Bool.not_eq_true']; assumption) | (rw [Bool.not_eq_false']; assumption)) | apply CH_t (hb := by first | rfl | assumption | (rw [Bool.not_eq_true']; assumption) | (rw [Bool.not_eq_false']; assumption)) | exact CH_f (hb := by first | rfl | assumption | (rw [Bool.not_eq_true']; assumption) | (rw [Bool.not_eq_false']; assumption))
  | exact p_add | exact p_sub | exact ⟨rfl⟩ | exact List.Pairwise.nil | exact List.pairwise_singleton .. | rfl | decide)
theorem f_is_word_ns (n : Nat) (v : W) (S : Sto) (h : isiW (res S v) [.str] = some false) : CC (callT T (n + 1)) i_is_word [.val v] S (.val (.bl false)) [some (.val v)] S := by
  apply run_rt (hD := rfl) (hl := rfl)
  · show SS _ m_is_word [some (.val v), none] _ _ _ _
    repeat (walk_at "nv")
  · rfl
theorem lc_law_word (n : Nat) (z : Str) (S : Sto) (hz : z.length ≤ sizeLine) : EV (callT T n) (.lc [1] (.seq (.nm 0)) (.tnm 1) (.op2 (.cmp .NotIn) (.pk 1) (.cst (.str "abcdefghijklmnopqrstuvwxyz0123456789"))) (.nm 1)) [some (.val (.str z)), none] S (.fresh (badSigns z)) [some (.val (.str z)), none] S := by
  have q := E_lcp (cf := callT T n) (own := [1]) (src := .seq (.nm 0)) (tgt := .tnm 1) (cond := .op2 (.cmp .NotIn) (.pk 1) (.cst (.str "abcdefghijklmnopqrstuvwxyz0123456789"))) (elt := .nm 1) (ρ := [some (.val (.str z)), none]) (S := S) (P := outL LF) (g := id) (I_str (E_nm rfl) rfl) rfl (fun w hw => ?_) (by rw [List.length_map, Array.length_toList]; exact hz)
  · rw [List.map_id] at q
    exact q
  · obtain ⟨c, _, rfl⟩ := List.mem_map.mp hw
    have h2 := p_out c LF
    refine ⟨[some (.val (.str z)), some (.val (.str ⟨#[c]⟩))], rfl, [some (.val (.str z)), some (.val (.str ⟨#[c]⟩))], ?_, fun _ => ⟨.val (.str ⟨#[c]⟩), _, E_nm rfl, rfl, rfl⟩, fun _ => rfl⟩
    repeat (walk_at "nv")
theorem p_inCL (z : Str) : PO (.cmp .In) (.str z) (.lst [(.str "both"), (.str "either"), (.str "not"), (.str "close"), (.str "cut"), (.str "order"), (.str "end"), (.str "pair")]) (.val (.bl (CLD.any fun y => PyData.eqv y (.str z)))) := by
  constructor
  rfl
/-! ### the first state of the draws -/
theorem f_cell (n : Nat) (ns : List Int) (i : Nat) (S : Sto) : ∃ v, CC (callT T (n + 1)) i_law_cell [.val (.flst (ns.map W.int)), .val (.int i)] S (.val (.int v)) [some (.val (.flst (ns.map W.int))), some (.val (.int i))] S := by
  by_cases h : i < ns.length
  · have d1 : decide ((i : Int) < ((ns.map W.int).length : Int)) = true := decide_eq_true (by rw [List.length_map]; omega)
    have hix : PO .ix (.flst (ns.map W.int)) (.int i) (.val (.int ns[i])) := p_ixf (by rw [atI_at (j := i) rfl (by rw [List.length_map]; exact h)]; simp)
    refine ⟨ns[i], ?_⟩
    apply run_rt (hD := rfl) (hl := rfl)
    · show SS _ m_law_cell [some (.val (.flst (ns.map W.int))), some (.val (.int i))] _ _ _ _
      repeat (walk_at "nv")
    · rfl
  · have d1 : decide ((i : Int) < ((ns.map W.int).length : Int)) = false := decide_eq_false (by rw [List.length_map]; omega)
    have hs : pSl (.flst (ns.map W.int)) none (some 1) = some (.fresh ((cutW (ns.map W.int) none (some 1)))) := rfl
    have hw : ∀ l : List Int, wInts (l.map W.int) = some l := fun l => by
      induction l with
      | nil => rfl
      | cons a l ih => simp only [List.map_cons, wInts, ih, Option.map_some]
    have hc : cutW (ns.map W.int) none (some 1) = (((ns.drop (HT.sIx (ns.map W.int).length 0 none)).take (HT.sIx (ns.map W.int).length (ns.map W.int).length (some 1) - HT.sIx (ns.map W.int).length 0 none)).map W.int) := by
      unfold cutW
      rw [List.map_take, List.map_drop]
    have hsum : pBi .sum [.lst (cutW (ns.map W.int) none (some 1))] = some (.val (.int (((ns.drop (HT.sIx (ns.map W.int).length 0 none)).take (HT.sIx (ns.map W.int).length (ns.map W.int).length (some 1) - HT.sIx (ns.map W.int).length 0 none))).sum)) := by
      simp only [pBi]
      rw [hc, hw, Option.map_some]
    apply Exists.intro
    apply run_rt (hD := rfl) (hl := rfl)
    · show SS _ m_law_cell [some (.val (.flst (ns.map W.int))), some (.val (.int i))] _ _ _ _
      repeat (walk_at "nv")
    · rfl
theorem p_pow1 : PO (.bin .Pow) (.int 10) (.int 18) (.val (.int (10 ^ 18))) := ⟨by kernel_rfl⟩
theorem p_pow2 : PO (.bin .Pow) (.int 10) (.int 60) (.val (.int (10 ^ 60))) := ⟨by kernel_rfl⟩
theorem p_pow3 : PO (.bin .Pow) (.int (10 ^ 60)) (.int 10) (.val (.int ((10 ^ 60) ^ 10))) := ⟨by kernel_rfl⟩
theorem f_generator (n : Nat) (ns : List Int) (i : Nat) (hi : i < 1000) (S : Sto) : ∃ g, CC (callT T (n + 2)) i_law_generator [.val (.flst (ns.map W.int)), .val (.int i)] S (.fresh g) [some (.val (.flst (ns.map W.int))), some (.val (.int i))] S ∧ GenOk g (1000 * i) := by
  obtain ⟨v, hv⟩ := f_cell n ns i S
  have h1 := p_pow1
  have h2 := p_pow2
  have h3 := p_pow3
  have hpos : (0 : Int) < (10 ^ 60) ^ 10 := by decide +kernel
  generalize (10 : Int) ^ 18 = t1 at h1
  generalize ((10 : Int) ^ 60) ^ 10 = t3 at h3 hpos
  generalize (10 : Int) ^ 60 = t2 at h2 h3
  have h4 := fun x : Int => p_mod (i := x) hpos
  have h5 := p_mod (i := v) (j := 2147483647) (by omega)
  have h6 := p_mul (i := 1000) (j := (i : Int)) 31 31 (by omega) (by omega) (by omega)
  refine ⟨gen ((if 0 > v - t1 then 0 else v - t1) % t3) (v % 2147483647) (1000 * i), ?_, ⟨_, _, _, rfl, Int.emod_nonneg _ (by omega), ⟨Int.emod_nonneg _ (by omega), Int.emod_lt_of_pos _ (by omega)⟩, by omega, by omega⟩⟩
  have h7 := h4 (if 0 > v - t1 then 0 else v - t1)
  apply run_rt (hD := rfl) (hl := rfl)
  · show SS _ m_law_generator [some (.val (.flst (ns.map W.int))), some (.val (.int i)), none] _ _ _ _
    repeat (walk_at "nv")
  · rfl
end K05

namespace NV
open PySem PySem.Spec PyProof.Rows L2
theorem p_eqint {i j : Int} : PO (.cmp .Eq) (.int i) (.int j) (.val (.bl (decide (i = j)))) := by
  constructor
  have e3 : dOk (.int i) = true := rfl
  simp only [pOp2, pCmp, wEq, W.toD, e3, Bool.true_or, if_true, Option.map_some]
  congr 3
end NV
namespace K05
open PySem PySem.Spec PyProof.Rows L2 NV
local macro_rules | `(tactic| walk_at "nv") => `(tactic| first
  | assumption
  | exact E_cst | exact AA_nil | exact RR_nil | exact O_nil | exact S_nil | exact SF_rt | exact E_gc | exact E_edict | exact FL_nil
  | exact A_pk rfl | apply A_v (hm := rfl) | apply AA_cons | apply RR_cons | apply O_some (hm := rfl)
  | apply S_seq | apply SF_nx | apply S_asg | apply S_ite | apply S_ret | exact S_mvv rfl | exact S_mvo rfl | apply S_put | apply S_par | apply S_expr | apply S_tgt | apply S_forr
  | apply E_op2 | apply E_bi | apply E_me | apply E_isi | apply E_not | apply E_ite | apply E_and | apply E_or | apply E_tup | apply E_lst | apply E_sl | apply E_call | apply E_nm | apply E_neg | apply E_mut | apply E_heap | apply I_rng | apply E_chain
  | apply SB_t (hb := by first | rfl | assumption | (rw [Bool.not_eq_true']; assumption) | (rw [Bool.not_eq_false']; assumption)) | apply SB_f (hb := by first | rfl | assumption | (rw [Bool.not_eq_true']; assumption) | (rw [Bool.not_eq_false']; assumption)) | apply EB_t (hb := by first | rfl | assumption | (rw [Bool.not_eq_true']; assumption) | (rw [Bool.not_eq_false']; assumption)) | apply EB_f (hb := by first | rfl | assumption | (rw [Bool.not_eq_true']; assumption) | (rw [Bool.not_eq_false']; assumption)) | apply CH_t (hb := by first | rfl | assumption | (rw [Bool.not_eq_true']; assumption) | (rw [Bool.not_eq_false']; assumption)) | exact CH_f (hb := by first | rfl | assumption | (rw [Bool.not_eq_true']; assumption) | (rw [Bool.not_eq_false']; assumption))
  | exact p_add | exact p_sub | exact ⟨rfl⟩ | exact List.Pairwise.nil | exact List.pairwise_singleton .. | rfl | decide)
inductive Fm where
  | lit (neg : Bool) (z : Str)
  | bin (e : Bool) (a b : Fm)
def Fm.w : Fm → W
  | .lit neg z => .tup [.str (if neg then "not" else "is"), .str z]
  | .bin e a b => .tup [.str (if e then "either" else "both"), a.w, b.w]
def Fm.depth : Fm → Nat
  | .lit _ _ => 1
  | .bin _ a b => 1 + max a.depth b.depth
def Fm.size : Fm → Nat
  | .lit _ _ => 1
  | .bin _ a b => 1 + a.size + b.size
/-- of the words p, q, r2 -/
def Fm.ok : Fm → Prop
  | .lit _ z => z = "p" ∨ z = "q" ∨ z = "r2"
  | .bin _ a b => a.ok ∧ b.ok
theorem g_lit (n : Nat) {g : List W} {k : Int} (hg : GenOk g k) (hk : k + 2 < 2 ^ 29) (S : Sto) : ∃ w1 w2 g1 g2, CC (callT T (n + 3)) i_law_pick [.own (true, g), .val (.lst [.str "is", .str "not"])] S (.val w1) [some (.own (true, g1)), some (.val (.lst [.str "is", .str "not"]))] S ∧
    CC (callT T (n + 3)) i_law_pick [.own (true, g1), .val (.lst [.str "p", .str "q", .str "r2"])] S (.val w2) [some (.own (true, g2)), some (.val (.lst [.str "p", .str "q", .str "r2"]))] S ∧ GenOk g2 (k + 2) ∧ ∃ F : Fm, W.tup [w1, w2] = F.w ∧ F.ok ∧ F.depth = 1 := by
  obtain ⟨w1, g1, h1, m1, k1⟩ := g_pick n hg (by omega) [.str "is", .str "not"] S ⟨by decide, by decide⟩
  obtain ⟨w2, g2, h2, m2, k2⟩ := g_pick n k1 (by omega) [.str "p", .str "q", .str "r2"] S ⟨by decide, by decide⟩
  refine ⟨w1, w2, g1, g2, h1, h2, k2.mono (by omega), ?_⟩
  have e1 : ∃ b : Bool, w1 = .str (if b then "not" else "is") := by
    simp only [List.mem_cons, List.not_mem_nil, or_false] at m1
    rcases m1 with h | h
    · exact ⟨false, h⟩
    · exact ⟨true, h⟩
  have e2 : ∃ z : Str, w2 = .str z ∧ (z = "p" ∨ z = "q" ∨ z = "r2") := by
    simp only [List.mem_cons, List.not_mem_nil, or_false] at m2
    rcases m2 with h | h | h
    · exact ⟨_, h, .inl rfl⟩
    · exact ⟨_, h, .inr (.inl rfl)⟩
    · exact ⟨_, h, .inr (.inr rfl)⟩
  obtain ⟨b, rfl⟩ := e1
  obtain ⟨z, rfl, hz⟩ := e2
  exact ⟨.lit b z, rfl, hz, rfl⟩
theorem g_formula (n : Nat) (S : Sto) : ∀ (d : Nat) {g : List W} {k : Int}, GenOk g k → k + 4 ^ (d + 1) < 2 ^ 29 →
    ∃ F g', CC (callT T (n + 4 + d)) i_law_formula [.own (true, g), .val (.int d)] S (.val (Fm.w F)) [some (.own (true, g')), some (.val (.int d))] S ∧ F.ok ∧ F.depth ≤ d + 1 ∧ GenOk g' (k + 4 ^ (d + 1))
  | 0, g, k, hg, hk => by
    have hk' : k + 4 < 2 ^ 29 := hk
    obtain ⟨w1, w2, g1, g2, h1, h2, h3, F, hF, h4, h5⟩ := g_lit n hg (by omega) S
    refine ⟨F, g2, ?_, h4, by omega, h3.mono (by omega)⟩
    rw [← hF]
    have e0 : PO (.cmp .Eq) (.int ((0 : Nat) : Int)) (.int 0) (.val (.bl true)) := p_eqint
    apply run_rt (hD := rfl) (hl := rfl)
    · show SS _ m_law_formula [some (.own (true, g)), some (.val (.int ((0 : Nat) : Int))), none] _ _ _ _
      repeat (walk_at "nv")
    · rfl
  | d + 1, g, k, hg, hk => by
    have e0 : PO (.cmp .Eq) (.int ((d + 1 : Nat) : Int)) (.int 0) (.val (.bl false)) := by
      have := p_eqint (i := ((d + 1 : Nat) : Int)) (j := 0)
      rw [decide_eq_false (by omega)] at this
      exact this
    have h2d : (4 : Int) ≤ 4 ^ (d + 1) := by
      have : 1 ≤ 4 ^ d := Nat.pow_pos (by omega)
      have h : 4 ≤ 4 ^ (d + 1) := by rw [Nat.pow_succ]; omega
      exact_mod_cast h
    have hpow : (4 : Int) ^ (d + 1 + 1) = 4 * 4 ^ (d + 1) := by rw [Int.pow_succ]; omega
    rw [hpow] at hk ⊢
    obtain ⟨r, g0, q1, q2, q3⟩ := g_random (n + 2 + d) hg (by omega) 4 S (by omega)
    have l1 : n + 2 + d + 2 = n + 4 + d := by omega
    have l2 : n + 1 + d + 3 = n + 4 + d := by omega
    rw [l1] at q1
    by_cases hr : r = 0
    · subst hr
      have e1 : PO (.cmp .Eq) (.int 0) (.int 0) (.val (.bl true)) := p_eqint
      obtain ⟨w1, w2, g1, g2, h1, h2, h3, F, hF, h4, h5⟩ := g_lit (n + 1 + d) q3 (by omega) S
      rw [l2] at h1 h2
      refine ⟨F, g2, ?_, h4, by omega, h3.mono (by omega)⟩
      rw [← hF]
      apply run_rt (hD := rfl) (hl := rfl)
      · show SS _ m_law_formula [some (.own (true, g)), some (.val (.int ((d + 1 : Nat) : Int))), none] _ _ _ _
        repeat (walk_at "nv")
      · rfl
    · have e1 : PO (.cmp .Eq) (.int r) (.int 0) (.val (.bl false)) := by
        have := p_eqint (i := r) (j := 0)
        rw [decide_eq_false hr] at this
        exact this
      obtain ⟨w1, g1, h1, m1, k1⟩ := g_pick (n + 1 + d) q3 (by omega) [.str "both", .str "either"] S ⟨by decide, by decide⟩
      rw [l2] at h1
      obtain ⟨A, g2, h2, oA, dA, k2⟩ := g_formula n S d k1 (by omega)
      obtain ⟨B, g3, h3, oB, dB, k3⟩ := g_formula n S d k2 (by omega)
      have ew : ∃ b : Bool, w1 = .str (if b then "either" else "both") := by
        simp only [List.mem_cons, List.not_mem_nil, or_false] at m1
        rcases m1 with h | h
        · exact ⟨false, h⟩
        · exact ⟨true, h⟩
      obtain ⟨b, rfl⟩ := ew
      refine ⟨.bin b A B, g3, ?_, ⟨oA, oB⟩, by show 1 + max A.depth B.depth ≤ _; omega, k3.mono (by omega)⟩
      have es : PO (.bin .Sub) (.int ((d + 1 : Nat) : Int)) (.int 1) (.val (.int d)) := by
        have := p_sub (i := ((d + 1 : Nat) : Int)) (j := 1)
        rw [show ((d + 1 : Nat) : Int) - 1 = d by omega] at this
        exact this
      show CC (callT T (n + 4 + d + 1)) _ _ _ (.val (.tup [.str (if b then "either" else "both"), A.w, B.w])) _ _
      apply run_rt (hD := rfl) (hl := rfl)
      · show SS _ m_law_formula [some (.own (true, g)), some (.val (.int ((d + 1 : Nat) : Int))), none] _ _ _ _
        repeat (walk_at "nv")
      · rfl
end K05

namespace NV
open PySem PySem.Spec PyProof.Rows L2
theorem eqv_str (a b : Str) : PyData.eqv (.str a) (.str b) = decide (a = b) := by
  simp only [PyData.eqv]
  rfl
theorem p_in2 {h a b : Str} : PO (.cmp .In) (.str h) (.tup [.str a, .str b]) (.val (.bl (decide (h = a) || decide (h = b)))) := by
  constructor
  have e3 : dOk (.str h) = true := rfl
  simp only [pOp2, pCmp, wIn, wInL, W.toDs, W.toD, e3, if_true, Option.map_some, List.any_cons, List.any_nil, Bool.or_false, eqv_str]
  rw [show decide (a = h) = decide (h = a) from by simp [eq_comm], show decide (b = h) = decide (h = b) from by simp [eq_comm]]
theorem p_tail {a : W} {r : List W} : pSl (.tup (a :: r)) (some 1) none = some (.val (.tup r)) := by
  have h1 : HT.sIx (a :: r).length 0 (some 1) = 1 := by simp [HT.sIx]
  have h2 : HT.sIx (a :: r).length (a :: r).length none = (a :: r).length := rfl
  simp only [pSl, h1, h2]
  rw [if_neg (by simp)]
  unfold cutW
  rw [h1, h2]
  simp
end NV
namespace K05
open PySem PySem.Spec PyProof.Rows L2 NV
local macro_rules | `(tactic| walk_at "nv") => `(tactic| first
  | assumption
  | exact E_cst | exact AA_nil | exact RR_nil | exact O_nil | exact S_nil | exact SF_rt | exact E_gc | exact E_edict | exact FL_nil
  | exact A_pk rfl | apply A_v (hm := rfl) | apply AA_cons | apply RR_cons | apply O_some (hm := rfl)
  | apply S_seq | apply SF_nx | apply S_asg | apply S_ite | apply S_ret | exact S_mvv rfl | exact S_mvo rfl | apply S_put | apply S_par | apply S_expr | apply S_tgt | apply S_forr
  | apply E_op2 | apply E_bi | apply E_me | apply E_isi | apply E_not | apply E_ite | apply E_and | apply E_or | apply E_tup | apply E_lst | apply E_sl | apply E_call | apply E_nm | apply E_neg | apply E_mut | apply E_heap | apply I_rng | apply E_chain
  | apply SB_t (hb := by first | rfl | assumption | (rw [Bool.not_eq_true']; assumption) | (rw [Bool.not_eq_false']; assumption)) | apply SB_f (hb := by first | rfl | assumption | (rw [Bool.not_eq_true']; assumption) | (rw [Bool.not_eq_false']; assumption)) | apply EB_t (hb := by first | rfl | assumption | (rw [Bool.not_eq_true']; assumption) | (rw [Bool.not_eq_false']; assumption)) | apply EB_f (hb := by first | rfl | assumption | (rw [Bool.not_eq_true']; assumption) | (rw [Bool.not_eq_false']; assumption)) | apply CH_t (hb := by first | rfl | assumption | (rw [Bool.not_eq_true']; assumption) | (rw [Bool.not_eq_false']; assumption)) | exact CH_f (hb := by first | rfl | assumption | (rw [Bool.not_eq_true']; assumption) | (rw [Bool.not_eq_false']; assumption))
  | exact p_add | exact p_sub | exact ⟨rfl⟩ | exact List.Pairwise.nil | exact List.pairwise_singleton .. | rfl | decide)
def isBE (h : Str) : Bool := decide (h = "both") || decide (h = "either")
def isIN (h : Str) : Bool := decide (h = "is") || decide (h = "not")
theorem f_inner_of (n : Nat) (h : Str) (r : List W) (S : Sto) : CC (callT T (n + 1)) i_inner_of [.val (.tup (.str h :: r))] S (.fresh (if isBE h then r else [])) [some (.val (.tup (.str h :: r)))] S := by
  have h1 : PO .ix (.tup (.str h :: r)) (.int 0) (.val (.str h)) := p_ixt (atI_at (j := 0) rfl (by simp))
  have h2 := p_in2 (h := h) (a := "both") (b := "either")
  have h3 := p_tail (a := .str h) (r := r)
  cases hb : isBE h with
  | true =>
    rw [if_pos rfl]
    unfold isBE at hb
    rw [hb] at h2
    apply run_rt (hD := rfl) (hl := rfl)
    · show SS _ m_inner_of [some (.val (.tup (.str h :: r)))] _ _ _ _
      repeat (walk_at "nv")
    · rfl
  | false =>
    rw [if_neg (by decide)]
    unfold isBE at hb
    rw [hb] at h2
    apply run_rt (hD := rfl) (hl := rfl)
    · show SS _ m_inner_of [some (.val (.tup (.str h :: r)))] _ _ _ _
      repeat (walk_at "nv")
    · rfl
end K05

namespace NV
open PySem PySem.Spec PyProof.Rows L2
/-! ### plain data of moderate size -/
mutual
def gdW : W → Bool
  | .non => true
  | .bl _ => true
  | .int _ => true
  | .str z => decide (z.length ≤ 1000)
  | .tup l => decide (l.length ≤ 1000) && gdWs l
  | .lst l => decide (l.length ≤ 1000) && gdWs l
  | _ => false
def gdWs : List W → Bool
  | [] => true
  | a :: r => gdW a && gdWs r
end
mutual
theorem gd_toD : ∀ {v : W}, gdW v = true → ∃ x, v.toD = some x
  | .non, _ => ⟨_, rfl⟩
  | .bl _, _ => ⟨_, rfl⟩
  | .int _, _ => ⟨_, rfl⟩
  | .str _, _ => ⟨_, rfl⟩
  | .tup l, h => by
    simp only [gdW, Bool.and_eq_true] at h
    obtain ⟨xs, e⟩ := gds_toD h.2
    exact ⟨.tuple xs, by simp only [W.toD, e]; rfl⟩
  | .lst l, h => by
    simp only [gdW, Bool.and_eq_true] at h
    obtain ⟨xs, e⟩ := gds_toD h.2
    exact ⟨.list xs, by simp only [W.toD, e]; rfl⟩
  | .dct _ _, h => by simp only [gdW] at h; cases h
  | .flst _, h => by simp only [gdW] at h; cases h
  | .fn _, h => by simp only [gdW] at h; cases h
  | .ref _, h => by simp only [gdW] at h; cases h
  | .exc _ _, h => by simp only [gdW] at h; cases h
theorem gds_toD : ∀ {l : List W}, gdWs l = true → ∃ xs, W.toDs l = some xs
  | [], _ => ⟨[], rfl⟩
  | a :: r, h => by
    simp only [gdWs, Bool.and_eq_true] at h
    obtain ⟨x, e1⟩ := gd_toD h.1
    obtain ⟨xs, e2⟩ := gds_toD h.2
    exact ⟨x :: xs, by simp only [W.toDs, e1, e2]⟩
end
theorem gd_res {v : W} (h : gdW v = true) (S : Sto) : res S v = v := by cases v <;> first | rfl | (simp only [gdW] at h; cases h)
theorem gd_isi {v : W} (h : gdW v = true) (ts : List Ty) : isiW v ts = some (ts.any fun t => isTy t v) := by cases v <;> first | rfl | (simp only [gdW] at h; cases h)
theorem p_eqtup0 {l : List W} {xs : List PyData} (h : W.toDs l = some xs) : PO (.cmp .Eq) (.tup l) (.tup []) (.val (.bl l.isEmpty)) := by
  constructor
  have e1 : W.toD (.tup l) = some (.tuple xs) := by simp only [W.toD, h]; rfl
  have e2 : W.toD (.tup []) = some (.tuple []) := rfl
  have e3 : dOk (.tuple []) = true := by decide
  simp only [pOp2, pCmp, wEq, e1, e2, e3, Bool.or_true, if_true, Option.map_some]
  cases l with
  | nil => cases h; rfl
  | cons a l =>
    cases xs with
    | nil =>
      simp only [W.toDs] at h
      split at h <;> cases h
    | cons x xs => rfl
theorem p_eqint' {i j : Int} {b : Bool} (h : decide (i = j) = b) : PO (.cmp .Eq) (.int i) (.int j) (.val (.bl b)) := by rw [← h]; exact p_eqint
end NV
namespace K05
open PySem PySem.Spec PyProof.Rows L2 NV
local macro_rules | `(tactic| walk_at "nv") => `(tactic| first
  | assumption
  | exact E_cst | exact AA_nil | exact RR_nil | exact O_nil | exact S_nil | exact SF_rt | exact E_gc | exact E_edict | exact FL_nil
  | exact A_pk rfl | apply A_v (hm := rfl) | apply AA_cons | apply RR_cons | apply O_some (hm := rfl)
  | apply S_seq | apply SF_nx | apply S_asg | apply S_ite | apply S_ret | exact S_mvv rfl | exact S_mvo rfl | apply S_put | apply S_par | apply S_expr | apply S_tgt | apply S_forr
  | apply E_op2 | apply E_bi | apply E_me | apply E_isi | apply E_not | apply E_ite | apply E_and | apply E_or | apply E_tup | apply E_lst | apply E_sl | apply E_call | apply E_nm | apply E_neg | apply E_mut | apply E_heap | apply I_rng | apply E_chain
  | apply SB_t (hb := by first | rfl | assumption | (rw [Bool.not_eq_true']; assumption) | (rw [Bool.not_eq_false']; assumption)) | apply SB_f (hb := by first | rfl | assumption | (rw [Bool.not_eq_true']; assumption) | (rw [Bool.not_eq_false']; assumption)) | apply EB_t (hb := by first | rfl | assumption | (rw [Bool.not_eq_true']; assumption) | (rw [Bool.not_eq_false']; assumption)) | apply EB_f (hb := by first | rfl | assumption | (rw [Bool.not_eq_true']; assumption) | (rw [Bool.not_eq_false']; assumption)) | apply CH_t (hb := by first | rfl | assumption | (rw [Bool.not_eq_true']; assumption) | (rw [Bool.not_eq_false']; assumption)) | exact CH_f (hb := by first | rfl | assumption | (rw [Bool.not_eq_true']; assumption) | (rw [Bool.not_eq_false']; assumption))
  | exact p_add | exact p_sub | exact ⟨rfl⟩ | exact List.Pairwise.nil | exact List.pairwise_singleton .. | rfl | decide)
def wordW : W → Bool
  | .str z => wordS z
  | _ => false
theorem line1000 : 1000 ≤ sizeLine := by rw [sizeLine_eq]; omega
theorem g_is_word (n : Nat) (v : W) (S : Sto) (h : gdW v = true) : CC (callT T (n + 1)) i_is_word [.val v] S (.val (.bl (wordW v))) [some (.val v)] S := by
  cases v with
  | str z =>
    simp only [gdW, decide_eq_true_eq] at h
    exact f_is_word n z S (Nat.le_trans h line1000)
  | _ => first
    | exact f_is_word_ns n _ S rfl
    | (simp only [gdW] at h; cases h)
def oneWord : List W → Bool
  | [v] => wordW v
  | _ => false
/-- made as the top of a formula is -/
def formed : W → Bool
  | .tup (.str h :: r) => if isIN h then oneWord r else isBE h && decide (r.length = 2)
  | _ => false
theorem f_formed_nt (n : Nat) (v : W) (S : Sto) (h : isiW (res S v) [.tuple] = some false) : CC (callT T (n + 2)) i_is_formed [.val v] S (.val (.bl false)) [some (.val v)] S := by
  apply run_rt (hD := rfl) (hl := rfl)
  · show SS _ m_is_formed [some (.val v)] _ _ _ _
    repeat (walk_at "nv")
  · rfl
theorem f_formed_nil (n : Nat) (S : Sto) : CC (callT T (n + 2)) i_is_formed [.val (.tup [])] S (.val (.bl false)) [some (.val (.tup []))] S := by
  have h1 := p_eqtup0 (l := []) rfl
  apply run_rt (hD := rfl) (hl := rfl)
  · show SS _ m_is_formed [some (.val (.tup []))] _ _ _ _
    repeat (walk_at "nv")
  · rfl
theorem f_formed_ns (n : Nat) (a : W) (r : List W) (S : Sto) (hg : gdW (.tup (a :: r)) = true) (h : isTy .str a = false) : CC (callT T (n + 2)) i_is_formed [.val (.tup (a :: r))] S (.val (.bl false)) [some (.val (.tup (a :: r)))] S := by
  obtain ⟨xs, hx⟩ := gds_toD (l := a :: r) (by simp only [gdW, Bool.and_eq_true] at hg; exact hg.2)
  have h1 : PO (.cmp .Eq) (.tup (a :: r)) (.tup []) (.val (.bl false)) := p_eqtup0 hx
  have h2 : PO .ix (.tup (a :: r)) (.int 0) (.val a) := p_ixt (atI_at (j := 0) rfl (by simp))
  have ga : gdW a = true := by
    simp only [gdW, gdWs, Bool.and_eq_true] at hg
    exact hg.2.1
  have h3 : isiW (res S a) [.str] = some false := by
    rw [gd_res ga, gd_isi ga, List.any_cons, h]; rfl
  apply run_rt (hD := rfl) (hl := rfl)
  · show SS _ m_is_formed [some (.val (.tup (a :: r)))] _ _ _ _
    repeat (walk_at "nv")
  · rfl
theorem f_formed_str (n : Nat) (h : Str) (r : List W) (S : Sto) (hg : gdW (.tup (.str h :: r)) = true) : CC (callT T (n + 2)) i_is_formed [.val (.tup (.str h :: r))] S (.val (.bl (formed (.tup (.str h :: r))))) [some (.val (.tup (.str h :: r)))] S := by
  obtain ⟨xs, hx⟩ := gds_toD (l := .str h :: r) (by simp only [gdW, Bool.and_eq_true] at hg; exact hg.2)
  have h1 : PO (.cmp .Eq) (.tup (.str h :: r)) (.tup []) (.val (.bl false)) := p_eqtup0 hx
  have h2 : PO .ix (.tup (.str h :: r)) (.int 0) (.val (.str h)) := p_ixt (atI_at (j := 0) rfl (by simp))
  have h3 := p_in2 (h := h) (a := "is") (b := "not")
  have h4 := p_in2 (h := h) (a := "both") (b := "either")
  have hr : gdWs r = true := by
    simp only [gdW, gdWs, Bool.and_eq_true] at hg
    exact hg.2.2
  have hlen : pBi .len [.tup (.str h :: r)] = some (.val (.int ((W.str h :: r).length : Nat))) := rfl
  cases hi : isIN h with
  | true =>
    have e : formed (.tup (.str h :: r)) = oneWord r := by simp only [formed, hi, if_true]
    rw [e]
    have hi' := hi
    unfold isIN at hi'
    rw [hi'] at h3
    match r, hg, hr, h1, h2, h3, h4, hlen with
    | [v], hg, hr, h1, h2, h3, h4, hlen =>
      have gv : gdW v = true := by simpa [gdWs] using hr
      have h5 : PO .ix (.tup [.str h, v]) (.int 1) (.val v) := p_ixt (atI_at (j := 1) rfl (by simp))
      have h6 := g_is_word n v S gv
      have h7 : PO (.cmp .Eq) (.int (([W.str h, v] : List W).length : Nat)) (.int 2) (.val (.bl true)) := p_eqint' rfl
      apply run_rt (hD := rfl) (hl := rfl)
      · show SS _ m_is_formed [some (.val (.tup [.str h, v]))] _ _ _ _
        repeat (walk_at "nv")
      · rfl
    | [], hg, hr, h1, h2, h3, h4, hlen =>
      have h7 : PO (.cmp .Eq) (.int (([W.str h] : List W).length : Nat)) (.int 2) (.val (.bl false)) := p_eqint' rfl
      apply run_rt (hD := rfl) (hl := rfl)
      · show SS _ m_is_formed [some (.val (.tup [.str h]))] _ _ _ _
        repeat (walk_at "nv")
      · rfl
    | v :: u :: t, hg, hr, h1, h2, h3, h4, hlen =>
      have h7 : PO (.cmp .Eq) (.int ((W.str h :: v :: u :: t : List W).length : Nat)) (.int 2) (.val (.bl false)) := p_eqint' (decide_eq_false (by simp only [List.length_cons]; omega))
      apply run_rt (hD := rfl) (hl := rfl)
      · show SS _ m_is_formed [some (.val (.tup (.str h :: v :: u :: t)))] _ _ _ _
        repeat (walk_at "nv")
      · rfl
  | false =>
    have e : formed (.tup (.str h :: r)) = (isBE h && decide (r.length = 2)) := by simp only [formed, hi]; rfl
    rw [e]
    have hi' := hi
    unfold isIN at hi'
    rw [hi'] at h3
    have h7 : PO (.cmp .Eq) (.int ((W.str h :: r : List W).length : Nat)) (.int 3) (.val (.bl (decide (r.length = 2)))) := p_eqint' (by rw [decide_eq_decide, List.length_cons]; omega)
    generalize decide (r.length = 2) = bb at h7 ⊢
    unfold isBE
    generalize (decide (h = "both") || decide (h = "either")) = bc at h4 ⊢
    cases bc with
    | true =>
      rw [Bool.true_and]
      apply run_rt (hD := rfl) (hl := rfl)
      · show SS _ m_is_formed [some (.val (.tup (.str h :: r)))] _ _ _ _
        repeat (walk_at "nv")
      · rfl
    | false =>
      rw [Bool.false_and]
      apply run_rt (hD := rfl) (hl := rfl)
      · show SS _ m_is_formed [some (.val (.tup (.str h :: r)))] _ _ _ _
        repeat (walk_at "nv")
      · rfl
theorem g_is_formed (n : Nat) (v : W) (S : Sto) (h : gdW v = true) : CC (callT T (n + 2)) i_is_formed [.val v] S (.val (.bl (formed v))) [some (.val v)] S := by
  cases v with
  | tup l =>
    cases l with
    | nil => exact f_formed_nil n S
    | cons a r =>
      cases a with
      | str z => exact f_formed_str n z r S h
      | _ => exact f_formed_ns n _ r S h rfl
  | _ => first
    | exact f_formed_nt n _ S rfl
    | (simp only [gdW] at h; cases h)
end K05

namespace K05
open PySem PySem.Spec PyProof.Rows L2 NV
local macro_rules | `(tactic| walk_at "nv") => `(tactic| first
  | assumption
  | exact E_cst | exact AA_nil | exact RR_nil | exact O_nil | exact S_nil | exact SF_rt | exact E_gc | exact E_edict | exact FL_nil
  | exact A_pk rfl | apply A_v (hm := rfl) | apply AA_cons | apply RR_cons | apply O_some (hm := rfl)
  | apply S_seq | apply SF_nx | apply S_asg | apply S_ite | apply S_ret | exact S_mvv rfl | exact S_mvo rfl | apply S_put | apply S_par | apply S_expr | apply S_tgt | apply S_forr
  | apply E_op2 | apply E_bi | apply E_me | apply E_isi | apply E_not | apply E_ite | apply E_and | apply E_or | apply E_tup | apply E_lst | apply E_sl | apply E_call | apply E_nm | apply E_neg | apply E_mut | apply E_heap | apply I_rng | apply E_chain
  | apply SB_t (hb := by first | rfl | assumption | (rw [Bool.not_eq_true']; assumption) | (rw [Bool.not_eq_false']; assumption)) | apply SB_f (hb := by first | rfl | assumption | (rw [Bool.not_eq_true']; assumption) | (rw [Bool.not_eq_false']; assumption)) | apply EB_t (hb := by first | rfl | assumption | (rw [Bool.not_eq_true']; assumption) | (rw [Bool.not_eq_false']; assumption)) | apply EB_f (hb := by first | rfl | assumption | (rw [Bool.not_eq_true']; assumption) | (rw [Bool.not_eq_false']; assumption)) | apply CH_t (hb := by first | rfl | assumption | (rw [Bool.not_eq_true']; assumption) | (rw [Bool.not_eq_false']; assumption)) | exact CH_f (hb := by first | rfl | assumption | (rw [Bool.not_eq_true']; assumption) | (rw [Bool.not_eq_false']; assumption))
  | exact p_add | exact p_sub | exact ⟨rfl⟩ | exact List.Pairwise.nil | exact List.pairwise_singleton .. | rfl | decide)
mutual
def isF : W → Bool
  | .tup l => isFl l
  | _ => false
def isFl : List W → Bool
  | .str h :: r => formed (.tup (.str h :: r)) && (if isBE h then isFs r else true)
  | _ => false
def isFs : List W → Bool
  | [] => true
  | a :: r => isF a && isFs r
end
mutual
def sizeF : W → Nat
  | .tup l => sizeFl l
  | _ => 1
def sizeFl : List W → Nat
  | .str h :: r => 1 + (if isBE h then sizeFs r else 0)
  | _ => 1
def sizeFs : List W → Nat
  | [] => 0
  | a :: r => sizeF a + sizeFs r
end
mutual
def depthF : W → Nat
  | .tup l => depthFl l
  | _ => 1
def depthFl : List W → Nat
  | .str h :: r => 1 + (if isBE h then depthFs r else 0)
  | _ => 1
def depthFs : List W → Nat
  | [] => 0
  | a :: r => max (depthF a) (depthFs r)
end
/-- what stands within -/
def innerW : W → List W
  | .tup (.str h :: r) => if isBE h then r else []
  | _ => []
/-- an item of the stack -/
def item (v : W) (d : Int) : W := .tup [v, .int d]
/-- the slots within is_formula_in -/
def dfsE (v0 : W) (st : List W) (m : Int) (xy : Option (W × W)) : NV.Env := match xy with
  | none => [some (.val v0), some (.own (false, st)), some (.val (.int m)), none, none, none]
  | some p => [some (.val v0), some (.own (false, st)), some (.val (.int m)), some (.val p.1), some (.val p.2), none]
theorem f_inner (n : Nat) (v : W) (S : Sto) (h : formed v = true) : CC (callT T (n + 1)) i_inner_of [.val v] S (.fresh (innerW v)) [some (.val v)] S := by
  cases v <;> first | (simp only [formed] at h; cases h; done) | skip
  rename_i l
  cases l with
  | nil => simp only [formed] at h; cases h
  | cons a r =>
    cases a <;> first | (simp only [formed] at h; cases h; done) | skip
    exact f_inner_of n _ r S
theorem dfs_lc (n : Nat) (v0 v : W) (st : List W) (m d : Int) (S : Sto) (hf : formed v = true) (hl : (innerW v).length ≤ 1000) :
    EV (callT T (n + 1)) (.lc [5] (.seq (.call 2 (.cons (.nm 3) .nil))) (.tnm 5) (.cst (.bl true)) (.tup (.cons (.nm 5) (.cons (.op2 (.bin .Add) (.pk 4) (.cst (.int 1))) .nil)))) (dfsE v0 st m (some (v, .int d))) S (.fresh ((innerW v).map fun w => item w (d + 1))) (dfsE v0 st m (some (v, .int d))) S := by
  have hc := f_inner n v S hf
  have hi : II (callT T (n + 1)) (.seq (.call 2 (.cons (.nm 3) .nil))) (dfsE v0 st m (some (v, .int d))) S (innerW v) (dfsE v0 st m (some (v, .int d))) S := by
    refine I_seq (r := .fresh (innerW v)) ?_ (.inl rfl)
    unfold dfsE
    repeat (walk_at "nv")
  have q := E_lcp (own := [5]) (tgt := .tnm 5) (cond := .cst (.bl true)) (elt := .tup (.cons (.nm 5) (.cons (.op2 (.bin .Add) (.pk 4) (.cst (.int 1))) .nil))) (P := fun _ => true) (g := fun w => item w (d + 1)) hi rfl (fun w hw => ?_) (Nat.le_trans hl line1000)
  · rw [List.filter_eq_self.mpr (fun _ _ => rfl)] at q
    exact q
  · refine ⟨[some (.val v0), some (.own (false, st)), some (.val (.int m)), some (.val v), some (.val (.int d)), some (.val w)], rfl, _, E_cst, fun _ => ⟨.val (item w (d + 1)), [some (.val v0), some (.own (false, st)), some (.val (.int m)), some (.val v), some (.val (.int d)), some (.val w)], ?_, rfl, rfl⟩, fun h => nomatch h⟩
    show EV _ _ _ _ (.val (.tup [w, .int (d + 1)])) _ _
    repeat (walk_at "nv")
def dfsB : MS := (.seq (.tgt (.ttup (.cons (.tnm 3) (.cons (.tnm 4) .nil))) (.mut .pop 1 .nil))
    (.seq (.asg 2 (.op2 (.bin .Add) (.pk 2) (.cst (.int 1))))
    (.seq (.ite (.or (.op2 (.cmp .Gt) (.pk 2) (.gc "MOST_FORMULAS" (.int 60))) (.or (.op2 (.cmp .Gt) (.pk 4) (.gc "MOST_WITHIN" (.int 20))) (.not (.call 3 (.cons (.nm 3) .nil))))) (.seq (.ret (.cst (.bl false)))
    .nil) .nil)
    (.seq (.expr (.mut .extend 1 (.cons (.lc [5] (.seq (.call 2 (.cons (.nm 3) .nil))) (.tnm 5) (.cst (.bl true)) (.tup (.cons (.nm 5) (.cons (.op2 (.bin .Add) (.pk 4) (.cst (.int 1))) .nil)))) .nil)))
    .nil))))
theorem dfs_go (n : Nat) (v0 v : W) (st : List W) (m d : Int) (xy : Option (W × W)) (S : Sto) (hv : gdW v = true) (hf : formed v = true) (hm : m + 1 ≤ 60) (hd : d ≤ 20) (hl : st.length + (innerW v).length ≤ 1000) :
    SS (callT T (n + 2)) dfsB (dfsE v0 (st ++ [item v d]) m xy) S .nx (dfsE v0 (st ++ (innerW v).map fun w => item w (d + 1)) (m + 1) (some (v, .int d))) S := by
  have h1 := g_is_formed n v S hv
  rw [hf] at h1
  have h2 := dfs_lc (n + 1) v0 v st (m + 1) d S hf (by omega)
  have h3 : ∀ ρ S, muE .pop (st ++ [item v d]) ρ S [] = some (item v d, st) := fun ρ S => mu_pop
  have h4 : ∀ ρ S, muE .extend st ρ S [.val (.lst ((innerW v).map fun w => item w (d + 1)))] = some (.non, st ++ (innerW v).map fun w => item w (d + 1)) := fun ρ S => mu_ext (by rw [List.length_map]; exact Nat.le_trans hl line1000)
  have d1 : decide ((60 : Int) < m + 1) = false := decide_eq_false (by omega)
  have d2 : decide ((20 : Int) < d) = false := decide_eq_false (by omega)
  unfold dfsB
  cases xy <;> unfold dfsE <;> unfold dfsE at h2 <;> repeat (first | exact h3 _ _ | exact h4 _ _ | walk_at "nv")
theorem dfs_no (n : Nat) (v0 v : W) (st : List W) (m d : Int) (xy : Option (W × W)) (S : Sto) (hv : gdW v = true) (h : 60 < m + 1 ∨ 20 < d ∨ formed v = false) :
    ∃ ρ', SS (callT T (n + 2)) dfsB (dfsE v0 (st ++ [item v d]) m xy) S (.rt (.val (.bl false))) ρ' S := by
  have h1 := g_is_formed n v S hv
  have h3 : ∀ ρ S, muE .pop (st ++ [item v d]) ρ S [] = some (item v d, st) := fun ρ S => mu_pop
  unfold dfsB
  by_cases c1 : 60 < m + 1
  · have d1 : decide ((60 : Int) < m + 1) = true := decide_eq_true c1
    cases xy <;> unfold dfsE <;> apply Exists.intro <;> repeat (first | exact h3 _ _ | walk_at "nv")
  · have d1 : decide ((60 : Int) < m + 1) = false := decide_eq_false c1
    by_cases c2 : 20 < d
    · have d2 : decide ((20 : Int) < d) = true := decide_eq_true c2
      cases xy <;> unfold dfsE <;> apply Exists.intro <;> repeat (first | exact h3 _ _ | walk_at "nv")
    · have d2 : decide ((20 : Int) < d) = false := decide_eq_false c2
      have h5 : formed v = false := by
        rcases h with h | h | h
        · exact absurd h c1
        · exact absurd h c2
        · exact h
      rw [h5] at h1
      cases xy <;> unfold dfsE <;> apply Exists.intro <;> repeat (first | exact h3 _ _ | walk_at "nv")
end K05

namespace K05
open PySem PySem.Spec PyProof.Rows L2 NV
local macro_rules | `(tactic| walk_at "nv") => `(tactic| first
  | assumption
  | exact E_cst | exact AA_nil | exact RR_nil | exact O_nil | exact S_nil | exact SF_rt | exact E_gc | exact E_edict | exact FL_nil
  | exact A_pk rfl | apply A_v (hm := rfl) | apply AA_cons | apply RR_cons | apply O_some (hm := rfl)
  | apply S_seq | apply SF_nx | apply S_asg | apply S_ite | apply S_ret | exact S_mvv rfl | exact S_mvo rfl | apply S_put | apply S_par | apply S_expr | apply S_tgt | apply S_forr
  | apply E_op2 | apply E_bi | apply E_me | apply E_isi | apply E_not | apply E_ite | apply E_and | apply E_or | apply E_tup | apply E_lst | apply E_sl | apply E_call | apply E_nm | apply E_neg | apply E_mut | apply E_heap | apply I_rng | apply E_chain
  | apply SB_t (hb := by first | rfl | assumption | (rw [Bool.not_eq_true']; assumption) | (rw [Bool.not_eq_false']; assumption)) | apply SB_f (hb := by first | rfl | assumption | (rw [Bool.not_eq_true']; assumption) | (rw [Bool.not_eq_false']; assumption)) | apply EB_t (hb := by first | rfl | assumption | (rw [Bool.not_eq_true']; assumption) | (rw [Bool.not_eq_false']; assumption)) | apply EB_f (hb := by first | rfl | assumption | (rw [Bool.not_eq_true']; assumption) | (rw [Bool.not_eq_false']; assumption)) | apply CH_t (hb := by first | rfl | assumption | (rw [Bool.not_eq_true']; assumption) | (rw [Bool.not_eq_false']; assumption)) | exact CH_f (hb := by first | rfl | assumption | (rw [Bool.not_eq_true']; assumption) | (rw [Bool.not_eq_false']; assumption))
  | exact p_add | exact p_sub | exact ⟨rfl⟩ | exact List.Pairwise.nil | exact List.pairwise_singleton .. | rfl | decide)
theorem step_F {v : W} (h : formed v = true) : isF v = isFs (innerW v) ∧ sizeF v = 1 + sizeFs (innerW v) ∧ depthF v = 1 + depthFs (innerW v) := by
  cases v <;> first | (simp only [formed] at h; cases h; done) | skip
  rename_i l
  cases l with
  | nil => simp only [formed] at h; cases h
  | cons a r =>
    cases a <;> first | (simp only [formed] at h; cases h; done) | skip
    rename_i z
    simp only [isF, isFl, sizeF, sizeFl, depthF, depthFl, innerW, h, Bool.true_and]
    cases isBE z <;> simp [isFs, sizeFs, depthFs]
theorem isF_formed {v : W} (h : isF v = true) : formed v = true := by
  cases v <;> first | (simp only [isF] at h; cases h; done) | skip
  rename_i l
  cases l with
  | nil => simp only [isF, isFl] at h; cases h
  | cons a r =>
    cases a <;> first | (simp only [isF, isFl] at h; cases h; done) | skip
    simp only [isF, isFl, Bool.and_eq_true] at h
    exact h.1
theorem size_pos : ∀ v : W, 1 ≤ sizeF v
  | .tup l => by
    unfold sizeF
    cases l with
    | nil => unfold sizeFl; omega
    | cons a r => cases a <;> unfold sizeFl <;> omega
  | .non | .bl _ | .int _ | .str _ | .lst _ | .dct _ _ | .flst _ | .fn _ | .ref _ | .exc _ _ => by unfold sizeF; omega
theorem depth_pos : ∀ v : W, 1 ≤ depthF v
  | .tup l => by
    unfold depthF
    cases l with
    | nil => unfold depthFl; omega
    | cons a r => cases a <;> unfold depthFl <;> omega
  | .non | .bl _ | .int _ | .str _ | .lst _ | .dct _ _ | .flst _ | .fn _ | .ref _ | .exc _ _ => by unfold depthF; omega
def okI (p : W × Int) : Bool := isF p.1 && decide (p.2 + depthF p.1 ≤ 21)
def sumS : List (W × Int) → Nat
  | [] => 0
  | p :: r => sizeF p.1 + sumS r
theorem sumS_app : ∀ {a b : List (W × Int)}, sumS (a ++ b) = sumS a + sumS b
  | [], b => by simp [sumS]
  | p :: a, b => by simp only [List.cons_append, sumS, sumS_app (a := a) (b := b)]; omega
theorem sumS_in {d : Int} : ∀ {l : List W}, sumS (l.map fun w => (w, d)) = sizeFs l
  | [] => rfl
  | a :: l => by simp only [List.map_cons, sumS, sizeFs, sumS_in (l := l)]
theorem okI_in {d : Int} : ∀ {l : List W}, d ≤ 21 → (l.map fun w => (w, d)).all okI = (isFs l && decide (d + depthFs l ≤ 21))
  | [], h => by simp [isFs, depthFs, h]
  | a :: l, h => by
    rw [List.map_cons, List.all_cons, okI_in h]
    have hM : depthFs (a :: l) = max (depthF a) (depthFs l) := by simp only [depthFs]
    rw [Bool.eq_iff_iff]
    simp only [okI, isFs, Bool.and_eq_true, decide_eq_true_eq]
    constructor
    · rintro ⟨⟨h1, h2⟩, h3, h4⟩; exact ⟨⟨h1, h3⟩, by omega⟩
    · rintro ⟨⟨h1, h3⟩, h4⟩; exact ⟨⟨h1, by omega⟩, h3, by omega⟩
def specD (st : List (W × Int)) (m : Int) : Bool := st.all okI && decide (m + sumS st ≤ 60)
theorem spec_no {st : List (W × Int)} {v : W} {m d : Int} (h : 60 < m + 1 ∨ 20 < d ∨ formed v = false) : specD (st ++ [(v, d)]) m = false := by
  unfold specD
  rw [Bool.eq_false_iff]
  intro z
  simp only [List.all_append, List.all_cons, List.all_nil, Bool.and_true, Bool.and_eq_true, decide_eq_true_eq, sumS_app, sumS, okI] at z
  have h1 := size_pos v
  have h2 := depth_pos v
  rcases h with h | h | h
  · omega
  · omega
  · rw [isF_formed z.1.2.1] at h; cases h
theorem spec_go {st : List (W × Int)} {v : W} {m d : Int} (hd : d ≤ 20) (hf : formed v = true) : specD (st ++ [(v, d)]) m = specD (st ++ (innerW v).map fun w => (w, d + 1)) (m + 1) := by
  obtain ⟨e1, e2, e3⟩ := step_F hf
  unfold specD
  rw [List.all_append, List.all_append, sumS_app, sumS_app, sumS_in, okI_in (by omega)]
  simp only [List.all_cons, List.all_nil, Bool.and_true, okI, sumS, e1, e2, e3]
  rw [Bool.eq_iff_iff]
  simp only [Bool.and_eq_true, decide_eq_true_eq]
  constructor
  · rintro ⟨⟨h1, h2, h3⟩, h4⟩; exact ⟨⟨h1, h2, by omega⟩, by omega⟩
  · rintro ⟨⟨h1, h2, h3⟩, h4⟩; exact ⟨⟨h1, h2, by omega⟩, by omega⟩
end K05

namespace K05
open PySem PySem.Spec PyProof.Rows L2 NV
local macro_rules | `(tactic| walk_at "nv") => `(tactic| first
  | assumption
  | exact E_cst | exact AA_nil | exact RR_nil | exact O_nil | exact S_nil | exact SF_rt | exact E_gc | exact E_edict | exact FL_nil
  | exact A_pk rfl | apply A_v (hm := rfl) | apply AA_cons | apply RR_cons | apply O_some (hm := rfl)
  | apply S_seq | apply SF_nx | apply S_asg | apply S_ite | apply S_ret | exact S_mvv rfl | exact S_mvo rfl | apply S_put | apply S_par | apply S_expr | apply S_tgt | apply S_forr
  | apply E_op2 | apply E_bi | apply E_me | apply E_isi | apply E_not | apply E_ite | apply E_and | apply E_or | apply E_tup | apply E_lst | apply E_sl | apply E_call | apply E_nm | apply E_neg | apply E_mut | apply E_heap | apply I_rng | apply E_chain
  | apply SB_t (hb := by first | rfl | assumption | (rw [Bool.not_eq_true']; assumption) | (rw [Bool.not_eq_false']; assumption)) | apply SB_f (hb := by first | rfl | assumption | (rw [Bool.not_eq_true']; assumption) | (rw [Bool.not_eq_false']; assumption)) | apply EB_t (hb := by first | rfl | assumption | (rw [Bool.not_eq_true']; assumption) | (rw [Bool.not_eq_false']; assumption)) | apply EB_f (hb := by first | rfl | assumption | (rw [Bool.not_eq_true']; assumption) | (rw [Bool.not_eq_false']; assumption)) | apply CH_t (hb := by first | rfl | assumption | (rw [Bool.not_eq_true']; assumption) | (rw [Bool.not_eq_false']; assumption)) | exact CH_f (hb := by first | rfl | assumption | (rw [Bool.not_eq_true']; assumption) | (rw [Bool.not_eq_false']; assumption))
  | exact p_add | exact p_sub | exact ⟨rfl⟩ | exact List.Pairwise.nil | exact List.pairwise_singleton .. | rfl | decide)
theorem items_gd : ∀ {st : List (W × Int)}, (∀ p ∈ st, gdW p.1 = true) → gdWs (st.map fun p => item p.1 p.2) = true
  | [], _ => rfl
  | p :: st, h => by
    rw [List.map_cons]
    simp only [gdWs, item, gdW, Bool.and_eq_true]
    exact ⟨⟨by simp, h p (List.mem_cons_self ..), by simp⟩, items_gd fun q hq => h q (List.mem_cons_of_mem _ hq)⟩
theorem inner_gd {v : W} (h : gdW v = true) (hf : formed v = true) : (∀ w ∈ innerW v, gdW w = true) ∧ (innerW v).length ≤ 2 := by
  cases v <;> first | (simp only [formed] at hf; cases hf; done) | skip
  rename_i l
  cases l with
  | nil => simp only [formed] at hf; cases hf
  | cons a r =>
    cases a <;> first | (simp only [formed] at hf; cases hf; done) | skip
    rename_i z
    have hr : gdWs r = true := by
      simp only [gdW, gdWs, Bool.and_eq_true] at h
      exact h.2.2
    have all : ∀ {r : List W}, gdWs r = true → ∀ w ∈ r, gdW w = true := fun {r} => by
      induction r with
      | nil => intro _ w hw; cases hw
      | cons a r ih =>
        intro h w hw
        simp only [gdWs, Bool.and_eq_true] at h
        rcases List.mem_cons.mp hw with e | hw
        · rw [e]; exact h.1
        · exact ih h.2 w hw
    simp only [innerW]
    cases hb : isBE z with
    | false => simp
    | true =>
      rw [if_pos rfl]
      refine ⟨all hr, ?_⟩
      simp only [formed] at hf
      split at hf
      · rename_i hi
        exfalso
        unfold isIN at hi
        unfold isBE at hb
        simp only [Bool.or_eq_true, decide_eq_true_eq] at hi hb
        rcases hi with e | e <;> rcases hb with e2 | e2 <;> (rw [e] at e2; exact absurd e2 (by decide))
      · rw [Bool.and_eq_true, decide_eq_true_eq] at hf
        omega
theorem dfs_loop (n : Nat) (v0 : W) (S : Sto) : ∀ (fuel : Nat) (st : List (W × Int)) (m : Int) (xy : Option (W × W)), (∀ p ∈ st, gdW p.1 = true) → 0 ≤ m → m ≤ 60 → (st.length : Int) ≤ m + 1 → 61 ≤ fuel + m →
    ∃ f ρ', WL (callT T (n + 2)) (.op2 (.cmp .NotEq) (.pk 1) (.lst .nil)) dfsB fuel (dfsE v0 (st.map fun p => item p.1 p.2) m xy) S f ρ' S ∧ (specD st m = true → f = .nx) ∧ (specD st m = false → f = .rt (.val (.bl false)))
  | 0, st, m, xy, _, _, h2, _, h4 => by omega
  | fuel + 1, st, m, xy, hg, h1, h2, h3, h4 => by
    obtain ⟨xs, hx⟩ := gds_toD (items_gd hg)
    have hne := p_nenil hx
    rcases List.eq_nil_or_concat st with rfl | ⟨st0, p, rfl⟩
    · have hne : PO (.cmp .NotEq) (.lst []) (.lst []) (.val (.bl false)) := hne
      refine ⟨.nx, dfsE v0 [] m xy, ?_, fun _ => rfl, fun h => ?_⟩
      · apply W_stop
        cases xy <;> unfold dfsE <;> repeat (walk_at "nv")
      · exfalso
        have : specD [] m = true := by unfold specD; simp [sumS]; omega
        rw [this] at h; cases h
    · obtain ⟨v, d⟩ := p
      rw [List.concat_eq_append] at hg h3 hne ⊢
      rw [List.map_append] at hne ⊢
      have hv : gdW v = true := hg (v, d) (by simp)
      have hne : PO (.cmp .NotEq) (.lst (st0.map (fun p => item p.1 p.2) ++ [item v d])) (.lst []) (.val (.bl true)) := by
        have e : (st0.map (fun p => item p.1 p.2) ++ [(v, d)].map (fun p => item p.1 p.2)).isEmpty = false := by simp
        rw [e] at hne
        exact hne
      have ht : EV (callT T (n + 2)) (.op2 (.cmp .NotEq) (.pk 1) (.lst .nil)) (dfsE v0 (st0.map (fun p => item p.1 p.2) ++ [item v d]) m xy) S (.val (.bl true)) (dfsE v0 (st0.map (fun p => item p.1 p.2) ++ [item v d]) m xy) S := by
        cases xy <;> unfold dfsE <;> repeat (walk_at "nv")
      rw [List.length_append, List.length_singleton] at h3
      by_cases c : 60 < m + 1 ∨ 20 < d ∨ formed v = false
      · obtain ⟨ρ', hno⟩ := dfs_no n v0 v (st0.map fun p => item p.1 p.2) m d xy S hv c
        refine ⟨_, ρ', W_ret ht hno, fun h => ?_, fun _ => rfl⟩
        rw [spec_no c] at h; cases h
      · have c1 : m + 1 ≤ 60 := by omega
        have c2 : d ≤ 20 := by omega
        have c3 : formed v = true := by
          cases q : formed v with
          | true => rfl
          | false => exact absurd (.inr (.inr q)) c
        obtain ⟨ig, il⟩ := inner_gd hv c3
        have go := dfs_go n v0 v (st0.map fun p => item p.1 p.2) m d xy S hv c3 c1 c2 (by rw [List.length_map]; omega)
        obtain ⟨f, ρ', k1, k2, k3⟩ := dfs_loop n v0 S fuel (st0 ++ (innerW v).map fun w => (w, d + 1)) (m + 1) (some (v, .int d)) (fun p hp => by
          rcases List.mem_append.mp hp with hp | hp
          · exact hg p (List.mem_append_left _ hp)
          · obtain ⟨w, hw, rfl⟩ := List.mem_map.mp hp
            exact ig w hw) (by omega) c1 (by rw [List.length_append, List.length_map]; omega) (by omega)
        rw [List.map_append, List.map_map] at k1
        rw [spec_go c2 c3]
        exact ⟨f, ρ', W_go ht go k1, k2, k3⟩
end K05

namespace K05
open PySem PySem.Spec PyProof.Rows L2 NV
local macro_rules | `(tactic| walk_at "nv") => `(tactic| first
  | assumption
  | exact E_cst | exact AA_nil | exact RR_nil | exact O_nil | exact S_nil | exact SF_rt | exact E_gc | exact E_edict | exact FL_nil
  | exact A_pk rfl | apply A_v (hm := rfl) | apply AA_cons | apply RR_cons | apply O_some (hm := rfl)
  | apply S_seq | apply SF_nx | apply S_asg | apply S_ite | apply S_ret | exact S_mvv rfl | exact S_mvo rfl | apply S_put | apply S_par | apply S_expr | apply S_tgt | apply S_forr
  | apply E_op2 | apply E_bi | apply E_me | apply E_isi | apply E_not | apply E_ite | apply E_and | apply E_or | apply E_tup | apply E_lst | apply E_sl | apply E_call | apply E_nm | apply E_neg | apply E_mut | apply E_heap | apply I_rng | apply E_chain
  | apply SB_t (hb := by first | rfl | assumption | (rw [Bool.not_eq_true']; assumption) | (rw [Bool.not_eq_false']; assumption)) | apply SB_f (hb := by first | rfl | assumption | (rw [Bool.not_eq_true']; assumption) | (rw [Bool.not_eq_false']; assumption)) | apply EB_t (hb := by first | rfl | assumption | (rw [Bool.not_eq_true']; assumption) | (rw [Bool.not_eq_false']; assumption)) | apply EB_f (hb := by first | rfl | assumption | (rw [Bool.not_eq_true']; assumption) | (rw [Bool.not_eq_false']; assumption)) | apply CH_t (hb := by first | rfl | assumption | (rw [Bool.not_eq_true']; assumption) | (rw [Bool.not_eq_false']; assumption)) | exact CH_f (hb := by first | rfl | assumption | (rw [Bool.not_eq_true']; assumption) | (rw [Bool.not_eq_false']; assumption))
  | exact p_add | exact p_sub | exact ⟨rfl⟩ | exact List.Pairwise.nil | exact List.pairwise_singleton .. | rfl | decide)
/-- a formula of the bounds -/
def isFm (v : W) : Bool := isF v && (decide (depthF v ≤ 20) && decide (sizeF v ≤ 60))
theorem specD_one (v : W) : specD [(v, 1)] 0 = isFm v := by
  unfold specD isFm
  have e : sumS [(v, 1)] = sizeF v := by simp [sumS]
  rw [e, List.all_cons, List.all_nil, Bool.and_true]
  simp only [okI]
  rw [Bool.eq_iff_iff]
  simp only [Bool.and_eq_true, decide_eq_true_eq]
  constructor
  · rintro ⟨⟨h1, h2⟩, h3⟩; exact ⟨h1, by omega, by omega⟩
  · rintro ⟨h1, h2, h3⟩; exact ⟨⟨h1, by omega⟩, by omega⟩
theorem g_is_formula_in (n : Nat) (v : W) (S : Sto) (h : gdW v = true) : CC (callT T (n + 3)) i_is_formula_in [.val v] S (.val (.bl (isFm v))) [some (.val v)] S := by
  obtain ⟨f, ρ', k1, k2, k3⟩ := dfs_loop n v S 4096 [(v, 1)] 0 none (fun p hp => by rw [List.mem_singleton] at hp; rw [hp]; exact h) (by omega) (by omega) (by simp) (by omega)
  rw [specD_one] at k2 k3
  have k1 : WL (callT T (n + 2)) (.op2 (.cmp .NotEq) (.pk 1) (.lst .nil)) dfsB 4096 [some (.val v), some (.own (false, [.tup [v, .int 1]])), some (.val (.int 0)), none, none, none] S f ρ' S := k1
  cases hb : isFm v with
  | true =>
    rw [k2 hb] at k1
    have hw := S_whl k1
    apply run_rt (hD := rfl) (hl := rfl)
    · show SS _ m_is_formula_in [some (.val v), none, none, none, none, none] _ _ _ _
      repeat (walk_at "nv")
    · cases ρ' <;> rfl
  | false =>
    rw [k3 hb] at k1
    have hw := S_whl k1
    apply run_rt (hD := rfl) (hl := rfl)
    · show SS _ m_is_formula_in [some (.val v), none, none, none, none, none] _ _ _ _
      repeat (walk_at "nv")
    · cases ρ' <;> rfl
end K05

namespace K05
open PySem PySem.Spec PyProof.Rows L2 NV
local macro_rules | `(tactic| walk_at "nv") => `(tactic| first
  | assumption
  | exact E_cst | exact AA_nil | exact RR_nil | exact O_nil | exact S_nil | exact SF_rt | exact E_gc | exact E_edict | exact FL_nil
  | exact A_pk rfl | apply A_v (hm := rfl) | apply AA_cons | apply RR_cons | apply O_some (hm := rfl)
  | apply S_seq | apply SF_nx | apply S_asg | apply S_ite | apply S_ret | exact S_mvv rfl | exact S_mvo rfl | apply S_put | apply S_par | apply S_expr | apply S_tgt | apply S_forr
  | apply E_op2 | apply E_bi | apply E_me | apply E_isi | apply E_not | apply E_ite | apply E_and | apply E_or | apply E_tup | apply E_lst | apply E_sl | apply E_call | apply E_nm | apply E_neg | apply E_mut | apply E_heap | apply I_rng | apply E_chain
  | apply SB_t (hb := by first | rfl | assumption | (rw [Bool.not_eq_true']; assumption) | (rw [Bool.not_eq_false']; assumption)) | apply SB_f (hb := by first | rfl | assumption | (rw [Bool.not_eq_true']; assumption) | (rw [Bool.not_eq_false']; assumption)) | apply EB_t (hb := by first | rfl | assumption | (rw [Bool.not_eq_true']; assumption) | (rw [Bool.not_eq_false']; assumption)) | apply EB_f (hb := by first | rfl | assumption | (rw [Bool.not_eq_true']; assumption) | (rw [Bool.not_eq_false']; assumption)) | apply CH_t (hb := by first | rfl | assumption | (rw [Bool.not_eq_true']; assumption) | (rw [Bool.not_eq_false']; assumption)) | exact CH_f (hb := by first | rfl | assumption | (rw [Bool.not_eq_true']; assumption) | (rw [Bool.not_eq_false']; assumption))
  | exact p_add | exact p_sub | exact ⟨rfl⟩ | exact List.Pairwise.nil | exact List.pairwise_singleton .. | rfl | decide)
theorem g_check (n : Nat) (v : W) (S : Sto) (h : gdW v = true) (hf : isFm v = true) : CC (callT T (n + 4)) i_check_formula [.val v] S (.val .non) [some (.val v)] S := by
  have h1 := g_is_formula_in n v S h
  rw [hf] at h1
  apply run_nx (hD := rfl) (hl := rfl)
  · show SS _ m_check_formula [some (.val v)] _ _ _ _
    repeat (walk_at "nv")
  · rfl
end K05

namespace K05
open PySem PySem.Spec PyProof.Rows L2 NV
local macro_rules | `(tactic| walk_at "nv") => `(tactic| first
  | assumption
  | exact E_cst | exact AA_nil | exact RR_nil | exact O_nil | exact S_nil | exact SF_rt | exact E_gc | exact E_edict | exact FL_nil
  | exact A_pk rfl | apply A_v (hm := rfl) | apply AA_cons | apply RR_cons | apply O_some (hm := rfl)
  | apply S_seq | apply SF_nx | apply S_asg | apply S_ite | apply S_ret | exact S_mvv rfl | exact S_mvo rfl | apply S_put | apply S_par | apply S_expr | apply S_tgt | apply S_forr
  | apply E_op2 | apply E_bi | apply E_me | apply E_isi | apply E_not | apply E_ite | apply E_and | apply E_or | apply E_tup | apply E_lst | apply E_sl | apply E_call | apply E_nm | apply E_neg | apply E_mut | apply E_heap | apply I_rng | apply E_chain
  | apply SB_t (hb := by first | rfl | assumption | (rw [Bool.not_eq_true']; assumption) | (rw [Bool.not_eq_false']; assumption)) | apply SB_f (hb := by first | rfl | assumption | (rw [Bool.not_eq_true']; assumption) | (rw [Bool.not_eq_false']; assumption)) | apply EB_t (hb := by first | rfl | assumption | (rw [Bool.not_eq_true']; assumption) | (rw [Bool.not_eq_false']; assumption)) | apply EB_f (hb := by first | rfl | assumption | (rw [Bool.not_eq_true']; assumption) | (rw [Bool.not_eq_false']; assumption)) | apply CH_t (hb := by first | rfl | assumption | (rw [Bool.not_eq_true']; assumption) | (rw [Bool.not_eq_false']; assumption)) | exact CH_f (hb := by first | rfl | assumption | (rw [Bool.not_eq_true']; assumption) | (rw [Bool.not_eq_false']; assumption))
  | exact p_add | exact p_sub | exact ⟨rfl⟩ | exact List.Pairwise.nil | exact List.pairwise_singleton .. | rfl | decide)
def Fm.turn : Fm → Fm
  | .lit neg z => .lit (!neg) z
  | .bin e a b => .bin (!e) a.turn b.turn
theorem Fm.turn_turn : ∀ F : Fm, F.turn.turn = F
  | .lit neg z => by simp [Fm.turn]
  | .bin e a b => by simp [Fm.turn, Fm.turn_turn a, Fm.turn_turn b]
theorem Fm.turn_ok : ∀ {F : Fm}, F.ok → F.turn.ok
  | .lit _ _, h => h
  | .bin _ _ _, h => ⟨Fm.turn_ok h.1, Fm.turn_ok h.2⟩
theorem Fm.turn_depth : ∀ F : Fm, F.turn.depth = F.depth
  | .lit _ _ => rfl
  | .bin _ a b => by simp only [Fm.turn, Fm.depth, Fm.turn_depth a, Fm.turn_depth b]
theorem Fm.depth_pos : ∀ F : Fm, 1 ≤ F.depth
  | .lit _ _ => Nat.le_refl _
  | .bin _ _ _ => by simp only [Fm.depth]; omega
theorem f_turned_lit (n : Nat) (neg : Bool) (z : Str) (S : Sto) : CC (callT T (n + 1)) i_turned_in [.val (Fm.w (.lit neg z))] S (.val (Fm.w (.lit (!neg) z))) [some (.val (Fm.w (.lit neg z)))] S := by
  cases neg with
  | false =>
    have h1 : PO .ix (.tup [.str "is", .str z]) (.int 0) (.val (.str "is")) := p_ixt rfl
    have h2 : PO .ix (.tup [.str "is", .str z]) (.int 1) (.val (.str z)) := p_ixt rfl
    have h3 : PO (.cmp .In) (.str "is") (.tup [.str "is", .str "not"]) (.val (.bl true)) := p_in2
    have h4 : pIx (.dct [.str "is", .str "not", .str "both", .str "either"] [.str "not", .str "is", .str "either", .str "both"]) (.str "is") = some (.str "not") := by kernel_rfl
    show CC _ _ [.val (.tup [.str "is", .str z])] _ (.val (.tup [.str "not", .str z])) _ _
    apply run_rt (hD := rfl) (hl := rfl)
    · show SS _ m_turned_in [some (.val (.tup [.str "is", .str z])), none] _ _ _ _
      repeat (first | walk_at "nv" | apply E_gd)
    · rfl
  | true =>
    have h1 : PO .ix (.tup [.str "not", .str z]) (.int 0) (.val (.str "not")) := p_ixt rfl
    have h2 : PO .ix (.tup [.str "not", .str z]) (.int 1) (.val (.str z)) := p_ixt rfl
    have h3 : PO (.cmp .In) (.str "not") (.tup [.str "is", .str "not"]) (.val (.bl true)) := p_in2
    have h4 : pIx (.dct [.str "is", .str "not", .str "both", .str "either"] [.str "not", .str "is", .str "either", .str "both"]) (.str "not") = some (.str "is") := by kernel_rfl
    show CC _ _ [.val (.tup [.str "not", .str z])] _ (.val (.tup [.str "is", .str z])) _ _
    apply run_rt (hD := rfl) (hl := rfl)
    · show SS _ m_turned_in [some (.val (.tup [.str "not", .str z])), none] _ _ _ _
      repeat (first | walk_at "nv" | apply E_gd)
    · rfl
/-- turned, as values -/
def flipW : W → W
  | .str h => if h = "is" then .str "not" else if h = "not" then .str "is" else if h = "both" then .str "either" else .str "both"
  | w => w
def turnW : W → W
  | .tup [h, x] => .tup [flipW h, x]
  | .tup [h, x, y] => .tup [flipW h, turnW x, turnW y]
  | w => w
theorem turnW_eq : ∀ F : Fm, turnW F.w = F.turn.w
  | .lit neg z => by cases neg <;> simp [Fm.w, Fm.turn, turnW, flipW] <;> decide
  | .bin e a b => by
    have h1 := turnW_eq a
    have h2 := turnW_eq b
    cases e <;> simp only [Fm.w, Fm.turn, turnW, h1, h2] <;> rfl
end K05

namespace K05
open PySem PySem.Spec PyProof.Rows L2 NV
local macro_rules | `(tactic| walk_at "nv") => `(tactic| first
  | assumption
  | exact E_cst | exact AA_nil | exact RR_nil | exact O_nil | exact S_nil | exact SF_rt | exact E_gc | exact E_edict | exact FL_nil
  | exact A_pk rfl | apply A_v (hm := rfl) | apply AA_cons | apply RR_cons | apply O_some (hm := rfl)
  | apply S_seq | apply SF_nx | apply S_asg | apply S_ite | apply S_ret | exact S_mvv rfl | exact S_mvo rfl | apply S_put | apply S_par | apply S_expr | apply S_tgt | apply S_forr
  | apply E_op2 | apply E_bi | apply E_me | apply E_isi | apply E_not | apply E_ite | apply E_and | apply E_or | apply E_tup | apply E_lst | apply E_sl | apply E_call | apply E_nm | apply E_neg | apply E_mut | apply E_heap | apply I_rng | apply E_chain
  | apply SB_t (hb := by first | rfl | assumption | (rw [Bool.not_eq_true']; assumption) | (rw [Bool.not_eq_false']; assumption)) | apply SB_f (hb := by first | rfl | assumption | (rw [Bool.not_eq_true']; assumption) | (rw [Bool.not_eq_false']; assumption)) | apply EB_t (hb := by first | rfl | assumption | (rw [Bool.not_eq_true']; assumption) | (rw [Bool.not_eq_false']; assumption)) | apply EB_f (hb := by first | rfl | assumption | (rw [Bool.not_eq_true']; assumption) | (rw [Bool.not_eq_false']; assumption)) | apply CH_t (hb := by first | rfl | assumption | (rw [Bool.not_eq_true']; assumption) | (rw [Bool.not_eq_false']; assumption)) | exact CH_f (hb := by first | rfl | assumption | (rw [Bool.not_eq_true']; assumption) | (rw [Bool.not_eq_false']; assumption))
  | exact p_add | exact p_sub | exact ⟨rfl⟩ | exact List.Pairwise.nil | exact List.pairwise_singleton .. | rfl | decide)
theorem f_turned_bin (n : Nat) (e : Bool) (A B : Fm) (S : Sto) (hA : CC (callT T n) i_turned_in [.val A.w] S (.val A.turn.w) [some (.val A.w)] S) (hB : CC (callT T n) i_turned_in [.val B.w] S (.val B.turn.w) [some (.val B.w)] S) :
    CC (callT T (n + 1)) i_turned_in [.val (Fm.w (.bin e A B))] S (.val (Fm.w (.bin (!e) A.turn B.turn))) [some (.val (Fm.w (.bin e A B)))] S := by
  have hw : ∀ h : Str, EV (callT T n) (.lc [1] (.seq (.sl (.pk 0) (.cst (.int 1)) .nil)) (.tnm 1) (.cst (.bl true)) (.call 6 (.cons (.nm 1) .nil))) [some (.val (.tup [.str h, A.w, B.w])), none] S (.fresh [A.turn.w, B.turn.w]) [some (.val (.tup [.str h, A.w, B.w])), none] S := fun h => by
    have h1 := p_tail (a := .str h) (r := [A.w, B.w])
    have hi : II (callT T n) (.seq (.sl (.pk 0) (.cst (.int 1)) .nil)) [some (.val (.tup [.str h, A.w, B.w])), none] S [A.w, B.w] [some (.val (.tup [.str h, A.w, B.w])), none] S := by
      refine I_seq (r := .val (.tup [A.w, B.w])) ?_ (.inr (.inr rfl))
      repeat (walk_at "nv")
    have q := E_lcp (own := [1]) (tgt := .tnm 1) (cond := .cst (.bl true)) (elt := .call 6 (.cons (.nm 1) .nil)) (P := fun _ => true) (g := turnW) hi rfl (fun w hw => ?_) (by show 2 ≤ _; have := line1000; omega)
    · rw [List.filter_eq_self.mpr (fun _ _ => rfl)] at q
      have : [A.w, B.w].map turnW = [A.turn.w, B.turn.w] := by simp [turnW_eq]
      rw [this] at q
      exact q
    · have hc : CC (callT T n) i_turned_in [.val w] S (.val (turnW w)) [some (.val w)] S := by
        simp only [List.mem_cons, List.not_mem_nil, or_false] at hw
        rcases hw with rfl | rfl
        · rw [turnW_eq]; exact hA
        · rw [turnW_eq]; exact hB
      refine ⟨[some (.val (.tup [.str h, A.w, B.w])), some (.val w)], rfl, _, E_cst, fun _ => ⟨.val (turnW w), [some (.val (.tup [.str h, A.w, B.w])), some (.val w)], ?_, rfl, rfl⟩, fun h => nomatch h⟩
      repeat (walk_at "nv")
  cases e with
  | false =>
    have q := hw "both"
    have h1 : PO .ix (.tup [.str "both", A.w, B.w]) (.int 0) (.val (.str "both")) := p_ixt rfl
    have h3 : PO (.cmp .In) (.str "both") (.tup [.str "is", .str "not"]) (.val (.bl false)) := p_in2
    have h4 : pIx (.dct [.str "is", .str "not", .str "both", .str "either"] [.str "not", .str "is", .str "either", .str "both"]) (.str "both") = some (.str "either") := by kernel_rfl
    show CC _ _ [.val (.tup [.str "both", A.w, B.w])] _ (.val (.tup [.str "either", A.turn.w, B.turn.w])) _ _
    apply run_rt (hD := rfl) (hl := rfl)
    · show SS _ m_turned_in [some (.val (.tup [.str "both", A.w, B.w])), none] _ _ _ _
      repeat (first | walk_at "nv" | apply E_gd)
    · rfl
  | true =>
    have q := hw "either"
    have h1 : PO .ix (.tup [.str "either", A.w, B.w]) (.int 0) (.val (.str "either")) := p_ixt rfl
    have h3 : PO (.cmp .In) (.str "either") (.tup [.str "is", .str "not"]) (.val (.bl false)) := p_in2
    have h4 : pIx (.dct [.str "is", .str "not", .str "both", .str "either"] [.str "not", .str "is", .str "either", .str "both"]) (.str "either") = some (.str "both") := by kernel_rfl
    show CC _ _ [.val (.tup [.str "either", A.w, B.w])] _ (.val (.tup [.str "both", A.turn.w, B.turn.w])) _ _
    apply run_rt (hD := rfl) (hl := rfl)
    · show SS _ m_turned_in [some (.val (.tup [.str "either", A.w, B.w])), none] _ _ _ _
      repeat (first | walk_at "nv" | apply E_gd)
    · rfl
end K05

namespace K05
open PySem PySem.Spec PyProof.Rows L2 NV
local macro_rules | `(tactic| walk_at "nv") => `(tactic| first
  | assumption
  | exact E_cst | exact AA_nil | exact RR_nil | exact O_nil | exact S_nil | exact SF_rt | exact E_gc | exact E_edict | exact FL_nil
  | exact A_pk rfl | apply A_v (hm := rfl) | apply AA_cons | apply RR_cons | apply O_some (hm := rfl)
  | apply S_seq | apply SF_nx | apply S_asg | apply S_ite | apply S_ret | exact S_mvv rfl | exact S_mvo rfl | apply S_put | apply S_par | apply S_expr | apply S_tgt | apply S_forr
  | apply E_op2 | apply E_bi | apply E_me | apply E_isi | apply E_not | apply E_ite | apply E_and | apply E_or | apply E_tup | apply E_lst | apply E_sl | apply E_call | apply E_nm | apply E_neg | apply E_mut | apply E_heap | apply I_rng | apply E_chain
  | apply SB_t (hb := by first | rfl | assumption | (rw [Bool.not_eq_true']; assumption) | (rw [Bool.not_eq_false']; assumption)) | apply SB_f (hb := by first | rfl | assumption | (rw [Bool.not_eq_true']; assumption) | (rw [Bool.not_eq_false']; assumption)) | apply EB_t (hb := by first | rfl | assumption | (rw [Bool.not_eq_true']; assumption) | (rw [Bool.not_eq_false']; assumption)) | apply EB_f (hb := by first | rfl | assumption | (rw [Bool.not_eq_true']; assumption) | (rw [Bool.not_eq_false']; assumption)) | apply CH_t (hb := by first | rfl | assumption | (rw [Bool.not_eq_true']; assumption) | (rw [Bool.not_eq_false']; assumption)) | exact CH_f (hb := by first | rfl | assumption | (rw [Bool.not_eq_true']; assumption) | (rw [Bool.not_eq_false']; assumption))
  | exact p_add | exact p_sub | exact ⟨rfl⟩ | exact List.Pairwise.nil | exact List.pairwise_singleton .. | rfl | decide)
theorem g_turned_in (S : Sto) : ∀ (F : Fm) (n : Nat), F.depth ≤ n → CC (callT T n) i_turned_in [.val F.w] S (.val F.turn.w) [some (.val F.w)] S
  | .lit neg z, n, h => by
    obtain ⟨m, rfl⟩ : ∃ m, n = m + 1 := ⟨n - 1, by have h : 1 ≤ n := h; omega⟩
    exact f_turned_lit m neg z S
  | .bin e A B, n, h => by
    have h : 1 + max A.depth B.depth ≤ n := h
    obtain ⟨m, rfl⟩ : ∃ m, n = m + 1 := ⟨n - 1, by omega⟩
    exact f_turned_bin m e A B S (g_turned_in S A m (by omega)) (g_turned_in S B m (by omega))
theorem word_pqr {z : Str} (h : z = "p" ∨ z = "q" ∨ z = "r2") : wordS z = true ∧ z.length ≤ 1000 := by
  rcases h with rfl | rfl | rfl <;> exact ⟨by decide +kernel, by decide +kernel⟩
theorem Fm.gd : ∀ {F : Fm}, F.ok → gdW F.w = true
  | .lit neg z, h => by
    have := word_pqr h
    cases neg <;> simp only [Fm.w, gdW, gdWs, Bool.and_true, Bool.and_eq_true, decide_eq_true_eq] <;> exact ⟨by simp, by decide +kernel, this.2⟩
  | .bin e A B, h => by
    have hA := Fm.gd h.1
    have hB := Fm.gd h.2
    cases e <;> simp only [Fm.w, gdW, gdWs, hA, hB, Bool.and_true, Bool.and_eq_true, decide_eq_true_eq] <;> exact ⟨by simp, by decide +kernel⟩
theorem Fm.facts : ∀ {F : Fm}, F.ok → isF F.w = true ∧ sizeF F.w = F.size ∧ depthF F.w = F.depth
  | .lit neg z, h => by
    have hw := (word_pqr h).1
    have h1 : isIN (if neg then "not" else "is") = true := by cases neg <;> decide +kernel
    have h2 : isBE (if neg then "not" else "is") = false := by cases neg <;> decide +kernel
    simp only [Fm.w, isF, isFl, sizeF, sizeFl, depthF, depthFl, formed, h1, h2, if_true, oneWord, wordW, hw]
    exact ⟨rfl, rfl, rfl⟩
  | .bin e A B, h => by
    obtain ⟨a1, a2, a3⟩ := Fm.facts h.1
    obtain ⟨b1, b2, b3⟩ := Fm.facts h.2
    have h1 : isIN (if e then "either" else "both") = false := by cases e <;> decide +kernel
    have h2 : isBE (if e then "either" else "both") = true := by cases e <;> decide +kernel
    simp only [Fm.w, isF, isFl, sizeF, sizeFl, depthF, depthFl, formed, h1, h2, if_true, isFs, sizeFs, depthFs, a1, a2, a3, b1, b2, b3, Fm.size, Fm.depth]
    refine ⟨rfl, by omega, by omega⟩
theorem Fm.isFm {F : Fm} (h : F.ok) (hd : F.depth ≤ 20) (hs : F.size ≤ 60) : isFm F.w = true := by
  obtain ⟨h1, h2, h3⟩ := Fm.facts h
  unfold K05.isFm
  rw [h1, h2, h3, decide_eq_true hd, decide_eq_true hs]; rfl
end K05

namespace NV
open PySem PySem.Spec PyProof.Rows L2
theorem p_eqstr {a b : Str} : PO (.cmp .Eq) (.str a) (.str b) (.val (.bl (decide (a = b)))) := by
  constructor
  have e3 : dOk (.str b) = true := rfl
  have e4 : dOk (.str a) = true := rfl
  simp only [pOp2, pCmp, wEq, W.toD, e3, e4, Bool.true_or, if_true, Option.map_some, eqv_str]
theorem p_nestr {a b : Str} : PO (.cmp .NotEq) (.str a) (.str b) (.val (.bl (!decide (a = b)))) := by
  constructor
  have e3 : dOk (.str b) = true := rfl
  have e4 : dOk (.str a) = true := rfl
  simp only [pOp2, pCmp, wEq, W.toD, e3, e4, Bool.true_or, if_true, Option.map_some, eqv_str]
section
variable {cf : CallF} {ρ ρ1 : Env} {S S1 : Sto} {a : M} {ws : List W}
theorem I_fr (h : EV cf a ρ S (.fresh ws) ρ1 S1) : II cf (.seq a) ρ S ws ρ1 S1 := I_seq h (.inl rfl)
theorem I_ls (h : EV cf a ρ S (.val (.lst ws)) ρ1 S1) : II cf (.seq a) ρ S ws ρ1 S1 := I_seq h (.inl rfl)
theorem I_tp (h : EV cf a ρ S (.val (.tup ws)) ρ1 S1) : II cf (.seq a) ρ S ws ρ1 S1 := I_seq h (.inr (.inr rfl))
end
section
variable {cf : CallF} {sa : MS} {t : W → Env → Option Env}
/-- a loop that ends -/
theorem FL_inv {Inv : List W → Env → Sto → Prop} (step : ∀ w ws ρ S, Inv (w :: ws) ρ S → ∃ ρ1 ρ2 S2, t w ρ = some ρ1 ∧ SS cf sa ρ1 S .nx ρ2 S2 ∧ Inv ws ρ2 S2) :
    ∀ ws ρ S, Inv ws ρ S → ∃ ρ' S', FL t cf sa ws ρ S .nx ρ' S' ∧ Inv [] ρ' S'
  | [], ρ, S, h => ⟨ρ, S, FL_nil, h⟩
  | w :: ws, ρ, S, h => by
    obtain ⟨ρ1, ρ2, S2, h1, h2, h3⟩ := step w ws ρ S h
    obtain ⟨ρ', S', h4, h5⟩ := FL_inv step ws ρ2 S2 h3
    exact ⟨ρ', S', FL_cons h1 h2 h4, h5⟩
end
end NV
namespace K05
open PySem PySem.Spec PyProof.Rows L2 NV
local macro_rules | `(tactic| walk_at "nv") => `(tactic| first
  | assumption
  | exact E_cst | exact AA_nil | exact RR_nil | exact O_nil | exact S_nil | exact SF_rt | exact E_gc | exact E_edict | exact FL_nil
  | exact A_pk rfl | apply A_v (hm := rfl) | apply AA_cons | apply RR_cons | apply O_some (hm := rfl)
  | apply S_seq | apply SF_nx | apply S_asg | apply S_ite | apply S_ret | exact S_mvv rfl | exact S_mvo rfl | apply S_put | apply S_par | apply S_expr | apply S_tgt | apply S_forr
  | apply E_op2 | apply E_bi | apply E_me | apply E_isi | apply E_not | apply E_ite | apply E_and | apply E_or | apply E_tup | apply E_lst | apply E_sl | apply E_call | apply E_nm | apply E_neg | apply E_mut | apply E_heap | apply I_rng | apply E_chain
  | apply SB_t (hb := by first | rfl | assumption | (rw [Bool.not_eq_true']; assumption) | (rw [Bool.not_eq_false']; assumption)) | apply SB_f (hb := by first | rfl | assumption | (rw [Bool.not_eq_true']; assumption) | (rw [Bool.not_eq_false']; assumption)) | apply EB_t (hb := by first | rfl | assumption | (rw [Bool.not_eq_true']; assumption) | (rw [Bool.not_eq_false']; assumption)) | apply EB_f (hb := by first | rfl | assumption | (rw [Bool.not_eq_true']; assumption) | (rw [Bool.not_eq_false']; assumption)) | apply CH_t (hb := by first | rfl | assumption | (rw [Bool.not_eq_true']; assumption) | (rw [Bool.not_eq_false']; assumption)) | exact CH_f (hb := by first | rfl | assumption | (rw [Bool.not_eq_true']; assumption) | (rw [Bool.not_eq_false']; assumption))
  | exact p_add | exact p_sub | exact ⟨rfl⟩ | exact List.Pairwise.nil | exact List.pairwise_singleton .. | rfl | decide)
def Fm.parts : Fm → List W
  | .lit neg z => [Fm.w (.lit neg z)]
  | .bin e A B => Fm.w (.bin e A B) :: (A.parts ++ B.parts)
theorem Fm.parts_len : ∀ F : Fm, F.parts.length = F.size
  | .lit _ _ => rfl
  | .bin _ A B => by simp only [Fm.parts, Fm.size, List.length_cons, List.length_append, Fm.parts_len A, Fm.parts_len B]; omega
theorem p_addl {a b : List W} (h : a.length + b.length ≤ 1000) : PO (.bin .Add) (.lst a) (.lst b) (.fresh (a ++ b)) := ⟨by
  have : szOk (a.length + b.length) = true := decide_eq_true (Nat.le_trans h line1000)
  simp only [pOp2, pBin, this, if_true]⟩
def Fm.inner : Fm → List W
  | .lit _ _ => []
  | .bin _ A B => [A.w, B.w]
theorem f_law_inner (n : Nat) (h : Str) (r : List W) (S : Sto) : CC (callT T (n + 1)) i_law_inner [.val (.tup (.str h :: r))] S (.fresh (if isBE h then r else [])) [some (.val (.tup (.str h :: r)))] S := by
  have h1 : PO .ix (.tup (.str h :: r)) (.int 0) (.val (.str h)) := p_ixt (atI_at (j := 0) rfl (by simp))
  have h2 := p_in2 (h := h) (a := "both") (b := "either")
  have h3 := p_tail (a := .str h) (r := r)
  cases hb : isBE h with
  | true =>
    rw [if_pos rfl]
    unfold isBE at hb
    rw [hb] at h2
    apply run_rt (hD := rfl) (hl := rfl)
    · show SS _ m_law_inner [some (.val (.tup (.str h :: r)))] _ _ _ _
      repeat (walk_at "nv")
    · rfl
  | false =>
    rw [if_neg (by decide)]
    unfold isBE at hb
    rw [hb] at h2
    apply run_rt (hD := rfl) (hl := rfl)
    · show SS _ m_law_inner [some (.val (.tup (.str h :: r)))] _ _ _ _
      repeat (walk_at "nv")
    · rfl
theorem isBE_n : isBE "not" = false := by decide +kernel
theorem isBE_i : isBE "is" = false := by decide +kernel
theorem isBE_b : isBE "both" = true := by decide +kernel
theorem isBE_e : isBE "either" = true := by decide +kernel
theorem Fm.inner_eq (F : Fm) : ∃ h r, F.w = .tup (.str h :: r) ∧ F.inner = if isBE h then r else [] := by
  cases F with
  | lit neg z => cases neg
                 · exact ⟨"is", [.str z], rfl, by rw [isBE_i]; rfl⟩
                 · exact ⟨"not", [.str z], rfl, by rw [isBE_n]; rfl⟩
  | bin e A B => cases e
                 · exact ⟨"both", [A.w, B.w], rfl, by rw [isBE_b]; rfl⟩
                 · exact ⟨"either", [A.w, B.w], rfl, by rw [isBE_e]; rfl⟩
theorem g_inner_of (n : Nat) (F : Fm) (S : Sto) : CC (callT T (n + 1)) i_inner_of [.val F.w] S (.fresh F.inner) [some (.val F.w)] S := by
  obtain ⟨h, r, e1, e2⟩ := F.inner_eq
  rw [e1, e2]
  exact f_inner_of n h r S
theorem g_law_inner (n : Nat) (F : Fm) (S : Sto) : CC (callT T (n + 1)) i_law_inner [.val F.w] S (.fresh F.inner) [some (.val F.w)] S := by
  obtain ⟨h, r, e1, e2⟩ := F.inner_eq
  rw [e1, e2]
  exact f_law_inner n h r S
end K05

namespace K05
open PySem PySem.Spec PyProof.Rows L2 NV
local macro_rules | `(tactic| walk_at "nv") => `(tactic| first
  | assumption
  | exact E_cst | exact AA_nil | exact RR_nil | exact O_nil | exact S_nil | exact SF_rt | exact E_gc | exact E_edict | exact FL_nil
  | exact A_pk rfl | apply A_v (hm := rfl) | apply AA_cons | apply RR_cons | apply O_some (hm := rfl)
  | apply S_seq | apply SF_nx | apply S_asg | apply S_ite | apply S_ret | exact S_mvv rfl | exact S_mvo rfl | apply S_put | apply S_par | apply S_expr | apply S_tgt | apply S_forr
  | apply E_op2 | apply E_bi | apply E_me | apply E_isi | apply E_not | apply E_ite | apply E_and | apply E_or | apply E_tup | apply E_lst | apply E_sl | apply E_call | apply E_nm | apply E_neg | apply E_mut | apply E_heap | apply I_rng | apply E_chain
  | apply SB_t (hb := by first | rfl | assumption | (rw [Bool.not_eq_true']; assumption) | (rw [Bool.not_eq_false']; assumption)) | apply SB_f (hb := by first | rfl | assumption | (rw [Bool.not_eq_true']; assumption) | (rw [Bool.not_eq_false']; assumption)) | apply EB_t (hb := by first | rfl | assumption | (rw [Bool.not_eq_true']; assumption) | (rw [Bool.not_eq_false']; assumption)) | apply EB_f (hb := by first | rfl | assumption | (rw [Bool.not_eq_true']; assumption) | (rw [Bool.not_eq_false']; assumption)) | apply CH_t (hb := by first | rfl | assumption | (rw [Bool.not_eq_true']; assumption) | (rw [Bool.not_eq_false']; assumption)) | exact CH_f (hb := by first | rfl | assumption | (rw [Bool.not_eq_true']; assumption) | (rw [Bool.not_eq_false']; assumption))
  | exact p_add | exact p_sub | exact ⟨rfl⟩ | exact List.Pairwise.nil | exact List.pairwise_singleton .. | rfl | decide)
theorem gds2 {a b : W} (h1 : gdW a = true) (h2 : gdW b = true) : gdWs [a, b] = true := by simp only [gdWs, h1, h2]; rfl
theorem f_lt_lit (n : Nat) (neg : Bool) (z : Str) (S : Sto) (h0 : CC (callT T n) i_law_inner [.val (Fm.w (.lit neg z))] S (.fresh []) [some (.val (Fm.w (.lit neg z)))] S) : CC (callT T (n + 1)) i_law_turned [.val (Fm.w (.lit neg z))] S (.val (Fm.w (.lit (!neg) z))) [some (.val (Fm.w (.lit neg z)))] S := by
  have hd : pBi .dict [.lst [.tup [.str "is", .str "not"], .tup [.str "not", .str "is"], .tup [.str "both", .str "either"], .tup [.str "either", .str "both"]]] = some (.val (.dct [.str "is", .str "not", .str "both", .str "either"] [.str "not", .str "is", .str "either", .str "both"])) := by kernel_rfl
  have hne : PO (.cmp .NotEq) (.lst []) (.lst []) (.val (.bl false)) := p_nenil (l := []) rfl
  have hlc : ∀ (w : W) (s : SV), CC (callT T n) i_law_inner [.val w] S (.fresh []) [some (.val w)] S → EV (callT T n) (.lc [3] (.seq (.call 25 (.cons (.nm 0) .nil))) (.tnm 3) (.cst (.bl true)) (.call 26 (.cons (.nm 3) .nil))) [some (.val w), some s, none, none] S (.fresh []) [some (.val w), some s, none, none] S := fun w s h => by
    have hi : II (callT T n) (.seq (.call 25 (.cons (.nm 0) .nil))) [some (.val w), some s, none, none] S [] [some (.val w), some s, none, none] S := by
      refine I_seq (r := .fresh []) ?_ (.inl rfl)
      repeat (walk_at "nv")
    exact E_lcp (own := [3]) (tgt := .tnm 3) (cond := .cst (.bl true)) (elt := .call 26 (.cons (.nm 3) .nil)) (P := fun _ => true) (g := id) hi rfl (fun w hw => nomatch hw) (Nat.zero_le _)
  cases neg with
  | false =>
    have h1 : PO .ix (.tup [.str "is", .str z]) (.int 0) (.val (.str "is")) := p_ixt rfl
    have h2 : PO .ix (.tup [.str "is", .str z]) (.int 1) (.val (.str z)) := p_ixt rfl
    have h4 : PO .ix (.dct [.str "is", .str "not", .str "both", .str "either"] [.str "not", .str "is", .str "either", .str "both"]) (.str "is") (.val (.str "not")) := ⟨by kernel_rfl⟩
    have q := hlc (.tup [.str "is", .str z]) (.val (.str "not")) h0
    show CC _ _ [.val (.tup [.str "is", .str z])] _ (.val (.tup [.str "not", .str z])) _ _
    apply run_rt (hD := rfl) (hl := rfl)
    · show SS _ m_law_turned [some (.val (.tup [.str "is", .str z])), none, none, none] _ _ _ _
      repeat (walk_at "nv")
    · rfl
  | true =>
    have h1 : PO .ix (.tup [.str "not", .str z]) (.int 0) (.val (.str "not")) := p_ixt rfl
    have h2 : PO .ix (.tup [.str "not", .str z]) (.int 1) (.val (.str z)) := p_ixt rfl
    have h4 : PO .ix (.dct [.str "is", .str "not", .str "both", .str "either"] [.str "not", .str "is", .str "either", .str "both"]) (.str "not") (.val (.str "is")) := ⟨by kernel_rfl⟩
    have q := hlc (.tup [.str "not", .str z]) (.val (.str "is")) h0
    show CC _ _ [.val (.tup [.str "not", .str z])] _ (.val (.tup [.str "is", .str z])) _ _
    apply run_rt (hD := rfl) (hl := rfl)
    · show SS _ m_law_turned [some (.val (.tup [.str "not", .str z])), none, none, none] _ _ _ _
      repeat (walk_at "nv")
    · rfl
theorem f_lt_bin (n : Nat) (e : Bool) (A B : Fm) (S : Sto) (oA : A.ok) (oB : B.ok) (h0 : CC (callT T n) i_law_inner [.val (Fm.w (.bin e A B))] S (.fresh [A.w, B.w]) [some (.val (Fm.w (.bin e A B)))] S)
    (hA : CC (callT T n) i_law_turned [.val A.w] S (.val A.turn.w) [some (.val A.w)] S) (hB : CC (callT T n) i_law_turned [.val B.w] S (.val B.turn.w) [some (.val B.w)] S) :
    CC (callT T (n + 1)) i_law_turned [.val (Fm.w (.bin e A B))] S (.val (Fm.w (.bin (!e) A.turn B.turn))) [some (.val (Fm.w (.bin e A B)))] S := by
  have hd : pBi .dict [.lst [.tup [.str "is", .str "not"], .tup [.str "not", .str "is"], .tup [.str "both", .str "either"], .tup [.str "either", .str "both"]]] = some (.val (.dct [.str "is", .str "not", .str "both", .str "either"] [.str "not", .str "is", .str "either", .str "both"])) := by kernel_rfl
  obtain ⟨xs, hxs⟩ := gds_toD (gds2 (Fm.gd (Fm.turn_ok oA)) (Fm.gd (Fm.turn_ok oB)))
  have hne : PO (.cmp .NotEq) (.lst [A.turn.w, B.turn.w]) (.lst []) (.val (.bl true)) := p_nenil hxs
  have hlc : ∀ (w : W) (s : SV), CC (callT T n) i_law_inner [.val w] S (.fresh [A.w, B.w]) [some (.val w)] S → EV (callT T n) (.lc [3] (.seq (.call 25 (.cons (.nm 0) .nil))) (.tnm 3) (.cst (.bl true)) (.call 26 (.cons (.nm 3) .nil))) [some (.val w), some s, none, none] S (.fresh [A.turn.w, B.turn.w]) [some (.val w), some s, none, none] S := fun w s h => by
    have hi : II (callT T n) (.seq (.call 25 (.cons (.nm 0) .nil))) [some (.val w), some s, none, none] S [A.w, B.w] [some (.val w), some s, none, none] S := by
      refine I_seq (r := .fresh [A.w, B.w]) ?_ (.inl rfl)
      repeat (walk_at "nv")
    have q := E_lcp (own := [3]) (tgt := .tnm 3) (cond := .cst (.bl true)) (elt := .call 26 (.cons (.nm 3) .nil)) (P := fun _ => true) (g := turnW) hi rfl (fun x hx => ?_) (by show 2 ≤ _; have := line1000; omega)
    · rw [List.filter_eq_self.mpr (fun _ _ => rfl)] at q
      have : [A.w, B.w].map turnW = [A.turn.w, B.turn.w] := by simp [turnW_eq]
      rw [this] at q
      exact q
    · have hc : CC (callT T n) i_law_turned [.val x] S (.val (turnW x)) [some (.val x)] S := by
        simp only [List.mem_cons, List.not_mem_nil, or_false] at hx
        rcases hx with rfl | rfl
        · rw [turnW_eq]; exact hA
        · rw [turnW_eq]; exact hB
      refine ⟨[some (.val w), some s, none, some (.val x)], rfl, _, E_cst, fun _ => ⟨.val (turnW x), [some (.val w), some s, none, some (.val x)], ?_, rfl, rfl⟩, fun h => nomatch h⟩
      repeat (walk_at "nv")
  cases e with
  | false =>
    have h1 : PO .ix (.tup [.str "both", A.w, B.w]) (.int 0) (.val (.str "both")) := p_ixt rfl
    have h4 : PO .ix (.dct [.str "is", .str "not", .str "both", .str "either"] [.str "not", .str "is", .str "either", .str "both"]) (.str "both") (.val (.str "either")) := ⟨by kernel_rfl⟩
    have q := hlc (.tup [.str "both", A.w, B.w]) (.val (.str "either")) h0
    show CC _ _ [.val (.tup [.str "both", A.w, B.w])] _ (.val (.tup [.str "either", A.turn.w, B.turn.w])) _ _
    apply run_rt (hD := rfl) (hl := rfl)
    · show SS _ m_law_turned [some (.val (.tup [.str "both", A.w, B.w])), none, none, none] _ _ _ _
      repeat (walk_at "nv")
    · rfl
  | true =>
    have h1 : PO .ix (.tup [.str "either", A.w, B.w]) (.int 0) (.val (.str "either")) := p_ixt rfl
    have h4 : PO .ix (.dct [.str "is", .str "not", .str "both", .str "either"] [.str "not", .str "is", .str "either", .str "both"]) (.str "either") (.val (.str "both")) := ⟨by kernel_rfl⟩
    have q := hlc (.tup [.str "either", A.w, B.w]) (.val (.str "both")) h0
    show CC _ _ [.val (.tup [.str "either", A.w, B.w])] _ (.val (.tup [.str "both", A.turn.w, B.turn.w])) _ _
    apply run_rt (hD := rfl) (hl := rfl)
    · show SS _ m_law_turned [some (.val (.tup [.str "either", A.w, B.w])), none, none, none] _ _ _ _
      repeat (walk_at "nv")
    · rfl
theorem g_law_turned (S : Sto) : ∀ (F : Fm) (n : Nat), F.ok → F.depth + 1 ≤ n → CC (callT T n) i_law_turned [.val F.w] S (.val F.turn.w) [some (.val F.w)] S
  | .lit neg z, n, _, h => by
    obtain ⟨m, rfl⟩ : ∃ m, n = m + 2 := ⟨n - 2, by have h : 2 ≤ n := h; omega⟩
    exact f_lt_lit (m + 1) neg z S (g_law_inner m (.lit neg z) S)
  | .bin e A B, n, o, h => by
    have h : 1 + max A.depth B.depth + 1 ≤ n := h
    have dA := Fm.depth_pos A
    obtain ⟨m, rfl⟩ : ∃ m, n = m + 2 := ⟨n - 2, by omega⟩
    exact f_lt_bin (m + 1) e A B S o.1 o.2 (g_law_inner m (.bin e A B) S) (g_law_turned S A (m + 1) o.1 (by omega)) (g_law_turned S B (m + 1) o.2 (by omega))
/-- a formula of the bounds -/
structure Fm.Fit (F : Fm) : Prop where
  ok : F.ok
  d : F.depth ≤ 20
  s : F.size ≤ 60
theorem Fm.turn_size : ∀ F : Fm, F.turn.size = F.size
  | .lit _ _ => rfl
  | .bin _ a b => by simp only [Fm.turn, Fm.size, Fm.turn_size a, Fm.turn_size b]
theorem Fm.Fit.turn {F : Fm} (h : F.Fit) : F.turn.Fit := ⟨Fm.turn_ok h.ok, by rw [Fm.turn_depth]; exact h.d, by rw [Fm.turn_size]; exact h.s⟩
theorem g_chk (n : Nat) {F : Fm} (S : Sto) (h : F.Fit) (hn : 4 ≤ n) : CC (callT T n) i_check_formula [.val F.w] S (.val .non) [some (.val F.w)] S := by
  obtain ⟨m, rfl⟩ : ∃ m, n = m + 4 := ⟨n - 4, by omega⟩
  exact g_check m F.w S (Fm.gd h.ok) (Fm.isFm h.ok h.d h.s)
theorem g_turned (n : Nat) {F : Fm} (S : Sto) (h : F.Fit) (hn : 22 ≤ n) : CC (callT T n) i_turned [.val F.w] S (.val F.turn.w) [some (.val F.w)] S := by
  obtain ⟨m, rfl⟩ : ∃ m, n = m + 1 := ⟨n - 1, by omega⟩
  have h1 := g_chk m S h (by omega)
  have h2 := g_turned_in S F m (by have := h.d; omega)
  generalize F.w = w at h1 h2 ⊢
  apply run_rt (hD := rfl) (hl := rfl)
  · show SS _ m_turned [some (.val w)] _ _ _ _
    repeat (walk_at "nv")
  · rfl
def isLit : W → Bool
  | .tup (.str h :: _) => isIN h
  | _ => false
theorem Fm.parts_hd : ∀ (F : Fm), ∀ w ∈ F.parts, ∃ h r, w = .tup (.str h :: r)
  | .lit neg z, w, h => by
    simp only [Fm.parts, List.mem_singleton] at h
    exact ⟨_, _, h⟩
  | .bin e A B, w, h => by
    simp only [Fm.parts, List.mem_cons, List.mem_append] at h
    rcases h with h | h | h
    · exact ⟨_, _, h⟩
    · exact Fm.parts_hd A w h
    · exact Fm.parts_hd B w h
def hdW : W → W
  | .tup (h :: _) => h
  | w => w
def isHd (z : Str) : W → Bool
  | .tup (.str h :: _) => decide (h = z)
  | _ => false
def cntH (z : Str) (l : List W) : Nat := (l.filter (isHd z)).length
theorem cnt_hd (z : Str) : ∀ {l : List W}, (∀ w ∈ l, ∃ h r, w = .tup (.str h :: r)) → ∃ xs, W.toDs (l.map hdW) = some xs ∧ xs.countP (fun y => PyData.eqv y (.str z)) = cntH z l
  | [], _ => ⟨[], rfl, rfl⟩
  | a :: l, h => by
    obtain ⟨hd, r, rfl⟩ := h a (List.mem_cons_self ..)
    obtain ⟨xs, e1, e2⟩ := cnt_hd z (l := l) fun w hw => h w (List.mem_cons_of_mem _ hw)
    refine ⟨.str hd :: xs, ?_, ?_⟩
    · rw [List.map_cons]
      show W.toDs (.str hd :: l.map hdW) = _
      simp only [W.toDs, W.toD, e1]
    · rw [List.countP_cons, e2]
      unfold cntH
      rw [List.filter_cons]
      simp only [isHd, eqv_str]
      by_cases c : hd = z
      · simp [c]
      · simp [c]
theorem p_cnt (z : Str) {l : List W} (h : ∀ w ∈ l, ∃ h r, w = .tup (.str h :: r)) : pMe .count (.lst (l.map hdW)) [.str z] = some (.val (.int (cntH z l : Nat))) := by
  obtain ⟨xs, e1, e2⟩ := cnt_hd z h
  have e3 : dOk (.str z) = true := rfl
  have e4 : W.toD (.str z) = some (.str z) := rfl
  simp only [pMe, e1, e4, e3, if_true, e2]
theorem cntH_append (z : Str) (a b : List W) : cntH z (a ++ b) = cntH z a + cntH z b := by simp [cntH]
theorem Fm.cnt_turn : ∀ F : Fm, cntH "both" F.turn.parts = cntH "either" F.parts ∧ cntH "either" F.turn.parts = cntH "both" F.parts
  | .lit neg z => by cases neg <;> exact ⟨rfl, rfl⟩
  | .bin e A B => by
    obtain ⟨a1, a2⟩ := Fm.cnt_turn A
    obtain ⟨b1, b2⟩ := Fm.cnt_turn B
    have k : ∀ (z : Str) (w : W) (a b : List W), cntH z (w :: (a ++ b)) = cntH z [w] + (cntH z a + cntH z b) := fun z w a b => by
      rw [← List.singleton_append, cntH_append, cntH_append]
    simp only [Fm.turn, Fm.parts, k, a1, a2, b1, b2]
    cases e
    · refine ⟨?_, ?_⟩ <;> rfl
    · refine ⟨?_, ?_⟩ <;> rfl
end K05

namespace NV
open PySem PySem.Spec PyProof.Rows L2
theorem p_rng {n : Nat} (h : n ≤ 1000000) : rngL [.int (n : Int)] = some ((List.range n).map fun (i : Nat) => .int i) := by
  simp only [rngL]
  rw [if_pos (by simp only [Bool.and_eq_true, decide_eq_true_eq]; omega), Int.toNat_natCast]
/-- a value told, a value due -/
inductive Sm (S : Sto) : Nat → W → W → Prop where
  | non {k : Nat} : Sm S (k + 1) .non .non
  | bl {k : Nat} {b : Bool} : Sm S (k + 1) (.bl b) (.bl b)
  | int {k : Nat} {i : Int} : Sm S (k + 1) (.int i) (.int i)
  | str {k : Nat} {z : Str} : Sm S (k + 1) (.str z) (.str z)
  | lst {k : Nat} {t : W} {ts ds : List W} : res S t = .lst ts → ts.length = ds.length → ds.length ≤ 1000 → (∀ (i : Nat) (h1 : i < ts.length) (h2 : i < ds.length), Sm S k ts[i] ds[i]) → Sm S (k + 1) t (.lst ds)
  | tup {k : Nat} {ts ds : List W} : ts.length = ds.length → ds.length ≤ 1000 → (∀ (i : Nat) (h1 : i < ts.length) (h2 : i < ds.length), Sm S k ts[i] ds[i]) → Sm S (k + 1) (.tup ts) (.tup ds)
/-- plain data of at most this depth -/
def gdD : Nat → W → Bool
  | 0, _ => false
  | _ + 1, .non => true
  | _ + 1, .bl _ => true
  | _ + 1, .int _ => true
  | _ + 1, .str _ => true
  | k + 1, .tup l => decide (l.length ≤ 1000) && l.all (gdD k)
  | k + 1, .lst l => decide (l.length ≤ 1000) && l.all (gdD k)
  | _ + 1, _ => false
theorem Sm.refl (S : Sto) : ∀ (k : Nat) (w : W), gdD k w = true → Sm S k w w
  | 0, w, h => by simp [gdD] at h
  | k + 1, w, h => by
    cases w <;> simp only [gdD] at h <;> first
      | exact .non | exact .bl | exact .int | exact .str | (cases h; done) | skip
    · simp only [Bool.and_eq_true, decide_eq_true_eq, List.all_eq_true] at h
      exact .tup rfl h.1 fun i h1 _ => Sm.refl S k _ (h.2 _ (List.getElem_mem h1))
    · simp only [Bool.and_eq_true, decide_eq_true_eq, List.all_eq_true] at h
      exact .lst rfl rfl h.1 fun i h1 _ => Sm.refl S k _ (h.2 _ (List.getElem_mem h1))
theorem Sm.mono {S : Sto} : ∀ {k : Nat} {t d : W}, Sm S k t d → ∀ {j : Nat}, k ≤ j → Sm S j t d
  | 0, _, _, h, _, _ => nomatch h
  | k + 1, t, d, h, j, hj => by
    obtain ⟨i, rfl⟩ : ∃ i, j = i + 1 := ⟨j - 1, by omega⟩
    cases h with
    | non => exact .non
    | bl => exact .bl
    | int => exact .int
    | str => exact .str
    | lst e1 e2 e3 e4 => exact .lst e1 e2 e3 fun a b c => (e4 a b c).mono (by omega)
    | tup e2 e3 e4 => exact .tup e2 e3 fun a b c => (e4 a b c).mono (by omega)
/-- item by item -/
inductive SmL (S : Sto) (k : Nat) : List W → List W → Prop where
  | nil : SmL S k [] []
  | cons {a b : W} {l m : List W} : Sm S k a b → SmL S k l m → SmL S k (a :: l) (b :: m)
theorem SmL.len {S : Sto} {k : Nat} : ∀ {l m : List W}, SmL S k l m → l.length = m.length
  | _, _, .nil => rfl
  | _, _, .cons _ h => by rw [List.length_cons, List.length_cons, h.len]
theorem SmL.get {S : Sto} {k : Nat} : ∀ {l m : List W}, SmL S k l m → ∀ (i : Nat) (h1 : i < l.length) (h2 : i < m.length), Sm S k l[i] m[i]
  | _, _, .nil, i, h1, _ => by simp at h1
  | _, _, .cons h _, 0, _, _ => h
  | _, _, .cons _ h, i + 1, h1, h2 => by
    rw [List.length_cons] at h1 h2
    exact h.get i (by omega) (by omega)
theorem SmL.lst {S : Sto} {k : Nat} {l m : List W} (h : SmL S k l m) (hl : m.length ≤ 1000) : Sm S (k + 1) (.lst l) (.lst m) := .lst rfl h.len hl h.get
theorem SmL.tup {S : Sto} {k : Nat} {l m : List W} (h : SmL S k l m) (hl : m.length ≤ 1000) : Sm S (k + 1) (.tup l) (.tup m) := .tup h.len hl h.get
theorem SmL.ref {S : Sto} {k n : Nat} {l m : List W} (h : SmL S k l m) (hs : S[n]? = some l) (hl : m.length ≤ 1000) : Sm S (k + 1) (.ref n) (.lst m) := .lst (by simp only [res, hs]) h.len hl h.get
theorem SmL.refl {S : Sto} {k : Nat} : ∀ {l : List W}, l.all (gdD k) = true → SmL S k l l
  | [], _ => .nil
  | a :: l, h => by
    rw [List.all_cons, Bool.and_eq_true] at h
    exact .cons (Sm.refl S k a h.1) (SmL.refl h.2)
end NV
namespace K05
open PySem PySem.Spec PyProof.Rows L2 NV
local macro_rules | `(tactic| walk_at "nv") => `(tactic| first
  | assumption
  | exact E_cst | exact AA_nil | exact RR_nil | exact O_nil | exact S_nil | exact SF_rt | exact E_gc | exact E_edict | exact FL_nil
  | exact A_pk rfl | apply A_v (hm := rfl) | apply AA_cons | apply RR_cons | apply O_some (hm := rfl)
  | apply S_seq | apply SF_nx | apply S_asg | apply S_ite | apply S_ret | exact S_mvv rfl | exact S_mvo rfl | apply S_put | apply S_par | apply S_expr | apply S_tgt | apply S_forr
  | apply E_op2 | apply E_bi | apply E_me | apply E_isi | apply E_not | apply E_ite | apply E_and | apply E_or | apply E_tup | apply E_lst | apply E_sl | apply E_call | apply E_nm | apply E_neg | apply E_mut | apply E_heap | apply I_rng | apply E_chain
  | apply SB_t (hb := by first | rfl | assumption | (rw [Bool.not_eq_true']; assumption) | (rw [Bool.not_eq_false']; assumption)) | apply SB_f (hb := by first | rfl | assumption | (rw [Bool.not_eq_true']; assumption) | (rw [Bool.not_eq_false']; assumption)) | apply EB_t (hb := by first | rfl | assumption | (rw [Bool.not_eq_true']; assumption) | (rw [Bool.not_eq_false']; assumption)) | apply EB_f (hb := by first | rfl | assumption | (rw [Bool.not_eq_true']; assumption) | (rw [Bool.not_eq_false']; assumption)) | apply CH_t (hb := by first | rfl | assumption | (rw [Bool.not_eq_true']; assumption) | (rw [Bool.not_eq_false']; assumption)) | exact CH_f (hb := by first | rfl | assumption | (rw [Bool.not_eq_true']; assumption) | (rw [Bool.not_eq_false']; assumption))
  | exact p_add | exact p_sub | exact ⟨rfl⟩ | exact List.Pairwise.nil | exact List.pairwise_singleton .. | rfl | decide)
theorem lc_same (m : Nat) (S : Sto) (t D : W) (ts ds : List W) (hl : ts.length = ds.length) (h2 : ds.length ≤ 1000) (hL : pBi .len [res S D] = some (.val (.int ds.length)))
    (hI : ∀ (i : Nat) (h : i < ts.length), PO .ix (res S t) (.int i) (.val ts[i])) (hJ : ∀ (i : Nat) (h : i < ds.length), PO .ix (res S D) (.int i) (.val ds[i]))
    (ih : ∀ (i : Nat) (h1 : i < ts.length) (h2 : i < ds.length), CC (callT T m) i_law_same [.val ts[i], .val ds[i]] S (.val (.bl true)) [some (.val ts[i]), some (.val ds[i])] S) :
    EV (callT T m) (.lc [2] (.rng (.cons (.bi .len (.cons (.pk 1) .nil)) .nil)) (.tnm 2) (.not (.call 24 (.cons (.op2 .ix (.pk 0) (.pk 2)) (.cons (.op2 .ix (.pk 1) (.pk 2)) .nil)))) (.nm 2)) [some (.val t), some (.val D), none] S (.fresh []) [some (.val t), some (.val D), none] S := by
  have hr := p_rng (n := ds.length) (by omega)
  have hi : II (callT T m) (.rng (.cons (.bi .len (.cons (.pk 1) .nil)) .nil)) [some (.val t), some (.val D), none] S ((List.range ds.length).map fun (i : Nat) => .int i) [some (.val t), some (.val D), none] S := by
    refine I_rng (l := [.val (.int ds.length)]) (ws := [.int ds.length]) ?_ rfl hr
    refine AA_cons (x := .val (RV.frz (.val (.int ds.length)))) (A_v ?_ rfl) AA_nil
    refine E_bi (l := [.pk 1]) (ws := [res S D]) ?_ rfl hL
    exact AA_cons (A_pk rfl) AA_nil
  have q := E_lcp (own := [2]) (tgt := .tnm 2) (cond := .not (.call 24 (.cons (.op2 .ix (.pk 0) (.pk 2)) (.cons (.op2 .ix (.pk 1) (.pk 2)) .nil)))) (elt := .nm 2) (P := fun _ => false) (g := id) hi rfl (fun x hx => ?_) (by simp only [List.length_map, List.length_range]; exact Nat.le_trans h2 line1000)
  · rw [List.filter_eq_nil_iff.mpr (fun _ _ h => Bool.noConfusion h)] at q
    exact q
  · obtain ⟨i, hi, rfl⟩ := List.mem_map.mp hx
    rw [List.mem_range] at hi
    have k1 := hI i (by omega)
    have k2 := hJ i hi
    have k3 := ih i (by omega) hi
    clear hr hL hI hJ ih
    refine ⟨[some (.val t), some (.val D), some (.val (.int i))], rfl, [some (.val t), some (.val D), some (.val (.int i))], ?_, (fun h => Bool.noConfusion h), fun _ => rfl⟩
    show EV _ _ _ _ (.val (.bl (!true))) _ _
    repeat (walk_at "nv")
theorem g_same (S : Sto) : ∀ (k n : Nat) (t d : W), Sm S k t d → k ≤ n → CC (callT T n) i_law_same [.val t, .val d] S (.val (.bl true)) [some (.val t), some (.val d)] S
  | 0, n, t, d, h, _ => nomatch h
  | k + 1, n, t, d, h, hn => by
    obtain ⟨m, rfl⟩ : ∃ m, n = m + 1 := ⟨n - 1, by omega⟩
    cases h with
    | non =>
      apply run_rt (hD := rfl) (hl := rfl)
      · show SS _ m_law_same [some (.val .non), some (.val .non), none] _ _ _ _
        repeat (walk_at "nv")
      · rfl
    | @bl _ b =>
      cases b <;> apply run_rt (hD := rfl) (hl := rfl)
      · show SS _ m_law_same [some (.val (.bl false)), some (.val (.bl false)), none] _ _ _ _
        repeat (walk_at "nv")
      · rfl
      · show SS _ m_law_same [some (.val (.bl true)), some (.val (.bl true)), none] _ _ _ _
        repeat (walk_at "nv")
      · rfl
    | @int _ i =>
      have h1 : PO (.cmp .Eq) (.int i) (.int i) (.val (.bl true)) := p_eqint' (decide_eq_true rfl)
      apply run_rt (hD := rfl) (hl := rfl)
      · show SS _ m_law_same [some (.val (.int i)), some (.val (.int i)), none] _ _ _ _
        repeat (walk_at "nv")
      · rfl
    | @str _ i =>
      have h1 : PO (.cmp .Eq) (.str i) (.str i) (.val (.bl true)) := by
        have q := p_eqstr (a := i) (b := i)
        rw [decide_eq_true rfl] at q
        exact q
      apply run_rt (hD := rfl) (hl := rfl)
      · show SS _ m_law_same [some (.val (.str i)), some (.val (.str i)), none] _ _ _ _
        repeat (walk_at "nv")
      · rfl
    | @lst _ _ ts ds e1 e2 e3 e4 =>
      have q := lc_same m S t (.lst ds) ts ds e2 e3 rfl (fun i h => by rw [e1]; exact p_ixl (atI_at rfl h)) (fun i h => p_ixl (atI_at rfl h)) (fun i h1 h2 => g_same S k m _ _ (e4 i h1 h2) (by omega))
      have i1 : isiW (res S t) [.list] = some true := by rw [e1]; rfl
      have i2 : isiW (res S t) [.tuple] = some false := by rw [e1]; rfl
      have l1 : pBi .len [res S t] = some (.val (.int ts.length)) := by rw [e1]; rfl
      have l2 : pBi .len [.lst ds] = some (.val (.int ds.length)) := rfl
      have h1 : PO (.cmp .Eq) (.int ts.length) (.int ds.length) (.val (.bl true)) := p_eqint' (decide_eq_true (by rw [e2]))
      have h2 : PO (.cmp .Eq) (.lst []) (.lst []) (.val (.bl true)) := p_eqnil (l := []) rfl
      apply run_rt (hD := rfl) (hl := rfl)
      · show SS _ m_law_same [some (.val t), some (.val (.lst ds)), none] _ _ _ _
        repeat (walk_at "nv")
      · rfl
    | @tup _ ts ds e2 e3 e4 =>
      have q := lc_same m S (.tup ts) (.tup ds) ts ds e2 e3 rfl (fun i h => p_ixt (atI_at rfl h)) (fun i h => p_ixt (atI_at rfl h)) (fun i h1 h2 => g_same S k m _ _ (e4 i h1 h2) (by omega))
      have l1 : pBi .len [.tup ts] = some (.val (.int ts.length)) := rfl
      have l2 : pBi .len [.tup ds] = some (.val (.int ds.length)) := rfl
      have h1 : PO (.cmp .Eq) (.int ts.length) (.int ds.length) (.val (.bl true)) := p_eqint' (decide_eq_true (by rw [e2]))
      have h2 : PO (.cmp .Eq) (.lst []) (.lst []) (.val (.bl true)) := p_eqnil (l := []) rfl
      apply run_rt (hD := rfl) (hl := rfl)
      · show SS _ m_law_same [some (.val (.tup ts)), some (.val (.tup ds)), none] _ _ _ _
        repeat (walk_at "nv")
      · rfl
end K05

namespace NV
open PySem PySem.Spec PyProof.Rows L2
section
variable {cf : CallF} {ρ ρ1 ρ2 : Env} {S S1 S2 : Sto} {a m : M} {w : W} {l : List AV}
theorem E_hmut {k : Mu} {n : Nat} {xs0 xs ys : List W} (h1 : AV1 cf a ρ S (.val (.ref n)) ρ1 S1) (h0 : S1[n]? = some xs0) (h2 : AA cf m ρ1 S1 l ρ2 S2) (hx : S2[n]? = some xs) (hm : muE k xs ρ2 S2 l = some (w, ys)) :
    EV cf (.hmut k a m) ρ S (.val w) ρ2 (S2.set n ys) := ⟨by simp only [evE, h1.h, Out.bind_ok, h0, h2.h, hx, hm]⟩
end
theorem gdD_mono : ∀ {k : Nat} {w : W}, gdD k w = true → ∀ {j : Nat}, k ≤ j → gdD j w = true
  | 0, _, h, _, _ => by simp [gdD] at h
  | k + 1, w, h, j, hj => by
    obtain ⟨i, rfl⟩ : ∃ i, j = i + 1 := ⟨j - 1, by omega⟩
    cases w <;> simp only [gdD] at h ⊢ <;> first | (cases h; done) | skip
    · simp only [Bool.and_eq_true, List.all_eq_true] at h ⊢
      exact ⟨h.1, fun x hx => gdD_mono (h.2 x hx) (by omega)⟩
    · simp only [Bool.and_eq_true, List.all_eq_true] at h ⊢
      exact ⟨h.1, fun x hx => gdD_mono (h.2 x hx) (by omega)⟩
/-- shown in few signs -/
theorem repr_ok {w : W} {x : PyData} (h : w.toD = some x) (h1 : x.depth ≤ 64) (h2 : x.showable = true) (h3 : x.leavesShort 13 = true) (h4 : x.weight ≤ 2 ^ 20) : ∃ z, reprW w = some z := by
  have h6 := PyData.shown_fits (B := 13) (by omega) (by omega) h3 h4
  have e1 : dOk x = true := decide_eq_true h1
  have e2 : szOk x.shown.length = true := decide_eq_true h6
  exact ⟨x.shown, by simp only [reprW, h, e1, h2, e2, Bool.and_true, if_true]⟩
end NV
namespace K05
open PySem PySem.Spec PyProof.Rows L2 NV
local macro_rules | `(tactic| walk_at "nv") => `(tactic| first
  | assumption
  | exact E_cst | exact AA_nil | exact RR_nil | exact O_nil | exact S_nil | exact SF_rt | exact E_gc | exact E_edict | exact FL_nil
  | exact A_pk rfl | apply A_v (hm := rfl) | apply AA_cons | apply RR_cons | apply O_some (hm := rfl)
  | apply S_seq | apply SF_nx | apply S_asg | apply S_ite | apply S_ret | exact S_mvv rfl | exact S_mvo rfl | apply S_put | apply S_par | apply S_expr | apply S_tgt | apply S_forr
  | apply E_op2 | apply E_bi | apply E_me | apply E_isi | apply E_not | apply E_ite | apply E_and | apply E_or | apply E_tup | apply E_lst | apply E_sl | apply E_call | apply E_nm | apply E_neg | apply E_mut | apply E_heap | apply I_rng | apply E_chain
  | apply SB_t (hb := by first | rfl | assumption | (rw [Bool.not_eq_true']; assumption) | (rw [Bool.not_eq_false']; assumption)) | apply SB_f (hb := by first | rfl | assumption | (rw [Bool.not_eq_true']; assumption) | (rw [Bool.not_eq_false']; assumption)) | apply EB_t (hb := by first | rfl | assumption | (rw [Bool.not_eq_true']; assumption) | (rw [Bool.not_eq_false']; assumption)) | apply EB_f (hb := by first | rfl | assumption | (rw [Bool.not_eq_true']; assumption) | (rw [Bool.not_eq_false']; assumption)) | apply CH_t (hb := by first | rfl | assumption | (rw [Bool.not_eq_true']; assumption) | (rw [Bool.not_eq_false']; assumption)) | exact CH_f (hb := by first | rfl | assumption | (rw [Bool.not_eq_true']; assumption) | (rw [Bool.not_eq_false']; assumption))
  | exact p_add | exact p_sub | exact ⟨rfl⟩ | exact List.Pairwise.nil | exact List.pairwise_singleton .. | rfl | decide)
def Fm.pd : Fm → PyData
  | .lit neg z => .tuple [.str (if neg then "not" else "is"), .str z]
  | .bin e a b => .tuple [.str (if e then "either" else "both"), a.pd, b.pd]
theorem Fm.toD : ∀ F : Fm, F.w.toD = some F.pd
  | .lit neg z => rfl
  | .bin e a b => by
    have h1 := Fm.toD a
    have h2 := Fm.toD b
    simp only [Fm.w, Fm.pd, W.toD, W.toDs, h1, h2]
    rfl
theorem Fm.pd_depth : ∀ F : Fm, F.pd.depth = F.depth
  | .lit neg z => rfl
  | .bin e a b => by
    have h1 := Fm.pd_depth a
    have h2 := Fm.pd_depth b
    simp only [Fm.pd, PyData.depth, PyData.depthAll, h1, h2, Fm.depth]
    omega
theorem Fm.pd_show : ∀ F : Fm, F.pd.showable = true
  | .lit neg z => rfl
  | .bin e a b => by
    have h1 := Fm.pd_show a
    have h2 := Fm.pd_show b
    simp only [Fm.pd, PyData.showable, PyData.showableAll, h1, h2, Bool.and_self]
theorem Fm.pd_short : ∀ {F : Fm}, F.ok → F.pd.leavesShort 13 = true
  | .lit neg z, h => by
    rcases h with rfl | rfl | rfl <;> cases neg <;> decide +kernel
  | .bin e a b, h => by
    have h1 := Fm.pd_short h.1
    have h2 := Fm.pd_short h.2
    simp only [Fm.pd, PyData.leavesShort, PyData.leavesShortAll, h1, h2, Bool.and_true]
    cases e <;> decide +kernel
theorem Fm.pd_weight : ∀ {F : Fm}, F.ok → F.pd.weight ≤ 10 * F.size
  | .lit neg z, h => by
    rcases h with rfl | rfl | rfl <;> cases neg <;> decide +kernel
  | .bin e a b, h => by
    have h1 := Fm.pd_weight h.1
    have h2 := Fm.pd_weight h.2
    have h3 : (PyData.str (if e then "either" else "both")).weight ≤ 6 := by cases e <;> decide +kernel
    simp only [Fm.pd, PyData.weight, PyData.weightAll, Fm.size]
    simp only [PyData.weight] at h3
    omega
theorem Fm.repr {F : Fm} (h : F.Fit) : ∃ z, reprW F.w = some z := by
  have h1 := h.d
  have h2 := h.s
  have h3 := Fm.pd_weight h.ok
  exact repr_ok F.toD (by rw [Fm.pd_depth]; omega) F.pd_show (Fm.pd_short h.ok) (by omega)
theorem Fm.w_tup (F : Fm) : ∃ l, F.w = .tup l := by cases F <;> exact ⟨_, rfl⟩
theorem Fm.gdD : ∀ F : Fm, gdD (F.depth + 1) F.w = true
  | .lit neg z => by simp [Fm.w, Fm.depth, NV.gdD]
  | .bin e a b => by
    have h1 := gdD_mono (Fm.gdD a) (j := 1 + max a.depth b.depth) (by omega)
    have h2 := gdD_mono (Fm.gdD b) (j := 1 + max a.depth b.depth) (by omega)
    simp only [Fm.w, Fm.depth, NV.gdD, List.all_cons, List.all_nil, h1, h2, Bool.and_true, Bool.and_eq_true, decide_eq_true_eq]
    refine ⟨by simp, ?_⟩
    rw [Nat.add_comm]; rfl
theorem Fm.parts_gdD : ∀ (F : Fm), ∀ w ∈ F.parts, NV.gdD (F.depth + 1) w = true
  | .lit neg z, w, h => by
    rw [Fm.parts, List.mem_singleton] at h
    rw [h]; exact Fm.gdD _
  | .bin e a b, w, h => by
    have hd : (Fm.bin e a b).depth = 1 + max a.depth b.depth := rfl
    simp only [Fm.parts, List.mem_cons, List.mem_append] at h
    rcases h with h | h | h
    · rw [h]; exact Fm.gdD _
    · exact gdD_mono (Fm.parts_gdD a w h) (by omega)
    · exact gdD_mono (Fm.parts_gdD b w h) (by omega)
theorem lc_right (n : Nat) (S : Sto) (P : List W) (k : Bool) (a0 a6 : W) (x1 : Option SV) (c : M) (p : W → Bool) (hc : ∀ w ∈ P, EV (callT T n) c [some (.val a0), x1, none, none, none, none, some (.val a6), some (.val (.lst P)), some (.val w)] S (.val (.bl (p w))) [some (.val a0), x1, none, none, none, none, some (.val a6), some (.val (.lst P)), some (.val w)] S) (hl : P.length ≤ 1000) :
    EV (callT T n) (.lc [8] (.seq (.nm 7)) (.tnm 8) c (.nm 8)) [some (.val a0), x1, none, none, none, none, some (.val a6), some (if k then .val (.lst P) else .own (false, P)), none] S (.fresh (P.filter p)) [some (.val a0), x1, none, none, none, none, some (.val a6), some (.val (.lst P)), none] S := by
  have hi : II (callT T n) (.seq (.nm 7)) [some (.val a0), x1, none, none, none, none, some (.val a6), some (if k then .val (.lst P) else .own (false, P)), none] S P [some (.val a0), x1, none, none, none, none, some (.val a6), some (.val (.lst P)), none] S := by
    cases k <;> exact I_ls (E_nm rfl)
  have q := E_lcp (own := [8]) (tgt := .tnm 8) (cond := c) (elt := .nm 8) (P := p) (g := id) hi rfl (fun w hw => ?_) (Nat.le_trans hl line1000)
  · rw [List.map_id] at q
    exact q
  · exact ⟨_, rfl, _, hc w hw, fun _ => ⟨.val w, _, E_nm rfl, rfl, rfl⟩, fun _ => rfl⟩
end K05
set_option Elab.async false
set_option linter.all false
set_option maxRecDepth 100000
set_option maxHeartbeats 1000000
namespace K05
open PySem PySem.Spec PyProof.Rows L2 NV
/-! ### texts and their words, no program in sight -/
def ch (z : Str) : List Nat := z.cps.toList
theorem ch_app (a b : Str) : ch (a ++ b) = ch a ++ ch b := by
  show (a.cps ++ b.cps).toList = _
  rw [Array.toList_append]; rfl
theorem ch_len (z : Str) : (ch z).length = z.length := Array.length_toList
theorem ch_inj {a b : Str} (h : ch a = ch b) : a = b := by
  obtain ⟨x⟩ := a
  obtain ⟨y⟩ := b
  unfold ch at h
  congr 1
  exact Array.toList_inj.mp h
theorem ch_one (c : Nat) : ch ⟨#[c]⟩ = [c] := rfl
def ownC (c : Nat) : Bool := decide (c ∈ LF.cps.toList)
def sepC (c : Nat) : Bool := decide (c ∈ (Str.ofString " \n").cps.toList)
/-- one sign read -/
def stepC (s : List Str × Bool) (c : Nat) : List Str × Bool :=
  if ownC c && s.2 then (match s.1.reverse with
    | [] => ([], true)
    | l :: r => (r.reverse ++ [l ++ ⟨#[c]⟩], true))
  else (if sepC c then s.1 else s.1 ++ [⟨#[c]⟩], ownC c)
def Scn (z : Str) (ts : List Str) : Prop := ∀ told, ∃ r, (ch z).foldl stepC (told, false) = (told ++ ts, r)
def isSep (z : Str) : Prop := ∀ c ∈ ch z, sepC c = true
theorem sep_own {c : Nat} (h : sepC c = true) : ownC c = false := by
  unfold sepC at h
  rw [decide_eq_true_eq] at h
  have : ∀ c ∈ (Str.ofString " \n").cps.toList, ownC c = false := by decide +kernel
  exact this c h
theorem own_sep {c : Nat} (h : ownC c = true) : sepC c = false := by
  cases q : sepC c with
  | false => rfl
  | true => rw [sep_own q] at h; cases h
theorem scan_sep : ∀ {l : List Nat}, (∀ c ∈ l, sepC c = true) → ∀ told r, l.foldl stepC (told, r) = (told, if l.isEmpty then r else false)
  | [], _, told, r => rfl
  | c :: l, h, told, r => by
    have hc := h c (List.mem_cons_self ..)
    rw [List.foldl_cons]
    have e : stepC (told, r) c = (told, false) := by
      unfold stepC
      rw [sep_own hc, hc]; rfl
    rw [e, scan_sep fun x hx => h x (List.mem_cons_of_mem _ hx)]
    cases l <;> rfl
theorem scan_own : ∀ {l : List Nat}, (∀ c ∈ l, ownC c = true) → ∀ told (y : Str), l.foldl stepC (told ++ [y], true) = (told ++ [y ++ ⟨l.toArray⟩], true)
  | [], _, told, y => by
    have : y ++ ⟨#[]⟩ = y := ch_inj (by rw [ch_app]; simp [ch])
    rw [show ([] : List Nat).toArray = #[] from rfl, this]; rfl
  | c :: l, h, told, y => by
    have hc := h c (List.mem_cons_self ..)
    rw [List.foldl_cons]
    have e : stepC (told ++ [y], true) c = (told ++ [y ++ ⟨#[c]⟩], true) := by
      unfold stepC
      rw [hc]
      simp
    rw [e, scan_own fun x hx => h x (List.mem_cons_of_mem _ hx)]
    have : y ++ ⟨#[c]⟩ ++ ⟨l.toArray⟩ = y ++ ⟨(c :: l).toArray⟩ := ch_inj (by rw [ch_app, ch_app, ch_app]; simp [ch])
    rw [this]
theorem scn_word {z : Str} (h : ∀ c ∈ ch z, ownC c = true) (hn : ch z ≠ []) : ∀ told, (ch z).foldl stepC (told, false) = (told ++ [z], true) := fun told => by
  cases e : ch z with
  | nil => exact absurd e hn
  | cons c l =>
    rw [e] at h
    have hc := h c (List.mem_cons_self ..)
    rw [List.foldl_cons]
    have e1 : stepC (told, false) c = (told ++ [⟨#[c]⟩], true) := by
      unfold stepC
      rw [own_sep hc, hc]; rfl
    rw [e1, scan_own fun x hx => h x (List.mem_cons_of_mem _ hx)]
    have : (⟨#[c]⟩ : Str) ++ ⟨l.toArray⟩ = z := ch_inj (by rw [ch_app, e]; simp [ch])
    rw [this]
theorem Scn.word {z : Str} (h : ∀ c ∈ ch z, ownC c = true) (hn : ch z ≠ []) : Scn z [z] := fun told => ⟨_, scn_word h hn told⟩
/-- two with a gap between -/
theorem Scn.gap {a g b : Str} {ta tb : List Str} (ha : Scn a ta) (hg : isSep g) (hn : ch g ≠ []) (hb : Scn b tb) : Scn (a ++ g ++ b) (ta ++ tb) := fun told => by
  obtain ⟨r, h1⟩ := ha told
  obtain ⟨r2, h2⟩ := hb (told ++ ta)
  refine ⟨r2, ?_⟩
  rw [ch_app, ch_app, List.foldl_append, List.foldl_append, h1, scan_sep hg]
  have : (ch g).isEmpty = false := by simpa using hn
  rw [this, if_neg (by decide), h2, List.append_assoc]
def opn : Str := "("
def cls : Str := ")"
theorem Scn.par {g1 a g2 : Str} {ta : List Str} (h1 : isSep g1) (ha : Scn a ta) (h2 : isSep g2) : Scn (opn ++ g1 ++ a ++ g2 ++ cls) (opn :: (ta ++ [cls])) := fun told => by
  obtain ⟨r, h3⟩ := ha (told ++ [opn])
  have e1 : (ch opn).foldl stepC (told, false) = (told ++ [opn], false) := by
    have : ch opn = [40] := by decide +kernel
    rw [this, List.foldl_cons, List.foldl_nil]
    have e : opn = ⟨#[40]⟩ := ch_inj this
    unfold stepC
    rw [show ownC 40 = false by decide +kernel, show sepC 40 = false by decide +kernel, e]; rfl
  have e2 : ∀ t r, (ch cls).foldl stepC (t, r) = (t ++ [cls], false) := fun t r => by
    have : ch cls = [41] := by decide +kernel
    rw [this, List.foldl_cons, List.foldl_nil]
    have e : cls = ⟨#[41]⟩ := ch_inj this
    unfold stepC
    rw [show ownC 41 = false by decide +kernel, show sepC 41 = false by decide +kernel, e]; rfl
  refine ⟨false, ?_⟩
  rw [ch_app, ch_app, ch_app, ch_app, List.foldl_append, List.foldl_append, List.foldl_append, List.foldl_append, e1, scan_sep h1]
  rw [show (if (ch g1).isEmpty = true then false else false) = false by split <;> rfl, h3, scan_sep h2, e2]
  simp
/-- words that stand rightly: 0 close, 1 boths, 2 eithers -/
inductive Gr : Nat → Fm → List Str → Prop where
  | lit {z : Str} : (z = "p" ∨ z = "q" ∨ z = "r2") → Gr 0 (.lit false z) [z]
  | not {F : Fm} {ts : List Str} : Gr 0 F ts → Gr 0 F.turn ("not" :: ts)
  | par {F : Fm} {ts : List Str} : Gr 2 F ts → Gr 0 F (opn :: (ts ++ [cls]))
  | c1 {F : Fm} {ts : List Str} : Gr 0 F ts → Gr 1 F ts
  | c2 {F : Fm} {ts : List Str} : Gr 1 F ts → Gr 2 F ts
  | both {A B : Fm} {ta tb : List Str} : Gr 1 A ta → Gr 0 B tb → Gr 1 (.bin false A B) (ta ++ Str.ofString "both" :: tb)
  | either {A B : Fm} {ta tb : List Str} : Gr 2 A ta → Gr 1 B tb → Gr 2 (.bin true A B) (ta ++ Str.ofString "either" :: tb)
def kindB (k : Bool) (s : Str) : Bool := decide (s = "both") || (k && decide (s = "either"))
def hdOk (p : Str → Bool) : List Str → Bool
  | [] => true
  | s :: _ => !p s
/-- joining the last two values, stacks with the top ahead -/
inductive Jn (k : Bool) : List Fm → List Str → List Fm → List Str → Prop where
  | stop {v : List Fm} {g : List Str} : hdOk (kindB k) g = true → Jn k v g v g
  | go {a b : Fm} {v v' : List Fm} {e : Bool} {g g' : List Str} : kindB k (if e then "either" else "both") = true → Jn k (.bin e a b :: v) g v' g' → Jn k (b :: a :: v) ((if e then "either" else "both") :: g) v' g'
inductive Tl : Fm → List Str → Fm → List Str → Prop where
  | stop {f : Fm} {g : List Str} : hdOk (fun s => decide (s = "not")) g = true → Tl f g f g
  | go {f f' : Fm} {g g' : List Str} : Tl f.turn g f' g' → Tl f ("not" :: g) f' g'
inductive Bs : List Fm → List Str → Str → List Fm → List Str → Prop where
  | opn {v : List Fm} {g : List Str} {t : Str} : (t = "not" ∨ t = opn) → Bs v g t v (t :: g)
  | op {v v1 : List Fm} {g g1 : List Str} {e : Bool} : Jn e v g v1 g1 → Bs v g (if e then "either" else "both") v1 ((if e then "either" else "both") :: g1)
  | cls {v v1 : List Fm} {g g1 g2 : List Str} {f f' : Fm} : Jn true v g (f :: v1) (K05.opn :: g1) → Tl f g1 f' g2 → Bs v g cls (f' :: v1) g2
  | word {v : List Fm} {g g' : List Str} {z : Str} {f : Fm} : (z = "p" ∨ z = "q" ∨ z = "r2") → Tl (.lit false z) g f g' → Bs v g z (f :: v) g'
inductive Bss : List Fm → List Str → List Str → List Fm → List Str → Prop where
  | nil {v : List Fm} {g : List Str} : Bss v g [] v g
  | cons {v v1 v2 : List Fm} {g g1 g2 : List Str} {t : Str} {ts : List Str} : Bs v g t v1 g1 → Bss v1 g1 ts v2 g2 → Bss v g (t :: ts) v2 g2
theorem Bss.app : ∀ {v v1 v2 : List Fm} {g g1 g2 : List Str} {ts us : List Str}, Bss v g ts v1 g1 → Bss v1 g1 us v2 g2 → Bss v g (ts ++ us) v2 g2
  | _, _, _, _, _, _, _, _, .nil, h => h
  | _, _, _, _, _, _, _, _, .cons a b, h => .cons a (b.app h)
def GrP (l : Nat) (F : Fm) (ts : List Str) : Prop := match l with
  | 0 => ∀ v g f g', Tl F g f g' → Bss v g ts (f :: v) g'
  | 1 => ∀ v g, hdOk (fun s => decide (s = "both") || decide (s = "not")) g = true → ∃ v1 g1, Bss v g ts v1 g1 ∧ Jn false v1 g1 (F :: v) g ∧ ∀ v' g', Jn true (F :: v) g v' g' → Jn true v1 g1 v' g'
  | _ => ∀ v g, hdOk (fun s => decide (s = "both") || (decide (s = "either") || decide (s = "not"))) g = true → ∃ v1 g1, Bss v g ts v1 g1 ∧ Jn true v1 g1 (F :: v) g
theorem hd_imp {p q : Str → Bool} {g : List Str} (h : hdOk p g = true) (k : ∀ s, q s = true → p s = true) : hdOk q g = true := by
  cases g with
  | nil => rfl
  | cons s g =>
    simp only [hdOk, Bool.not_eq_true'] at h ⊢
    cases e : q s with
    | false => rfl
    | true => rw [k s e] at h; cases h
theorem hd_cons {p : Str → Bool} {s : Str} {g : List Str} (h : p s = false) : hdOk p (s :: g) = true := by simp [hdOk, h]
theorem Gr.parse {l : Nat} {F : Fm} {ts : List Str} (h : Gr l F ts) : GrP l F ts := by
  induction h with
  | lit hz => exact fun v g f g' ht => .cons (.word hz ht) .nil
  | not _ ih => exact fun v g f g' ht => .cons (.opn (.inl rfl)) (ih v _ f g' (.go ht))
  | par _ ih =>
    intro v g f g' ht
    obtain ⟨v1, g1, h1, h2⟩ := ih v (opn :: g) (hd_cons (by decide +kernel))
    exact .cons (.opn (.inr rfl)) (h1.app (.cons (.cls h2 ht) .nil))
  | c1 _ ih =>
    intro v g hg
    exact ⟨_, _, ih v g _ g (.stop (hd_imp hg fun s h => by simp at h ⊢; exact .inr h)), .stop (hd_imp hg fun s h => by simp [kindB] at h ⊢; exact .inl h), fun _ _ h => h⟩
  | c2 _ ih =>
    intro v g hg
    obtain ⟨v1, g1, h1, h2, h3⟩ := ih v g (hd_imp hg fun s h => by simp at h ⊢; rcases h with h | h; exact .inl h; exact .inr (.inr h))
    exact ⟨v1, g1, h1, h3 _ _ (.stop (hd_imp hg fun s h => by simp [kindB] at h ⊢; rcases h with h | h; exact .inl h; exact .inr (.inl h)))⟩
  | @both A B ta tb _ _ iha ihb =>
    intro v g hg
    obtain ⟨v1, g1, h1, h2, h3⟩ := iha v g hg
    have h4 := ihb (A :: v) ("both" :: g) B ("both" :: g) (.stop (hd_cons (by decide +kernel)))
    refine ⟨_, _, h1.app (.cons (.op (e := false) h2) h4), .go (e := false) (by decide +kernel) (.stop (hd_imp hg fun s h => by simp [kindB] at h ⊢; exact .inl h)), fun v' g' h => .go (e := false) (by decide +kernel) h⟩
  | @either A B ta tb _ _ iha ihb =>
    intro v g hg
    obtain ⟨v1, g1, h1, h2⟩ := iha v g hg
    obtain ⟨v2, g2, h3, _, h5⟩ := ihb (A :: v) ("either" :: g) (hd_cons (by decide +kernel))
    refine ⟨v2, g2, h1.app (.cons (.op (e := true) h2) h3), h5 _ _ (.go (e := true) (by decide +kernel) (.stop (hd_imp hg fun s h => by simp [kindB] at h ⊢; rcases h with h | h; exact .inl h; exact .inr (.inl h))))⟩
/-- the first wrong word, from a state on -/
def fwS : Bool → Nat → List Str → Option (Bool × Nat)
  | w, m, [] => some (w, m)
  | true, m, t :: ts => if t = "not" then fwS true m ts else if t = opn then fwS true (m + 1) ts else if wordS t then fwS false m ts else none
  | false, m, t :: ts => if t = "both" ∨ t = "either" then fwS true m ts else if t = cls ∧ 0 < m then fwS false (m - 1) ts else none
theorem Gr.fw {l : Nat} {F : Fm} {ts : List Str} (h : Gr l F ts) : ∀ m us, fwS true m (ts ++ us) = fwS false m us := by
  induction h with
  | lit hz =>
    intro m us
    rcases hz with rfl | rfl | rfl
    · show (if Str.ofString "p" = "not" then _ else _) = _
      rw [if_neg (by decide +kernel), if_neg (by decide +kernel), if_pos (by decide +kernel)]; rfl
    · show (if Str.ofString "q" = "not" then _ else _) = _
      rw [if_neg (by decide +kernel), if_neg (by decide +kernel), if_pos (by decide +kernel)]; rfl
    · show (if Str.ofString "r2" = "not" then _ else _) = _
      rw [if_neg (by decide +kernel), if_neg (by decide +kernel), if_pos (by decide +kernel)]; rfl
  | not _ ih =>
    intro m us
    rw [List.cons_append]
    simp only [fwS, if_true]
    exact ih m us
  | par _ ih =>
    intro m us
    rw [List.cons_append, List.append_assoc]
    show (if opn = "not" then _ else _) = _
    rw [if_neg (by decide +kernel), if_pos rfl, ih]
    show (if cls = "both" ∨ cls = "either" then _ else _) = _
    rw [if_neg (by decide +kernel), if_pos ⟨rfl, by omega⟩]
    rfl
  | c1 _ ih => exact ih
  | c2 _ ih => exact ih
  | both _ _ iha ihb =>
    intro m us
    rw [List.append_assoc, iha, List.cons_append]
    show (if Str.ofString "both" = "both" ∨ _ then _ else _) = _
    rw [if_pos (.inl rfl), ihb]
  | either _ _ iha ihb =>
    intro m us
    rw [List.append_assoc, iha, List.cons_append]
    show (if Str.ofString "either" = "both" ∨ Str.ofString "either" = "either" then _ else _) = _
    rw [if_pos (.inr rfl), ihb]
def Fm.leaves : Fm → Nat
  | .lit _ _ => 1
  | .bin _ a b => a.leaves + b.leaves
theorem Fm.leaves_turn : ∀ F : Fm, F.turn.leaves = F.leaves
  | .lit _ _ => rfl
  | .bin _ a b => by simp only [Fm.turn, Fm.leaves, Fm.leaves_turn a, Fm.leaves_turn b]
theorem Fm.leaves_size : ∀ F : Fm, 2 * F.leaves = F.size + 1
  | .lit _ _ => rfl
  | .bin _ a b => by
    have h1 := Fm.leaves_size a
    have h2 := Fm.leaves_size b
    simp only [Fm.leaves, Fm.size]; omega
def nWords (ts : List Str) : Nat := (ts.filter wordS).length
theorem nWords_app (a b : List Str) : nWords (a ++ b) = nWords a + nWords b := by simp [nWords]
theorem nWords_cons (a : Str) (b : List Str) : nWords (a :: b) = nWords [a] + nWords b := nWords_app [a] b
theorem Gr.words {l : Nat} {F : Fm} {ts : List Str} (h : Gr l F ts) : nWords ts = F.leaves := by
  induction h with
  | lit hz => rcases hz with rfl | rfl | rfl <;> decide +kernel
  | not _ ih => rw [nWords_cons, ih, Fm.leaves_turn, show nWords [Str.ofString "not"] = 0 by decide +kernel, Nat.zero_add]
  | par _ ih => rw [nWords_cons, nWords_app, ih, show nWords [opn] = 0 by decide +kernel, show nWords [cls] = 0 by decide +kernel, Nat.zero_add]; rfl
  | c1 _ ih => exact ih
  | c2 _ ih => exact ih
  | both _ _ iha ihb => rw [nWords_app, nWords_cons, iha, ihb, show nWords [Str.ofString "both"] = 0 by decide +kernel, Nat.zero_add]; rfl
  | either _ _ iha ihb => rw [nWords_app, nWords_cons, iha, ihb, show nWords [Str.ofString "either"] = 0 by decide +kernel, Nat.zero_add]; rfl
theorem Gr.up {l m : Nat} {F : Fm} {ts : List Str} (h : Gr l F ts) (hl : l ≤ m) (hm : m ≤ 2) : Gr m F ts := by
  match l, m, h with
  | 0, 0, h => exact h
  | 0, 1, h => exact h.c1
  | 0, 2, h => exact h.c1.c2
  | 1, 1, h => exact h
  | 1, 2, h => exact h.c2
  | 2, 2, h => exact h
  | l + 3, m, h => omega
  | l, m + 3, h => omega
  | 1, 0, h => omega
  | 2, 0, h => omega
  | 2, 1, h => omega
end K05
set_option Elab.async false
set_option linter.all false
set_option maxRecDepth 100000
set_option maxHeartbeats 1000000
namespace NV
open PySem PySem.Spec PyProof.Rows L2
theorem ixN_lastW (n : Nat) : ixN (n + 1) (-1) = some n := by
  unfold ixN
  rw [if_neg (by omega), if_pos (by omega)]
  congr 1
  omega
theorem atI_lastW {α : Type} (r : List α) (l : α) : atI (r ++ [l]) (-1) = some l := by
  unfold atI
  rw [List.length_append, List.length_singleton, ixN_lastW]
  simp
section
variable {cf : CallF} {ρ ρ1 : Env} {S S1 : Sto} {m : M} {ws : List W}
theorem I_enum (h : AA cf m ρ S [.val (.lst ws)] ρ1 S1) : II cf (.enum m) ρ S (enumL 0 ws) ρ1 S1 := ⟨by simp only [evI, h.h, Out.bind_ok, vals, Option.map_some]⟩
end
theorem p_nin2 {h a b : Str} : PO (.cmp .NotIn) (.str h) (.tup [.str a, .str b]) (.val (.bl (!(decide (h = a) || decide (h = b))))) := by
  have := (p_in2 (h := h) (a := a) (b := b)).h
  constructor
  simp only [pOp2, pCmp] at this ⊢
  cases q : wIn (.str h) (.tup [.str a, .str b]) with
  | none => rw [q] at this; cases this
  | some x =>
    rw [q] at this
    simp only [Option.map_some] at this ⊢
    cases this
    rfl
theorem p_in1 {h a : Str} : PO (.cmp .In) (.str h) (.tup [.str a]) (.val (.bl (decide (h = a)))) := by
  constructor
  have e3 : dOk (.str h) = true := rfl
  simp only [pOp2, pCmp, wIn, wInL, W.toDs, W.toD, e3, if_true, Option.map_some, List.any_cons, List.any_nil, Bool.or_false, eqv_str]
  rw [show decide (a = h) = decide (h = a) from by simp [eq_comm]]
theorem p_adds {a b : Str} (h : a.length + b.length ≤ 1000000) : PO (.bin .Add) (.str a) (.str b) (.val (.str (a ++ b))) := ⟨by
  have : szOk (a.length + b.length) = true := decide_eq_true (Nat.le_trans h (by rw [sizeLine_eq]; omega))
  simp only [pOp2, pBin, this, if_true]⟩
end NV
namespace K05
open PySem PySem.Spec PyProof.Rows L2 NV
local macro_rules | `(tactic| walk_at "nv") => `(tactic| first
  | assumption
  | exact E_cst | exact AA_nil | exact RR_nil | exact O_nil | exact S_nil | exact SF_rt | exact E_gc | exact E_edict | exact FL_nil
  | exact A_pk rfl | apply A_v (hm := rfl) | apply AA_cons | apply RR_cons | apply O_some (hm := rfl)
  | apply S_seq | apply SF_nx | apply S_asg | apply S_ite | apply S_ret | exact S_mvv rfl | exact S_mvo rfl | apply S_put | apply S_par | apply S_expr | apply S_tgt | apply S_forr
  | apply E_op2 | apply E_bi | apply E_me | apply E_isi | apply E_not | apply E_ite | apply E_and | apply E_or | apply E_tup | apply E_lst | apply E_sl | apply E_call | apply E_nm | apply E_neg | apply E_mut | apply E_heap | apply I_rng | apply E_chain
  | apply SB_t (hb := by first | rfl | assumption | (rw [Bool.not_eq_true']; assumption) | (rw [Bool.not_eq_false']; assumption)) | apply SB_f (hb := by first | rfl | assumption | (rw [Bool.not_eq_true']; assumption) | (rw [Bool.not_eq_false']; assumption)) | apply EB_t (hb := by first | rfl | assumption | (rw [Bool.not_eq_true']; assumption) | (rw [Bool.not_eq_false']; assumption)) | apply EB_f (hb := by first | rfl | assumption | (rw [Bool.not_eq_true']; assumption) | (rw [Bool.not_eq_false']; assumption)) | apply CH_t (hb := by first | rfl | assumption | (rw [Bool.not_eq_true']; assumption) | (rw [Bool.not_eq_false']; assumption)) | exact CH_f (hb := by first | rfl | assumption | (rw [Bool.not_eq_true']; assumption) | (rw [Bool.not_eq_false']; assumption))
  | exact p_add | exact p_sub | exact ⟨rfl⟩ | exact List.Pairwise.nil | exact List.pairwise_singleton .. | rfl | decide)
def wiB : MS := (.seq (.asg 4 (.op2 (.cmp .In) (.pk 1) (.op2 (.bin .Add) (.gc "LETTERS" (.str "abcdefghijklmnopqrstuvwxyz")) (.gc "FIGURES" (.str "0123456789"))))) (.seq (.ite (.and (.nm 4) (.nm 3)) (.seq (.put 2 (.neg (.cst (.int 1))) (.op2 (.bin .Add) (.op2 .ix (.pk 2) (.neg (.cst (.int 1)))) (.pk 1))) .nil) (.seq (.ite (.op2 (.cmp .NotIn) (.pk 1) (.cst (.str " \n"))) (.seq (.expr (.mut .append 2 (.cons (.nm 1) .nil))) .nil) .nil) .nil)) (.seq (.asg 3 (.nm 4)) .nil)))
def fwB : MS := (.seq (.ite (.nm 1) (.seq (.ite (.and (.op2 (.cmp .NotIn) (.pk 4) (.tup (.cons (.cst (.str "not")) (.cons (.cst (.str "(")) .nil)))) (.not (.call 0 (.cons (.nm 4) .nil)))) (.seq (.mvr 3) .nil) .nil) (.seq (.par [1, 2] (.cons (.op2 (.cmp .In) (.pk 4) (.tup (.cons (.cst (.str "not")) (.cons (.cst (.str "(")) .nil)))) (.cons (.op2 (.bin .Add) (.pk 2) (.bi .int (.cons (.op2 (.cmp .Eq) (.pk 4) (.cst (.str "("))) .nil))) .nil))) .nil)) (.seq (.ite (.op2 (.cmp .In) (.pk 4) (.tup (.cons (.cst (.str "both")) (.cons (.cst (.str "either")) .nil)))) (.seq (.asg 1 (.cst (.bl true))) .nil) (.seq (.ite (.and (.op2 (.cmp .Eq) (.pk 4) (.cst (.str ")"))) (.op2 (.cmp .Gt) (.pk 2) (.cst (.int 0)))) (.seq (.asg 2 (.op2 (.bin .Sub) (.pk 2) (.cst (.int 1)))) .nil) (.seq (.mvr 3) .nil)) .nil)) .nil)) .nil)
def jbT : M := (.and (.op2 (.cmp .NotEq) (.pk 1) (.lst .nil)) (.op2 (.cmp .In) (.op2 .ix (.pk 1) (.neg (.cst (.int 1)))) (.pk 2)))
def jbB : MS := (.seq (.asg 3 (.mut .pop 0 .nil)) (.seq (.expr (.mut .append 0 (.cons (.tup (.cons (.mut .pop 1 .nil) (.cons (.mut .pop 0 .nil) (.cons (.nm 3) .nil)))) .nil))) .nil))
def tlT : M := (.and (.op2 (.cmp .NotEq) (.pk 1) (.lst .nil)) (.op2 (.cmp .Eq) (.op2 .ix (.pk 1) (.neg (.cst (.int 1)))) (.cst (.str "not"))))
def tlB : MS := (.seq (.expr (.mut .pop 1 .nil)) (.seq (.expr (.mut .append 0 (.cons (.call 6 (.cons (.mut .pop 0 .nil) .nil)) .nil))) .nil))
def buB : MS := (.seq (.ite (.op2 (.cmp .In) (.pk 1) (.tup (.cons (.cst (.str "not")) (.cons (.cst (.str "(")) .nil)))) (.seq (.expr (.mut .append 3 (.cons (.nm 1) .nil))) .nil) (.seq (.ite (.op2 (.cmp .In) (.pk 1) (.tup (.cons (.cst (.str "both")) (.cons (.cst (.str "either")) .nil)))) (.seq (.expr (.call 13 (.cons (.pk 2) (.cons (.pk 3) (.cons (.ite (.op2 (.cmp .Eq) (.pk 1) (.cst (.str "both"))) (.tup (.cons (.cst (.str "both")) .nil)) (.tup (.cons (.cst (.str "both")) (.cons (.cst (.str "either")) .nil)))) .nil))))) (.seq (.expr (.mut .append 3 (.cons (.nm 1) .nil))) .nil)) (.seq (.ite (.op2 (.cmp .Eq) (.pk 1) (.cst (.str ")"))) (.seq (.expr (.call 13 (.cons (.pk 2) (.cons (.pk 3) (.cons (.tup (.cons (.cst (.str "both")) (.cons (.cst (.str "either")) .nil))) .nil))))) (.seq (.expr (.mut .pop 3 .nil)) .nil)) (.seq (.expr (.mut .append 2 (.cons (.tup (.cons (.cst (.str "is")) (.cons (.nm 1) .nil))) .nil))) .nil)) (.seq (.expr (.call 14 (.cons (.pk 2) (.cons (.pk 3) .nil)))) .nil))) .nil)) .nil)
def wiE (z : Str) (told : List W) (run : Bool) (x : Option (W × Bool)) : NV.Env := match x with
  | none => [some (.val (.str z)), none, some (.own (false, told)), some (.val (.bl run)), none]
  | some (s, o) => [some (.val (.str z)), some (.val s), some (.own (false, told)), some (.val (.bl run)), some (.val (.bl o))]
theorem wi_turn (n : Nat) (S : Sto) (z : Str) (told : List Str) (run : Bool) (c : Nat) (x : Option (W × Bool)) (h1 : run = true → told ≠ []) (h2 : told.length ≤ 5000) (h3 : ∀ t ∈ told, t.length ≤ 5000) :
    ∃ ρ1, asgT (.tnm 1) (.str ⟨#[c]⟩) (wiE z (told.map W.str) run x) = some ρ1 ∧ SS (callT T n) wiB ρ1 S .nx (wiE z ((stepC (told, run) c).1.map W.str) (stepC (told, run) c).2 (some (.str ⟨#[c]⟩, ownC c))) S := by
  have e1 := p_addLF
  have e2 : PO (.cmp .In) (.str ⟨#[c]⟩) (.str LF) (.val (.bl (ownC c))) := ⟨rfl⟩
  have e3 : PO (.cmp .NotIn) (.str ⟨#[c]⟩) (.str " \n") (.val (.bl (!sepC c))) := ⟨rfl⟩
  obtain ⟨ρ1, hρ, hρ2⟩ : ∃ ρ1, asgT (.tnm 1) (.str ⟨#[c]⟩) (wiE z (told.map W.str) run x) = some ρ1 ∧ (ρ1 = [some (.val (.str z)), some (.val (.str ⟨#[c]⟩)), some (.own (false, told.map W.str)), some (.val (.bl run)), none] ∨ ∃ o, ρ1 = [some (.val (.str z)), some (.val (.str ⟨#[c]⟩)), some (.own (false, told.map W.str)), some (.val (.bl run)), some (.val (.bl o))]) := by
    cases x with
    | none => exact ⟨_, rfl, .inl rfl⟩
    | some p => obtain ⟨s, o⟩ := p; exact ⟨_, rfl, .inr ⟨o, rfl⟩⟩
  refine ⟨ρ1, hρ, ?_⟩
  clear hρ
  cases ho : ownC c with
  | true =>
    rw [ho] at e2
    cases run with
    | true =>
      obtain ⟨r, l, rfl⟩ : ∃ r l, told = r ++ [l] := by
        rcases List.eq_nil_or_concat told with e | ⟨r, l, e⟩
        · exact absurd e (h1 rfl)
        · exact ⟨r, l, by rw [e, List.concat_eq_append]⟩
      have hl := h3 l (by simp)
      have es : stepC (r ++ [l], true) c = (r ++ [l ++ ⟨#[c]⟩], true) := by
        unfold stepC
        rw [ho]
        simp
      rw [es]
      have e4 : PO .ix (.lst (r.map W.str ++ [.str l])) (.int (-1)) (.val (.str l)) := p_ixl (atI_lastW _ _)
      have e5 : PO (.bin .Add) (.str l) (.str ⟨#[c]⟩) (.val (.str (l ++ ⟨#[c]⟩))) := p_adds (by show l.length + 1 ≤ _; omega)
      have e6 : ixN (r.map W.str ++ [W.str l]).length (-1) = some (r.map W.str).length := by rw [List.length_append, List.length_singleton]; exact ixN_lastW _
      have e7 : (r.map W.str ++ [W.str l]).set (r.map W.str).length (.str (l ++ ⟨#[c]⟩)) = r.map W.str ++ [.str (l ++ ⟨#[c]⟩)] := by simp
      rw [show (r ++ [l]).map W.str = r.map W.str ++ [W.str l] by simp] at hρ2
      rw [show (r ++ [l ++ ⟨#[c]⟩]).map W.str = r.map W.str ++ [W.str (l ++ ⟨#[c]⟩)] by simp, ← e7]
      generalize r.map W.str = R at e4 e6 e7 hρ2 ⊢
      unfold wiB wiE
      rcases hρ2 with rfl | ⟨o, rfl⟩ <;> repeat (walk_at "nv")
    | false =>
      have es : stepC (told, false) c = (told ++ [⟨#[c]⟩], true) := by
        unfold stepC
        rw [ho, own_sep ho]; rfl
      rw [own_sep ho] at e3
      rw [es]
      have mu : ∀ ρ, muE .append (told.map W.str) ρ S [.val (.str ⟨#[c]⟩)] = some (.non, told.map W.str ++ [.str ⟨#[c]⟩]) := fun ρ => by
        simp only [muE]
        rw [if_pos (by rw [List.length_map, sizeLine_eq]; omega)]
      rw [show (told ++ [(⟨#[c]⟩ : Str)]).map W.str = told.map W.str ++ [W.str ⟨#[c]⟩] by simp]
      generalize told.map W.str = R at mu hρ2 ⊢
      unfold wiB wiE
      rcases hρ2 with rfl | ⟨o, rfl⟩ <;> repeat (first | walk_at "nv" | exact mu _)
  | false =>
    rw [ho] at e2
    cases hs : sepC c with
    | true =>
      rw [hs] at e3
      have es : stepC (told, run) c = (told, false) := by
        unfold stepC
        rw [ho, hs]; rfl
      rw [es]
      unfold wiB wiE
      rcases hρ2 with rfl | ⟨o, rfl⟩ <;> repeat (walk_at "nv")
    | false =>
      rw [hs] at e3
      have es : stepC (told, run) c = (told ++ [⟨#[c]⟩], false) := by
        unfold stepC
        rw [ho, hs]; rfl
      rw [es]
      have mu : ∀ ρ, muE .append (told.map W.str) ρ S [.val (.str ⟨#[c]⟩)] = some (.non, told.map W.str ++ [.str ⟨#[c]⟩]) := fun ρ => by
        simp only [muE]
        rw [if_pos (by rw [List.length_map, sizeLine_eq]; omega)]
      rw [show (told ++ [(⟨#[c]⟩ : Str)]).map W.str = told.map W.str ++ [W.str ⟨#[c]⟩] by simp]
      generalize told.map W.str = R at mu hρ2 ⊢
      unfold wiB wiE
      rcases hρ2 with rfl | ⟨o, rfl⟩ <;> repeat (first | walk_at "nv" | exact mu _)
theorem step_inv {told : List Str} {run : Bool} {c k : Nat} (h1 : run = true → told ≠ []) (h2 : told.length ≤ k) (h3 : ∀ t ∈ told, t.length ≤ k) :
    ((stepC (told, run) c).2 = true → (stepC (told, run) c).1 ≠ []) ∧ (stepC (told, run) c).1.length ≤ k + 1 ∧ ∀ t ∈ (stepC (told, run) c).1, t.length ≤ k + 1 := by
  unfold stepC
  by_cases hb : (ownC c && run) = true
  · rw [if_pos hb]
    rw [Bool.and_eq_true] at hb
    obtain ⟨r, l, rfl⟩ : ∃ r l, told = r ++ [l] := by
      rcases List.eq_nil_or_concat told with e | ⟨r, l, e⟩
      · exact absurd e (h1 hb.2)
      · exact ⟨r, l, by rw [e, List.concat_eq_append]⟩
    simp only [List.reverse_append, List.reverse_cons, List.reverse_nil, List.nil_append, List.singleton_append, List.reverse_reverse]
    refine ⟨fun _ => by simp, by simpa using Nat.le_succ_of_le h2, fun t ht => ?_⟩
    rcases List.mem_append.mp ht with ht | ht
    · exact Nat.le_succ_of_le (h3 t (List.mem_append_left _ ht))
    · rw [List.mem_singleton] at ht
      rw [ht]
      have := h3 l (by simp)
      rw [← ch_len, ch_app, List.length_append, ch_len]
      show l.length + 1 ≤ _
      omega
  · rw [if_neg hb]
    cases hs : sepC c with
    | true =>
      rw [sep_own hs]
      exact ⟨fun h => by simp at h, Nat.le_succ_of_le h2, fun t ht => Nat.le_succ_of_le (h3 t ht)⟩
    | false =>
      refine ⟨fun _ => by simp, by simp; omega, fun t ht => ?_⟩
      have ht : t ∈ told ++ [(⟨#[c]⟩ : Str)] := ht
      rcases List.mem_append.mp ht with ht | ht
      · exact Nat.le_succ_of_le (h3 t ht)
      · rw [List.mem_singleton] at ht
        rw [ht]
        show 1 ≤ _
        omega
theorem wi_loop (n : Nat) (S : Sto) (z : Str) : ∀ (l : List Nat) (told : List Str) (run : Bool) (x : Option (W × Bool)) (k : Nat), (run = true → told ≠ []) → told.length ≤ k → (∀ t ∈ told, t.length ≤ k) → k + l.length ≤ 5000 →
    ∃ y, FL (asgT (.tnm 1)) (callT T n) wiB (l.map fun c => W.str ⟨#[c]⟩) (wiE z (told.map W.str) run x) S .nx (wiE z ((l.foldl stepC (told, run)).1.map W.str) (l.foldl stepC (told, run)).2 y) S
  | [], told, run, x, k, _, _, _, _ => ⟨x, FL_nil⟩
  | c :: l, told, run, x, k, h1, h2, h3, h4 => by
    rw [List.length_cons] at h4
    obtain ⟨ρ1, q1, q2⟩ := wi_turn n S z told run c x h1 (by omega) (fun t ht => by have := h3 t ht; omega)
    obtain ⟨i1, i2, i3⟩ := step_inv (c := c) h1 h2 h3
    obtain ⟨y, q3⟩ := wi_loop n S z l (stepC (told, run) c).1 (stepC (told, run) c).2 (some (.str ⟨#[c]⟩, ownC c)) (k + 1) i1 i2 i3 (by omega)
    exact ⟨y, FL_cons q1 q2 q3⟩
theorem g_words_in (n : Nat) (S : Sto) {z : Str} {ts : List Str} (h : Scn z ts) (hl : z.length ≤ 5000) : CC (callT T (n + 1)) i_words_in [.val (.str z)] S (.fresh (ts.map W.str)) [some (.val (.str z))] S := by
  obtain ⟨r, hr⟩ := h []
  obtain ⟨y, q⟩ := wi_loop n S z (ch z) [] false none 0 (fun h => nomatch h) (Nat.zero_le _) (fun t ht => nomatch ht) (by rw [ch_len]; omega)
  rw [hr, List.nil_append] at q
  have q : FL (asgT (.tnm 1)) (callT T n) wiB ((ch z).map fun c => W.str ⟨#[c]⟩) [some (.val (.str z)), none, some (.own (false, [])), some (.val (.bl false)), none] S .nx (wiE z (ts.map W.str) r y) S := q
  apply run_rt (hD := rfl) (hl := rfl)
  · show SS _ m_words_in [some (.val (.str z)), none, none, none, none] _ _ _ _
    have h1 : SS (callT T n) (.par [2, 3] (.cons (.lst .nil) (.cons (.cst (.bl false)) .nil))) [some (.val (.str z)), none, none, none, none] S .nx [some (.val (.str z)), none, some (.own (false, [])), some (.val (.bl false)), none] S := by repeat (walk_at "nv")
    have h2 : II (callT T n) (.seq (.nm 0)) [some (.val (.str z)), none, some (.own (false, [])), some (.val (.bl false)), none] S ((ch z).map fun c => W.str ⟨#[c]⟩) [some (.val (.str z)), none, some (.own (false, [])), some (.val (.bl false)), none] S := I_str (E_nm rfl) rfl
    refine S_seq h1 (SF_nx (S_seq (S_forr h2 q) (SF_nx (S_seq (f1 := .rt (.fresh (ts.map W.str))) (ρ1 := (wiE z (ts.map W.str) r y).set 2 none) (S1 := S) ?_ SF_rt))))
    cases y <;> exact S_mvo rfl
  · cases y <;> rfl
end K05
set_option Elab.async false
set_option linter.all false
set_option maxRecDepth 100000
set_option maxHeartbeats 1000000
namespace K05
open PySem PySem.Spec PyProof.Rows L2 NV
local macro_rules | `(tactic| walk_at "nv") => `(tactic| first
  | assumption
  | exact E_cst | exact AA_nil | exact RR_nil | exact O_nil | exact S_nil | exact SF_rt | exact E_gc | exact E_edict | exact FL_nil
  | exact A_pk rfl | apply A_v (hm := rfl) | apply AA_cons | apply RR_cons | apply O_some (hm := rfl)
  | apply S_seq | apply SF_nx | apply S_asg | apply S_ite | apply S_ret | exact S_mvv rfl | exact S_mvo rfl | apply S_put | apply S_par | apply S_expr | apply S_tgt | apply S_forr
  | apply E_op2 | apply E_bi | apply E_me | apply E_isi | apply E_not | apply E_ite | apply E_and | apply E_or | apply E_tup | apply E_lst | apply E_sl | apply E_call | apply E_nm | apply E_neg | apply E_mut | apply E_heap | apply I_rng | apply E_chain
  | apply SB_t (hb := by first | rfl | assumption | (rw [Bool.not_eq_true']; assumption) | (rw [Bool.not_eq_false']; assumption)) | apply SB_f (hb := by first | rfl | assumption | (rw [Bool.not_eq_true']; assumption) | (rw [Bool.not_eq_false']; assumption)) | apply EB_t (hb := by first | rfl | assumption | (rw [Bool.not_eq_true']; assumption) | (rw [Bool.not_eq_false']; assumption)) | apply EB_f (hb := by first | rfl | assumption | (rw [Bool.not_eq_true']; assumption) | (rw [Bool.not_eq_false']; assumption)) | apply CH_t (hb := by first | rfl | assumption | (rw [Bool.not_eq_true']; assumption) | (rw [Bool.not_eq_false']; assumption)) | exact CH_f (hb := by first | rfl | assumption | (rw [Bool.not_eq_true']; assumption) | (rw [Bool.not_eq_false']; assumption))
  | exact p_add | exact p_sub | exact ⟨rfl⟩ | exact List.Pairwise.nil | exact List.pairwise_singleton .. | rfl | decide)
theorem Gr.short {l : Nat} {F : Fm} {ts : List Str} (h : Gr l F ts) : ∀ t ∈ ts, t.length ≤ 10 := by
  induction h with
  | lit hz =>
    intro t ht
    rw [List.mem_singleton] at ht
    rw [ht]
    rcases hz with rfl | rfl | rfl <;> decide +kernel
  | not _ ih =>
    intro t ht
    rcases List.mem_cons.mp ht with rfl | ht
    · decide +kernel
    · exact ih t ht
  | par _ ih =>
    intro t ht
    rcases List.mem_cons.mp ht with rfl | ht
    · decide +kernel
    · rcases List.mem_append.mp ht with ht | ht
      · exact ih t ht
      · rw [List.mem_singleton] at ht; rw [ht]; decide +kernel
  | c1 _ ih => exact ih
  | c2 _ ih => exact ih
  | both _ _ iha ihb =>
    intro t ht
    rcases List.mem_append.mp ht with ht | ht
    · exact iha t ht
    · rcases List.mem_cons.mp ht with rfl | ht
      · decide +kernel
      · exact ihb t ht
  | either _ _ iha ihb =>
    intro t ht
    rcases List.mem_append.mp ht with ht | ht
    · exact iha t ht
    · rcases List.mem_cons.mp ht with rfl | ht
      · decide +kernel
      · exact ihb t ht
def fwE (ws : List W) (w : Bool) (m : Int) (x : Option (W × W)) : NV.Env := match x with
  | none => [some (.val (.lst ws)), some (.val (.bl w)), some (.val (.int m)), none, none]
  | some (a, b) => [some (.val (.lst ws)), some (.val (.bl w)), some (.val (.int m)), some (.val a), some (.val b)]
theorem fw_turn (n : Nat) (S : Sto) (ws : List W) (w w' : Bool) (m m' : Nat) (x : Option (W × W)) (a : W) (t : Str) (ht : t.length ≤ 10) (h : fwS w m [t] = some (w', m')) :
    ∃ ρ1, asgT (.ttup (.cons (.tnm 3) (.cons (.tnm 4) .nil))) (.tup [a, .str t]) (fwE ws w m x) = some ρ1 ∧ SS (callT T (n + 1)) fwB ρ1 S .nx (fwE ws w' m' (some (a, .str t))) S := by
  refine ⟨[some (.val (.lst ws)), some (.val (.bl w)), some (.val (.int m)), some (.val a), some (.val (.str t))], by cases x <;> rfl, ?_⟩
  have hw := f_is_word n t S (by have := line1000; omega)
  have e1 := p_nin2 (h := t) (a := "not") (b := "(")
  have e2 := p_in2 (h := t) (a := "not") (b := "(")
  have e3 := p_in2 (h := t) (a := "both") (b := "either")
  have e4 := p_eqstr (a := t) (b := "(")
  have e5 := p_eqstr (a := t) (b := ")")
  unfold fwB
  show SS _ _ _ _ _ [some (.val (.lst ws)), some (.val (.bl w')), some (.val (.int m')), some (.val a), some (.val (.str t))] _
  cases w with
  | true =>
    simp only [fwS] at h
    by_cases c1 : t = "not"
    · rw [if_pos c1] at h
      cases h
      subst c1
      have e1 : PO (.cmp .NotIn) (.str "not") (.tup [.str "not", .str "("]) (.val (.bl false)) := e1
      have e2 : PO (.cmp .In) (.str "not") (.tup [.str "not", .str "("]) (.val (.bl true)) := e2
      have e4 : PO (.cmp .Eq) (.str "not") (.str "(") (.val (.bl false)) := by
        have q := e4
        rw [show decide (Str.ofString "not" = "(") = false by decide +kernel] at q
        exact q
      have e6 : PO (.bin .Add) (.int m) (.int 0) (.val (.int m)) := by
        have q := p_add (i := (m : Int)) (j := 0)
        rw [Int.add_zero] at q
        exact q
      repeat (walk_at "nv")
    · rw [if_neg c1] at h
      by_cases c2 : t = opn
      · rw [if_pos c2] at h
        cases h
        subst c2
        have e1 : PO (.cmp .NotIn) (.str opn) (.tup [.str "not", .str "("]) (.val (.bl false)) := by
          have q := e1
          rw [show (decide (opn = "not") || decide (opn = "(")) = true by decide +kernel] at q
          exact q
        have e2 : PO (.cmp .In) (.str opn) (.tup [.str "not", .str "("]) (.val (.bl true)) := by
          have q := e2
          rw [show (decide (opn = "not") || decide (opn = "(")) = true by decide +kernel] at q
          exact q
        have e4 : PO (.cmp .Eq) (.str opn) (.str "(") (.val (.bl true)) := by
          have q := e4
          rw [show decide (opn = "(") = true by decide +kernel] at q
          exact q
        have e6 : PO (.bin .Add) (.int m) (.int 1) (.val (.int ((m + 1 : Nat) : Int))) := p_add
        repeat (walk_at "nv")
      · rw [if_neg c2] at h
        cases hq : wordS t with
        | false => rw [hq, if_neg (by decide)] at h; cases h
        | true =>
          rw [hq, if_pos rfl] at h
          cases h
          rw [hq] at hw
          have ef : (decide (t = "not") || decide (t = "(")) = false := by
            rw [decide_eq_false c1, decide_eq_false (p := t = "(") c2]; rfl
          rw [ef] at e1 e2
          rw [decide_eq_false (p := t = "(") c2] at e4
          have e6 : PO (.bin .Add) (.int m) (.int 0) (.val (.int m)) := by
            have q := p_add (i := (m : Int)) (j := 0)
            rw [Int.add_zero] at q
            exact q
          repeat (walk_at "nv")
  | false =>
    simp only [fwS] at h
    by_cases c1 : t = "both" ∨ t = "either"
    · rw [if_pos c1] at h
      cases h
      have ef : (decide (t = "both") || decide (t = "either")) = true := by simpa using c1
      rw [ef] at e3
      repeat (walk_at "nv")
    · rw [if_neg c1] at h
      by_cases c2 : t = cls ∧ 0 < m
      · rw [if_pos c2] at h
        cases h
        have ef : (decide (t = "both") || decide (t = "either")) = false := by
          rw [Bool.eq_false_iff]; intro z; exact c1 (by simpa using z)
        rw [ef] at e3
        have e5 : PO (.cmp .Eq) (.str t) (.str ")") (.val (.bl true)) := by
          have q := e5
          rw [decide_eq_true (p := t = ")") c2.1] at q
          exact q
        have d1 : decide ((0 : Int) < m) = true := decide_eq_true (by omega)
        have e6 : PO (.bin .Sub) (.int m) (.int 1) (.val (.int ((m - 1 : Nat) : Int))) := by
          have q := p_sub (i := (m : Int)) (j := 1)
          rw [show (m : Int) - 1 = ((m - 1 : Nat) : Int) by omega] at q
          exact q
        repeat (walk_at "nv")
      · rw [if_neg c2] at h; cases h
theorem fwS_cons {w w' : Bool} {m m' : Nat} {t : Str} {ts : List Str} (h : fwS w m (t :: ts) = some (w', m')) : ∃ w1 m1, fwS w m [t] = some (w1, m1) ∧ fwS w1 m1 ts = some (w', m') := by
  cases w with
  | true =>
    simp only [fwS] at h ⊢
    by_cases c1 : t = "not"
    · rw [if_pos c1] at h ⊢; exact ⟨_, _, rfl, h⟩
    · rw [if_neg c1] at h ⊢
      by_cases c2 : t = opn
      · rw [if_pos c2] at h ⊢; exact ⟨_, _, rfl, h⟩
      · rw [if_neg c2] at h ⊢
        by_cases c3 : wordS t = true
        · rw [if_pos c3] at h ⊢; exact ⟨_, _, rfl, h⟩
        · rw [if_neg c3] at h; cases h
  | false =>
    simp only [fwS] at h ⊢
    by_cases c1 : t = "both" ∨ t = "either"
    · rw [if_pos c1] at h ⊢; exact ⟨_, _, rfl, h⟩
    · rw [if_neg c1] at h ⊢
      by_cases c2 : t = cls ∧ 0 < m
      · rw [if_pos c2] at h ⊢; exact ⟨_, _, rfl, h⟩
      · rw [if_neg c2] at h; cases h
theorem fw_loop (n : Nat) (S : Sto) (ws : List W) : ∀ (ts : List Str) (k : Nat) (w w' : Bool) (m m' : Nat) (x : Option (W × W)), (∀ t ∈ ts, t.length ≤ 10) → fwS w m ts = some (w', m') →
    ∃ y, FL (asgT (.ttup (.cons (.tnm 3) (.cons (.tnm 4) .nil)))) (callT T (n + 1)) fwB (enumL k (ts.map W.str)) (fwE ws w m x) S .nx (fwE ws w' m' y) S
  | [], k, w, w', m, m', x, _, h => by
    have h : some (w, m) = some (w', m') := by cases w <;> exact h
    cases h
    exact ⟨x, FL_nil⟩
  | t :: ts, k, w, w', m, m', x, hs, h => by
    obtain ⟨w1, m1, h1, h2⟩ := fwS_cons h
    obtain ⟨ρ1, q1, q2⟩ := fw_turn n S ws w w1 m m1 x (.int k) t (hs t (List.mem_cons_self ..)) h1
    obtain ⟨y, q3⟩ := fw_loop n S ws ts (k + 1) w1 w' m1 m' (some (.int k, .str t)) (fun u hu => hs u (List.mem_cons_of_mem _ hu)) h2
    exact ⟨y, FL_cons q1 q2 q3⟩
theorem g_first_wrong (n : Nat) (S : Sto) {l : Nat} {F : Fm} {ts : List Str} (h : Gr l F ts) : CC (callT T (n + 2)) i_first_wrong_in [.val (.lst (ts.map W.str))] S (.val .non) [some (.val (.lst (ts.map W.str)))] S := by
  have hf : fwS true 0 ts = some (false, 0) := by
    have := h.fw 0 []
    rw [List.append_nil] at this
    rw [this]; rfl
  obtain ⟨y, q⟩ := fw_loop n S (ts.map W.str) ts 0 true false 0 0 none h.short hf
  have q : FL (asgT (.ttup (.cons (.tnm 3) (.cons (.tnm 4) .nil)))) (callT T (n + 1)) fwB (enumL 0 (ts.map W.str)) [some (.val (.lst (ts.map W.str))), some (.val (.bl true)), some (.val (.int 0)), none, none] S .nx (fwE (ts.map W.str) false 0 y) S := q
  have e : PO (.cmp .Eq) (.int 0) (.int 0) (.val (.bl true)) := p_eqint' rfl
  generalize ts.map W.str = R at q ⊢
  rcases y with _ | ⟨a, b⟩ <;> unfold fwE at q <;> apply run_rt (hD := rfl) (hl := rfl)
  · show SS _ m_first_wrong_in [some (.val (.lst R)), none, none, none, none] _ _ _ _
    repeat (first | walk_at "nv" | apply I_enum)
  · rfl
  · show SS _ m_first_wrong_in [some (.val (.lst R)), none, none, none, none] _ _ _ _
    repeat (first | walk_at "nv" | apply I_enum)
  · rfl
end K05
set_option Elab.async false
set_option linter.all false
set_option maxRecDepth 100000
set_option maxHeartbeats 1000000
namespace K05
open PySem PySem.Spec PyProof.Rows L2 NV
local macro_rules | `(tactic| walk_at "nv") => `(tactic| first
  | assumption
  | exact E_cst | exact AA_nil | exact RR_nil | exact O_nil | exact S_nil | exact SF_rt | exact E_gc | exact E_edict | exact FL_nil
  | exact A_pk rfl | apply A_v (hm := rfl) | apply AA_cons | apply RR_cons | apply O_some (hm := rfl)
  | apply S_seq | apply SF_nx | apply S_asg | apply S_ite | apply S_ret | exact S_mvv rfl | exact S_mvo rfl | apply S_put | apply S_par | apply S_expr | apply S_tgt | apply S_forr
  | apply E_op2 | apply E_bi | apply E_me | apply E_isi | apply E_not | apply E_ite | apply E_and | apply E_or | apply E_tup | apply E_lst | apply E_sl | apply E_call | apply E_nm | apply E_neg | apply E_mut | apply E_heap | apply I_rng | apply E_chain
  | apply SB_t (hb := by first | rfl | assumption | (rw [Bool.not_eq_true']; assumption) | (rw [Bool.not_eq_false']; assumption)) | apply SB_f (hb := by first | rfl | assumption | (rw [Bool.not_eq_true']; assumption) | (rw [Bool.not_eq_false']; assumption)) | apply EB_t (hb := by first | rfl | assumption | (rw [Bool.not_eq_true']; assumption) | (rw [Bool.not_eq_false']; assumption)) | apply EB_f (hb := by first | rfl | assumption | (rw [Bool.not_eq_true']; assumption) | (rw [Bool.not_eq_false']; assumption)) | apply CH_t (hb := by first | rfl | assumption | (rw [Bool.not_eq_true']; assumption) | (rw [Bool.not_eq_false']; assumption)) | exact CH_f (hb := by first | rfl | assumption | (rw [Bool.not_eq_true']; assumption) | (rw [Bool.not_eq_false']; assumption))
  | exact p_add | exact p_sub | exact ⟨rfl⟩ | exact List.Pairwise.nil | exact List.pairwise_singleton .. | rfl | decide)
def VG (v : List Fm) : List W := v.reverse.map Fm.w
def SG (g : List Str) : List W := g.reverse.map W.str
theorem VG_cons (f : Fm) (v : List Fm) : VG (f :: v) = VG v ++ [f.w] := by simp [VG]
theorem SG_cons (s : Str) (g : List Str) : SG (s :: g) = SG g ++ [.str s] := by simp [SG]
theorem VG_len (v : List Fm) : (VG v).length = v.length := by simp [VG]
theorem SG_len (g : List Str) : (SG g).length = g.length := by simp [SG]
def kW (k : Bool) : W := if k then .tup [.str "both", .str "either"] else .tup [.str "both"]
theorem p_kind (k : Bool) (s : Str) : PO (.cmp .In) (.str s) (kW k) (.val (.bl (kindB k s))) := by
  cases k
  · have := p_in1 (h := s) (a := "both")
    unfold kindB
    rw [Bool.false_and, Bool.or_false]
    exact this
  · have := p_in2 (h := s) (a := "both") (b := "either")
    unfold kindB
    rw [Bool.true_and]
    exact this
theorem kW_nores (k : Bool) (S : Sto) : res S (kW k) = kW k := by cases k <;> rfl
theorem p_signs (g : List Str) : PO (.cmp .NotEq) (.lst (SG g)) (.lst []) (.val (.bl (!g.isEmpty))) := by
  have := p_nenil (l := SG g) (strs_toDs (l := g.reverse))
  have e : (SG g).isEmpty = g.isEmpty := by cases g <;> simp [SG]
  rw [e] at this
  exact this
def sumL (v : List Fm) : Nat := (v.map Fm.leaves).sum
theorem Fm.leaves_pos : ∀ F : Fm, 1 ≤ F.leaves
  | .lit _ _ => Nat.le_refl _
  | .bin _ a b => by have := Fm.leaves_pos a; show 1 ≤ a.leaves + b.leaves; omega
theorem Fm.depth_leaves : ∀ F : Fm, F.depth ≤ F.leaves
  | .lit _ _ => Nat.le_refl _
  | .bin _ a b => by
    have h1 := Fm.depth_leaves a
    have h2 := Fm.depth_leaves b
    have h3 := Fm.leaves_pos a
    have h4 := Fm.leaves_pos b
    show 1 + max a.depth b.depth ≤ a.leaves + b.leaves
    omega
theorem len_sumL : ∀ v : List Fm, v.length ≤ sumL v
  | [] => Nat.le_refl _
  | f :: v => by
    have h1 := len_sumL v
    have h2 := f.leaves_pos
    show v.length + 1 ≤ f.leaves + sumL v
    omega
theorem Jn.sum {k : Bool} {v v' : List Fm} {g g' : List Str} (h : Jn k v g v' g') : sumL v' = sumL v ∧ g'.length ≤ g.length := by
  induction h with
  | stop _ => exact ⟨rfl, Nat.le_refl _⟩
  | @go a b v v' e g g' _ _ ih =>
    refine ⟨?_, by rw [List.length_cons]; omega⟩
    rw [ih.1]
    show a.leaves + b.leaves + sumL v = b.leaves + (a.leaves + sumL v)
    omega
theorem Tl.sum {f f' : Fm} {g g' : List Str} (h : Tl f g f' g') : f'.leaves = f.leaves ∧ g'.length ≤ g.length := by
  induction h with
  | stop _ => exact ⟨rfl, Nat.le_refl _⟩
  | go _ ih => exact ⟨by rw [ih.1, Fm.leaves_turn], by rw [List.length_cons]; omega⟩
def jbE (v : List Fm) (g : List Str) (k : W) (x : Option W) : NV.Env := match x with
  | none => [some (.own (true, VG v)), some (.own (true, SG g)), some (.val k), none]
  | some x => [some (.own (true, VG v)), some (.own (true, SG g)), some (.val k), some (.val x)]
theorem jb_stop (n : Nat) (S : Sto) (k : Bool) (v : List Fm) (g : List Str) (x : Option W) (h : hdOk (kindB k) g = true) : EV (callT T n) jbT (jbE v g (kW k) x) S (.val (.bl false)) (jbE v g (kW k) x) S := by
  have e1 := p_signs g
  cases g with
  | nil =>
    have e1 : PO (.cmp .NotEq) (.lst (SG [])) (.lst []) (.val (.bl false)) := e1
    unfold jbT
    generalize kW k = kk
    cases x <;> unfold jbE <;> generalize SG [] = G at e1 ⊢ <;> repeat (walk_at "nv")
  | cons s g =>
    have e1 : PO (.cmp .NotEq) (.lst (SG (s :: g))) (.lst []) (.val (.bl true)) := e1
    have e2 : PO .ix (.lst (SG (s :: g))) (.int (-1)) (.val (.str s)) := by rw [SG_cons]; exact p_ixl (atI_lastW _ _)
    have e3 := p_kind k s
    simp only [hdOk, Bool.not_eq_true'] at h
    rw [h] at e3
    rw [← kW_nores k S] at e3
    unfold jbT
    generalize kW k = kk at e3 ⊢
    cases x <;> unfold jbE <;> generalize SG (s :: g) = G at e1 e2 ⊢ <;> repeat (walk_at "nv")
theorem jb_test (n : Nat) (S : Sto) (k : Bool) (v : List Fm) (s : Str) (g : List Str) (x : Option W) (h : kindB k s = true) : EV (callT T n) jbT (jbE v (s :: g) (kW k) x) S (.val (.bl true)) (jbE v (s :: g) (kW k) x) S := by
  have e1 : PO (.cmp .NotEq) (.lst (SG (s :: g))) (.lst []) (.val (.bl true)) := p_signs (s :: g)
  have e2 : PO .ix (.lst (SG (s :: g))) (.int (-1)) (.val (.str s)) := by rw [SG_cons]; exact p_ixl (atI_lastW _ _)
  have e3 := p_kind k s
  rw [h] at e3
  rw [← kW_nores k S] at e3
  unfold jbT
  generalize kW k = kk at e3 ⊢
  cases x <;> unfold jbE <;> generalize SG (s :: g) = G at e1 e2 ⊢ <;> repeat (walk_at "nv")
theorem jb_go (n : Nat) (S : Sto) (k : W) (v : List Fm) (a b : Fm) (e : Bool) (g : List Str) (x : Option W) (hl : v.length ≤ 1000) :
    SS (callT T n) jbB (jbE (b :: a :: v) ((if e then "either" else "both") :: g) k x) S .nx (jbE (.bin e a b :: v) g k (some b.w)) S := by
  have m1 : ∀ ρ, muE .pop (VG v ++ [a.w] ++ [b.w]) ρ S [] = some (b.w, VG v ++ [a.w]) := fun ρ => mu_pop
  have m2 : ∀ ρ, muE .pop (SG g ++ [.str (if e then "either" else "both")]) ρ S [] = some (.str (if e then "either" else "both"), SG g) := fun ρ => mu_pop
  have m3 : ∀ ρ, muE .pop (VG v ++ [a.w]) ρ S [] = some (a.w, VG v) := fun ρ => mu_pop
  have m4 : ∀ ρ, muE .append (VG v) ρ S [.val (.tup [.str (if e then "either" else "both"), a.w, b.w])] = some (.non, VG v ++ [.tup [.str (if e then "either" else "both"), a.w, b.w]]) := fun ρ => by
    simp only [muE]
    rw [if_pos (by rw [VG_len, sizeLine_eq]; omega)]
  have e1 : ∀ x, jbE (.bin e a b :: v) g k (some x) = [some (.own (true, VG v ++ [.tup [.str (if e then "either" else "both"), a.w, b.w]])), some (.own (true, SG g)), some (.val k), some (.val x)] := fun x => by
    unfold jbE
    rw [VG_cons]; rfl
  rw [e1]
  have e2 : jbE (b :: a :: v) ((if e then "either" else "both") :: g) k x = (match x with
    | none => [some (.own (true, VG v ++ [a.w] ++ [b.w])), some (.own (true, SG g ++ [.str (if e then "either" else "both")])), some (.val k), none]
    | some x => [some (.own (true, VG v ++ [a.w] ++ [b.w])), some (.own (true, SG g ++ [.str (if e then "either" else "both")])), some (.val k), some (.val x)]) := by
    unfold jbE
    rw [VG_cons, VG_cons, SG_cons]
  rw [e2]
  clear e1 e2
  generalize VG v = V at m1 m2 m3 m4 ⊢
  generalize SG g = G at m1 m2 m3 m4 ⊢
  generalize (if e then Str.ofString "either" else Str.ofString "both") = sg at m2 m4 ⊢
  generalize a.w = aw at m1 m3 m4 ⊢
  generalize b.w = bw at m1 m4 ⊢
  unfold jbB
  cases x <;> repeat (first | exact m1 _ | exact m2 _ | exact m3 _ | exact m4 _ | walk_at "nv")
theorem jb_loop (n : Nat) (S : Sto) {k : Bool} {v v' : List Fm} {g g' : List Str} (h : Jn k v g v' g') : ∀ (fuel : Nat) (x : Option W), g.length < fuel → sumL v ≤ 1000 → ∃ y, WL (callT T n) jbT jbB fuel (jbE v g (kW k) x) S .nx (jbE v' g' (kW k) y) S := by
  induction h with
  | stop hs =>
    intro fuel x hf _
    obtain ⟨f, rfl⟩ : ∃ f, fuel = f + 1 := ⟨fuel - 1, by omega⟩
    exact ⟨x, W_stop (jb_stop n S k _ _ x hs)⟩
  | @go a b v v' e g g' hk _ ih =>
    intro fuel x hf hv
    obtain ⟨f, rfl⟩ : ∃ f, fuel = f + 1 := ⟨fuel - 1, by omega⟩
    have hl := len_sumL (b :: a :: v)
    simp only [List.length_cons] at hl hf
    have hs : sumL (.bin e a b :: v) = sumL (b :: a :: v) := by
      show a.leaves + b.leaves + sumL v = b.leaves + (a.leaves + sumL v)
      omega
    obtain ⟨y, q⟩ := ih f (some b.w) (by omega) (by rw [hs]; exact hv)
    exact ⟨y, W_go (jb_test n S k _ _ g x hk) (jb_go n S (kW k) v a b e g x (by omega)) q⟩
theorem g_join (n : Nat) (S : Sto) {k : Bool} {v v' : List Fm} {g g' : List Str} (h : Jn k v g v' g') (hg : g.length ≤ 4000) (hv : sumL v ≤ 1000) :
    CC (callT T (n + 1)) i_join_both [.own (true, VG v), .own (true, SG g), .val (kW k)] S (.val .non) [some (.own (true, VG v')), some (.own (true, SG g')), some (.val (kW k))] S := by
  obtain ⟨y, q⟩ := jb_loop n S h 4096 none (by omega) hv
  apply run_nx (hD := rfl) (hl := rfl)
  · show SS _ (.seq (.whl 4096 jbT jbB) .nil) [some (.own (true, VG v)), some (.own (true, SG g)), some (.val (kW k)), none] _ _ _ _
    exact S_seq (S_whl q) (SF_nx S_nil)
  · cases y <;> rfl
def tlE (f : Fm) (v : List Fm) (g : List Str) : NV.Env := [some (.own (true, VG v ++ [f.w])), some (.own (true, SG g))]
theorem tl_loop (n : Nat) (S : Sto) (v : List Fm) (hv : v.length ≤ 1000) {f f' : Fm} {g g' : List Str} (h : Tl f g f' g') : ∀ (fuel : Nat), g.length < fuel → f.leaves ≤ n → WL (callT T n) tlT tlB fuel (tlE f v g) S .nx (tlE f' v g') S := by
  induction h with
  | @stop f g hs =>
    intro fuel hf _
    obtain ⟨fu, rfl⟩ : ∃ fu, fuel = fu + 1 := ⟨fuel - 1, by omega⟩
    apply W_stop
    have e1 := p_signs g
    cases g with
    | nil =>
      have e1 : PO (.cmp .NotEq) (.lst (SG [])) (.lst []) (.val (.bl false)) := e1
      unfold tlE
      generalize SG [] = G at e1
      generalize VG v ++ [f.w] = V
      unfold tlT
      repeat (walk_at "nv")
    | cons s g =>
      have e1 : PO (.cmp .NotEq) (.lst (SG (s :: g))) (.lst []) (.val (.bl true)) := e1
      have e2 : PO .ix (.lst (SG (s :: g))) (.int (-1)) (.val (.str s)) := by rw [SG_cons]; exact p_ixl (atI_lastW _ _)
      have e3 := p_eqstr (a := s) (b := "not")
      simp only [hdOk, Bool.not_eq_true'] at hs
      rw [hs] at e3
      unfold tlE
      generalize SG (s :: g) = G at e1 e2
      generalize VG v ++ [f.w] = V
      unfold tlT
      repeat (walk_at "nv")
  | @go f f' g g' _ ih =>
    intro fuel hf hn
    obtain ⟨fu, rfl⟩ : ∃ fu, fuel = fu + 1 := ⟨fuel - 1, by omega⟩
    rw [List.length_cons] at hf
    have q := ih fu (by omega) (by rw [Fm.leaves_turn]; exact hn)
    have e1 : PO (.cmp .NotEq) (.lst (SG ("not" :: g))) (.lst []) (.val (.bl true)) := p_signs ("not" :: g)
    rw [SG_cons] at e1
    have e2 : PO .ix (.lst (SG g ++ [.str "not"])) (.int (-1)) (.val (.str "not")) := p_ixl (atI_lastW _ _)
    have e3 : PO (.cmp .Eq) (.str "not") (.str "not") (.val (.bl true)) := by
      have q := p_eqstr (a := "not") (b := "not")
      rw [decide_eq_true rfl] at q
      exact q
    have hc := g_turned_in S f n (by have := f.depth_leaves; omega)
    have m1 : ∀ ρ, muE .pop (SG g ++ [.str "not"]) ρ S [] = some (.str "not", SG g) := fun ρ => mu_pop
    have m2 : ∀ ρ, muE .pop (VG v ++ [f.w]) ρ S [] = some (f.w, VG v) := fun ρ => mu_pop
    have m3 : ∀ ρ, muE .append (VG v) ρ S [.val f.turn.w] = some (.non, VG v ++ [f.turn.w]) := fun ρ => by
      simp only [muE]
      rw [if_pos (by rw [VG_len, sizeLine_eq]; omega)]
    have ee : tlE f v ("not" :: g) = [some (.own (true, VG v ++ [f.w])), some (.own (true, SG g ++ [.str "not"]))] := by unfold tlE; rw [SG_cons]
    rw [ee]
    refine W_go (ρ1 := [some (.own (true, VG v ++ [f.w])), some (.own (true, SG g ++ [.str "not"]))]) (S1 := S) ?_ (ρ2 := tlE f.turn v g) (S2 := S) ?_ q
    · generalize SG g ++ [.str "not"] = G at e1 e2
      generalize VG v ++ [f.w] = V
      unfold tlT
      repeat (walk_at "nv")
    · unfold tlE
      generalize SG g = G at m1
      generalize VG v = V at m2 m3
      generalize f.turn.w = tw at hc m3
      generalize f.w = fw at hc m2
      unfold tlB
      repeat (first | exact m1 _ | exact m2 _ | exact m3 _ | walk_at "nv")
theorem g_turn_last (n : Nat) (S : Sto) (v : List Fm) {f f' : Fm} {g g' : List Str} (h : Tl f g f' g') (hv : v.length ≤ 1000) (hg : g.length ≤ 4000) (hn : f.leaves ≤ n) :
    CC (callT T (n + 1)) i_turn_last [.own (true, VG (f :: v)), .own (true, SG g)] S (.val .non) [some (.own (true, VG (f' :: v))), some (.own (true, SG g'))] S := by
  have q := tl_loop n S v hv h 4096 (by omega) hn
  rw [VG_cons, VG_cons]
  apply run_nx (hD := rfl) (hl := rfl)
  · show SS _ (.seq (.whl 4096 tlT tlB) .nil) (tlE f v g) _ _ _ _
    exact S_seq (S_whl q) (SF_nx S_nil)
  · rfl
end K05
set_option Elab.async false
set_option linter.all false
set_option maxRecDepth 100000
set_option maxHeartbeats 1000000
namespace K05
open PySem PySem.Spec PyProof.Rows L2 NV
local macro_rules | `(tactic| walk_at "nv") => `(tactic| first
  | assumption
  | exact E_cst | exact AA_nil | exact RR_nil | exact O_nil | exact S_nil | exact SF_rt | exact E_gc | exact E_edict | exact FL_nil
  | exact A_pk rfl | apply A_v (hm := rfl) | apply AA_cons | apply RR_cons | apply O_some (hm := rfl)
  | apply S_seq | apply SF_nx | apply S_asg | apply S_ite | apply S_ret | exact S_mvv rfl | exact S_mvo rfl | apply S_put | apply S_par | apply S_expr | apply S_tgt | apply S_forr
  | apply E_op2 | apply E_bi | apply E_me | apply E_isi | apply E_not | apply E_ite | apply E_and | apply E_or | apply E_tup | apply E_lst | apply E_sl | apply E_call | apply E_nm | apply E_neg | apply E_mut | apply E_heap | apply I_rng | apply E_chain
  | apply SB_t (hb := by first | rfl | assumption | (rw [Bool.not_eq_true']; assumption) | (rw [Bool.not_eq_false']; assumption)) | apply SB_f (hb := by first | rfl | assumption | (rw [Bool.not_eq_true']; assumption) | (rw [Bool.not_eq_false']; assumption)) | apply EB_t (hb := by first | rfl | assumption | (rw [Bool.not_eq_true']; assumption) | (rw [Bool.not_eq_false']; assumption)) | apply EB_f (hb := by first | rfl | assumption | (rw [Bool.not_eq_true']; assumption) | (rw [Bool.not_eq_false']; assumption)) | apply CH_t (hb := by first | rfl | assumption | (rw [Bool.not_eq_true']; assumption) | (rw [Bool.not_eq_false']; assumption)) | exact CH_f (hb := by first | rfl | assumption | (rw [Bool.not_eq_true']; assumption) | (rw [Bool.not_eq_false']; assumption))
  | exact p_add | exact p_sub | exact ⟨rfl⟩ | exact List.Pairwise.nil | exact List.pairwise_singleton .. | rfl | decide)
def buE (ws : List W) (x : Option W) (v : List Fm) (g : List Str) : NV.Env := match x with
  | none => [some (.val (.lst ws)), none, some (.own (false, VG v)), some (.own (false, SG g))]
  | some x => [some (.val (.lst ws)), some (.val x), some (.own (false, VG v)), some (.own (false, SG g))]
theorem Bs.sum {v v' : List Fm} {g g' : List Str} {t : Str} (h : Bs v g t v' g') : sumL v' ≤ sumL v + nWords [t] ∧ g'.length ≤ g.length + 1 := by
  induction h with
  | opn _ => exact ⟨by omega, by simp⟩
  | op h => have := h.sum; exact ⟨by omega, by rw [List.length_cons]; omega⟩
  | @cls v1 g g1 g2 f f' h1 h2 =>
    obtain ⟨a1, a2⟩ := h1.sum
    obtain ⟨b1, b2⟩ := h2.sum
    have e : sumL (f' :: v1) = sumL (f :: v1) := by show f'.leaves + sumL v1 = f.leaves + sumL v1; omega
    rw [List.length_cons] at a2
    exact ⟨by omega, by omega⟩
  | @word g g' t f hz h2 =>
    obtain ⟨b1, b2⟩ := h2.sum
    have e : sumL (f :: v) = 1 + sumL v := by
      show f.leaves + sumL v = 1 + sumL v
      rw [b1]; rfl
    have e2 : nWords [t] = 1 := by rcases hz with rfl | rfl | rfl <;> decide +kernel
    exact ⟨by omega, by omega⟩
theorem bu_turn (n : Nat) (S : Sto) (ws : List W) (x : Option W) {v v' : List Fm} {g g' : List Str} {t : Str} (h : Bs v g t v' g') (hn : 32 ≤ n) (hv : sumL v ≤ 30) (hv' : sumL v' ≤ 30) (hg : g.length ≤ 3999) :
    ∃ ρ1, asgT (.tnm 1) (.str t) (buE ws x v g) = some ρ1 ∧ SS (callT T n) buB ρ1 S .nx (buE ws (some (.str t)) v' g') S := by
  refine ⟨buE ws (some (.str t)) v g, by cases x <;> rfl, ?_⟩
  obtain ⟨n, rfl⟩ : ∃ m, n = m + 1 := ⟨n - 1, by omega⟩
  have ma : ∀ (g : List Str) (s : Str) ρ, g.length ≤ 4000 → muE .append (SG g) ρ S [.val (.str s)] = some (.non, SG g ++ [.str s]) := fun g s ρ hg => by
    simp only [muE]
    rw [if_pos (by rw [SG_len, sizeLine_eq]; omega)]
  unfold buE
  induction h with
  | @opn g t ht =>
    have e1 := p_in2 (h := t) (a := "not") (b := "(")
    have e2 := p_in2 (h := t) (a := "both") (b := "either")
    have e3 := p_eqstr (a := t) (b := ")")
    have m1 := fun ρ => ma g t ρ (by omega)
    rw [SG_cons]
    have ef : (decide (t = "not") || decide (t = "(")) = true := by
      rcases ht with rfl | rfl <;> decide +kernel
    rw [ef] at e1
    generalize SG g = G at m1 ⊢
    generalize VG v = V
    unfold buB
    repeat (first | exact m1 _ | walk_at "nv")
  | @op v' g g1 e hj =>
    have q := g_join n S hj (by omega) (by omega)
    have m1 := fun ρ => ma g1 (if e then "either" else "both") ρ (by have := hj.sum; omega)
    rw [SG_cons]
    cases e with
    | false =>
      have q : CC (callT T (n + 1)) i_join_both [.own (true, VG v), .own (true, SG g), .val (.tup [.str "both"])] S (.val .non) [some (.own (true, VG v')), some (.own (true, SG g1)), some (.val (.tup [.str "both"]))] S := q
      have m1 : ∀ ρ, muE .append (SG g1) ρ S [.val (.str "both")] = some (.non, SG g1 ++ [.str "both"]) := m1
      have e1 : PO (.cmp .In) (.str "both") (.tup [.str "not", .str "("]) (.val (.bl false)) := p_in2
      have e2 : PO (.cmp .In) (.str "both") (.tup [.str "both", .str "either"]) (.val (.bl true)) := p_in2
      have e4 : PO (.cmp .Eq) (.str "both") (.str "both") (.val (.bl true)) := p_eqstr
      show SS _ _ [some (.val (.lst ws)), some (.val (.str "both")), some (.own (false, VG v)), some (.own (false, SG g))] _ _ [some (.val (.lst ws)), some (.val (.str "both")), some (.own (false, VG v')), some (.own (false, SG g1 ++ [.str "both"]))] _
      generalize SG g1 = G1 at m1 q ⊢
      generalize SG g = G at q ⊢
      generalize VG v = V at q ⊢
      generalize VG v' = V1 at q ⊢
      unfold buB
      repeat (first | exact m1 _ | walk_at "nv")
    | true =>
      have q : CC (callT T (n + 1)) i_join_both [.own (true, VG v), .own (true, SG g), .val (.tup [.str "both", .str "either"])] S (.val .non) [some (.own (true, VG v')), some (.own (true, SG g1)), some (.val (.tup [.str "both", .str "either"]))] S := q
      have m1 : ∀ ρ, muE .append (SG g1) ρ S [.val (.str "either")] = some (.non, SG g1 ++ [.str "either"]) := m1
      have e1 : PO (.cmp .In) (.str "either") (.tup [.str "not", .str "("]) (.val (.bl false)) := p_in2
      have e2 : PO (.cmp .In) (.str "either") (.tup [.str "both", .str "either"]) (.val (.bl true)) := p_in2
      have e4 : PO (.cmp .Eq) (.str "either") (.str "both") (.val (.bl false)) := p_eqstr
      show SS _ _ [some (.val (.lst ws)), some (.val (.str "either")), some (.own (false, VG v)), some (.own (false, SG g))] _ _ [some (.val (.lst ws)), some (.val (.str "either")), some (.own (false, VG v')), some (.own (false, SG g1 ++ [.str "either"]))] _
      generalize SG g1 = G1 at m1 q ⊢
      generalize SG g = G at q ⊢
      generalize VG v = V at q ⊢
      generalize VG v' = V1 at q ⊢
      unfold buB
      repeat (first | exact m1 _ | walk_at "nv")
  | @cls v1 g g1 g' f f' h1 h2 =>
    have hs := h1.sum
    have hl := len_sumL (f :: v1)
    rw [List.length_cons] at hs hl
    have hf : f.leaves ≤ 30 := by
      have : sumL (f :: v1) = f.leaves + sumL v1 := rfl
      omega
    have q := g_join n S h1 (by omega) (by omega)
    have q2 := g_turn_last n S v1 h2 (by omega) (by omega) (by omega)
    rw [SG_cons] at q
    have m1 : ∀ ρ, muE .pop (SG g1 ++ [.str opn]) ρ S [] = some (.str opn, SG g1) := fun ρ => mu_pop
    have q : CC (callT T (n + 1)) i_join_both [.own (true, VG v), .own (true, SG g), .val (.tup [.str "both", .str "either"])] S (.val .non) [some (.own (true, VG (f :: v1))), some (.own (true, SG g1 ++ [.str opn])), some (.val (.tup [.str "both", .str "either"]))] S := q
    have e1 : PO (.cmp .In) (.str K05.cls) (.tup [.str "not", .str "("]) (.val (.bl false)) := p_in2
    have e2 : PO (.cmp .In) (.str K05.cls) (.tup [.str "both", .str "either"]) (.val (.bl false)) := p_in2
    have e3 : PO (.cmp .Eq) (.str K05.cls) (.str ")") (.val (.bl true)) := p_eqstr
    show SS _ _ [some (.val (.lst ws)), some (.val (.str K05.cls)), some (.own (false, VG v)), some (.own (false, SG g))] _ _ [some (.val (.lst ws)), some (.val (.str K05.cls)), some (.own (false, VG (f' :: v1))), some (.own (false, SG g'))] _
    generalize SG g1 = G1 at m1 q q2 ⊢
    generalize SG g = G at q ⊢
    generalize SG g' = G2 at q2 ⊢
    generalize VG v = V at q ⊢
    generalize VG (f :: v1) = V1 at q q2 ⊢
    generalize VG (f' :: v1) = V2 at q2 ⊢
    unfold buB
    repeat (first | exact m1 _ | walk_at "nv")
  | @word g g' t f hz h2 =>
    have e1 := p_in2 (h := t) (a := "not") (b := "(")
    have e2 := p_in2 (h := t) (a := "both") (b := "either")
    have e3 := p_eqstr (a := t) (b := ")")
    have hs := len_sumL v
    have q2 := g_turn_last n S v h2 (by omega) (by omega) (by show 1 ≤ n; omega)
    rw [VG_cons] at q2
    have m1 : ∀ ρ, muE .append (VG v) ρ S [.val (.tup [.str "is", .str t])] = some (.non, VG v ++ [.tup [.str "is", .str t]]) := fun ρ => by
      simp only [muE]
      rw [if_pos (by rw [VG_len, sizeLine_eq]; omega)]
    have q2 : CC (callT T (n + 1)) i_turn_last [.own (true, VG v ++ [.tup [.str "is", .str t]]), .own (true, SG g)] S (.val .non) [some (.own (true, VG (f :: v))), some (.own (true, SG g'))] S := q2
    have ef : (decide (t = "not") || decide (t = "(")) = false ∧ (decide (t = "both") || decide (t = "either")) = false ∧ decide (t = ")") = false := by
      rcases hz with rfl | rfl | rfl <;> decide +kernel
    rw [ef.1] at e1
    rw [ef.2.1] at e2
    rw [ef.2.2] at e3
    show SS _ _ [some (.val (.lst ws)), some (.val (.str t)), some (.own (false, VG v)), some (.own (false, SG g))] _ _ [some (.val (.lst ws)), some (.val (.str t)), some (.own (false, VG (f :: v))), some (.own (false, SG g'))] _
    generalize SG g = G at q2 ⊢
    generalize SG g' = G2 at q2 ⊢
    generalize VG v = V at m1 q2 ⊢
    generalize VG (f :: v) = V2 at q2 ⊢
    unfold buB
    repeat (first | exact m1 _ | walk_at "nv")
theorem bu_loop (n : Nat) (S : Sto) (ws : List W) (hn : 32 ≤ n) {v v' : List Fm} {g g' : List Str} {ts : List Str} (h : Bss v g ts v' g') : ∀ (x : Option W), sumL v + nWords ts ≤ 30 → g.length + ts.length ≤ 3999 →
    ∃ y, FL (asgT (.tnm 1)) (callT T n) buB (ts.map W.str) (buE ws x v g) S .nx (buE ws y v' g') S := by
  induction h with
  | nil => exact fun x _ _ => ⟨x, FL_nil⟩
  | @cons v v1 v2 g g1 g2 t ts h1 h2 ih =>
    intro x hv hg
    rw [nWords_cons] at hv
    rw [List.length_cons] at hg
    obtain ⟨s1, s2⟩ := h1.sum
    obtain ⟨ρ1, q1, q2⟩ := bu_turn n S ws x h1 hn (by omega) (by omega) (by omega)
    obtain ⟨y, q3⟩ := ih (some (.str t)) (by omega) (by omega)
    exact ⟨y, FL_cons q1 q2 q3⟩
theorem Bss.sum {v v' : List Fm} {g g' : List Str} {ts : List Str} (h : Bss v g ts v' g') : sumL v' ≤ sumL v + nWords ts ∧ g'.length ≤ g.length + ts.length := by
  induction h with
  | nil => exact ⟨by omega, by omega⟩
  | @cons v v1 v2 g g1 g2 t ts h1 h2 ih =>
    obtain ⟨s1, s2⟩ := h1.sum
    rw [nWords_cons, List.length_cons]
    omega
theorem g_built (n : Nat) (S : Sto) {l : Nat} {F : Fm} {ts : List Str} (h : Gr l F ts) (hl : l ≤ 2) (hn : 32 ≤ n) (hF : F.leaves ≤ 30) (ht : ts.length ≤ 3000) :
    CC (callT T (n + 1)) i_built [.val (.lst (ts.map W.str))] S (.val F.w) [some (.val (.lst (ts.map W.str)))] S := by
  obtain ⟨v1, g1, b1, b2⟩ := (h.up hl (Nat.le_refl 2)).parse [] [] rfl
  have hw := h.words
  have e0 : sumL [] = 0 := rfl
  obtain ⟨y, q⟩ := bu_loop n S (ts.map W.str) hn b1 none (by rw [e0, hw]; omega) (by simp; omega)
  obtain ⟨s1, s2⟩ := b1.sum
  obtain ⟨m, rfl⟩ : ∃ m, n = m + 1 := ⟨n - 1, by omega⟩
  rw [e0, hw] at s1
  have q2 := g_join m S b2 (by simp at s2; omega) (by omega)
  have q2 : CC (callT T (m + 1)) i_join_both [.own (true, VG v1), .own (true, SG g1), .val (.tup [.str "both", .str "either"])] S (.val .non) [some (.own (true, [F.w])), some (.own (true, [])), some (.val (.tup [.str "both", .str "either"]))] S := q2
  have e2 : PO .ix (.lst [F.w]) (.int 0) (.val F.w) := p_ixl rfl
  have q : FL (asgT (.tnm 1)) (callT T (m + 1)) buB (ts.map W.str) [some (.val (.lst (ts.map W.str))), none, some (.own (false, [])), some (.own (false, []))] S .nx (buE (ts.map W.str) y v1 g1) S := q
  generalize ts.map W.str = R at q ⊢
  generalize F.w = fw at q2 e2 ⊢
  cases y <;> unfold buE at q <;> generalize VG v1 = V at q q2 <;> generalize SG g1 = G at q q2 <;> apply run_rt (hD := rfl) (hl := rfl)
  · show SS _ m_built [some (.val (.lst R)), none, none, none] _ _ _ _
    repeat (first | walk_at "nv" | apply I_ls)
  · rfl
  · show SS _ m_built [some (.val (.lst R)), none, none, none] _ _ _ _
    repeat (first | walk_at "nv" | apply I_ls)
  · rfl
end K05
set_option Elab.async false
set_option linter.all false
set_option maxRecDepth 100000
set_option maxHeartbeats 1000000
namespace K05
open PySem PySem.Spec PyProof.Rows L2 NV
local macro_rules | `(tactic| walk_at "nv") => `(tactic| first
  | assumption
  | exact E_cst | exact AA_nil | exact RR_nil | exact O_nil | exact S_nil | exact SF_rt | exact E_gc | exact E_edict | exact FL_nil
  | exact A_pk rfl | apply A_v (hm := rfl) | apply AA_cons | apply RR_cons | apply O_some (hm := rfl)
  | apply S_seq | apply SF_nx | apply S_asg | apply S_ite | apply S_ret | exact S_mvv rfl | exact S_mvo rfl | apply S_put | apply S_par | apply S_expr | apply S_tgt | apply S_forr
  | apply E_op2 | apply E_bi | apply E_me | apply E_isi | apply E_not | apply E_ite | apply E_and | apply E_or | apply E_tup | apply E_lst | apply E_sl | apply E_call | apply E_nm | apply E_neg | apply E_mut | apply E_heap | apply I_rng | apply E_chain
  | apply SB_t (hb := by first | rfl | assumption | (rw [Bool.not_eq_true']; assumption) | (rw [Bool.not_eq_false']; assumption)) | apply SB_f (hb := by first | rfl | assumption | (rw [Bool.not_eq_true']; assumption) | (rw [Bool.not_eq_false']; assumption)) | apply EB_t (hb := by first | rfl | assumption | (rw [Bool.not_eq_true']; assumption) | (rw [Bool.not_eq_false']; assumption)) | apply EB_f (hb := by first | rfl | assumption | (rw [Bool.not_eq_true']; assumption) | (rw [Bool.not_eq_false']; assumption)) | apply CH_t (hb := by first | rfl | assumption | (rw [Bool.not_eq_true']; assumption) | (rw [Bool.not_eq_false']; assumption)) | exact CH_f (hb := by first | rfl | assumption | (rw [Bool.not_eq_true']; assumption) | (rw [Bool.not_eq_false']; assumption))
  | exact p_add | exact p_sub | exact ⟨rfl⟩ | exact List.Pairwise.nil | exact List.pairwise_singleton .. | rfl | decide)
theorem step_len (s : List Str × Bool) (c : Nat) : (stepC s c).1.length ≤ s.1.length + 1 := by
  unfold stepC
  split
  · split
    · simp
    · rename_i l r e
      have : s.1.length = r.length + 1 := by rw [← List.length_reverse, e]; rfl
      simp; omega
  · show (if sepC c then s.1 else s.1 ++ [⟨#[c]⟩]).length ≤ _
    split
    · omega
    · simp
theorem fold_len : ∀ (l : List Nat) (s : List Str × Bool), (l.foldl stepC s).1.length ≤ s.1.length + l.length
  | [], s => by simp
  | c :: l, s => by
    have h1 := fold_len l (stepC s c)
    have h2 := step_len s c
    rw [List.foldl_cons, List.length_cons]
    omega
theorem Scn.len {z : Str} {ts : List Str} (h : Scn z ts) : ts.length ≤ z.length := by
  obtain ⟨r, e⟩ := h []
  have := fold_len (ch z) ([], false)
  rw [e, List.nil_append, ch_len] at this
  simpa using this
theorem words_filter (ts : List Str) : ((ts.map W.str).filter wordW).length = nWords ts := by
  rw [List.filter_map, List.length_map]; rfl
/-- a text that tells a formula -/
structure Tx (l : Nat) (F : Fm) (z : Str) (b : Nat) : Prop where
  h : ∃ ts, Scn z ts ∧ Gr l F ts
  len : z.length ≤ b
theorem g_read_in (n : Nat) (S : Sto) {l b : Nat} {F : Fm} {z : Str} (h : Tx l F z b) (hl : l ≤ 2) (hF : F.Fit) (hb : b ≤ 3000) (hn : 34 ≤ n) :
    CC (callT T n) i_read_in [.val (.str z)] S (.val (.tup [F.w, .non])) [some (.val (.str z))] S := by
  obtain ⟨⟨ts, h1, h2⟩, h3⟩ := h
  obtain ⟨m, rfl⟩ : ∃ m, n = m + 4 := ⟨n - 4, by omega⟩
  have hlv : F.leaves ≤ 30 := by have := F.leaves_size; have := hF.s; omega
  have htl := h1.len
  have c1 := g_words_in (m + 2) S h1 (by omega)
  have c2 := g_first_wrong (m + 1) S h2
  have c3 := g_built (m + 2) S h2 hl (by omega) hlv (by omega)
  have c4 := g_is_formula_in m F.w S (Fm.gd hF.ok)
  rw [Fm.isFm hF.ok hF.d hF.s] at c4
  have hi : II (callT T (m + 3)) (.seq (.nm 1)) [some (.val (.str z)), some (.val (.lst (ts.map W.str))), some (.val .non), none, none] S (ts.map W.str) [some (.val (.str z)), some (.val (.lst (ts.map W.str))), some (.val .non), none, none] S := I_ls (E_nm rfl)
  have q := E_lcp (own := [4]) (tgt := .tnm 4) (cond := .call 0 (.cons (.nm 4) .nil)) (elt := .nm 4) (P := wordW) (g := id) hi rfl (fun x hx => ?_) (by rw [List.length_map, sizeLine_eq]; omega)
  · rw [List.map_id] at q
    have q : EV (callT T (m + 3)) (.lc [4] (.seq (.nm 1)) (.tnm 4) (.call 0 (.cons (.nm 4) .nil)) (.nm 4)) [some (.val (.str z)), some (.val (.lst (ts.map W.str))), some (.val .non), none, none] S (.fresh ((ts.map W.str).filter wordW)) [some (.val (.str z)), some (.val (.lst (ts.map W.str))), some (.val .non), none, none] S := q
    have hw := words_filter ts
    rw [h2.words] at hw
    have l1 : pBi .len [.lst ((ts.map W.str).filter wordW)] = some (.val (.int F.leaves)) := by rw [← hw]; rfl
    generalize (ts.map W.str).filter wordW = Q at q l1
    have d1 : decide ((30 : Int) < (F.leaves : Int)) = false := decide_eq_false (by omega)
    clear hi hw
    generalize ts.map W.str = R at c1 c2 c3 q
    generalize F.w = fw at c3 c4 ⊢
    apply run_rt (hD := rfl) (hl := rfl)
    · show SS _ m_read_in [some (.val (.str z)), none, none, none, none] _ _ _ _
      repeat (walk_at "nv")
    · rfl
  · obtain ⟨t, ht, rfl⟩ := List.mem_map.mp hx
    have := h2.short t ht
    have c0 := g_is_word (m + 2) (.str t) S (by simp only [gdW, decide_eq_true_eq]; omega)
    generalize ts.map W.str = R
    refine ⟨[some (.val (.str z)), some (.val (.lst R)), some (.val .non), none, some (.val (.str t))], rfl, [some (.val (.str z)), some (.val (.lst R)), some (.val .non), none, some (.val (.str t))], ?_, fun _ => ⟨.val (.str t), _, E_nm rfl, rfl, rfl⟩, fun _ => rfl⟩
    repeat (walk_at "nv")
theorem f_check_text (n : Nat) (S : Sto) (z : Str) : CC (callT T (n + 1)) i_check_text [.val (.str z)] S (.val .non) [some (.val (.str z))] S := by
  apply run_nx (hD := rfl) (hl := rfl)
  · show SS _ m_check_text [some (.val (.str z))] _ _ _ _
    repeat (walk_at "nv")
  · rfl
theorem g_fot (n : Nat) (S : Sto) {l b : Nat} {F : Fm} {z : Str} (h : Tx l F z b) (hl : l ≤ 2) (hF : F.Fit) (hb : b ≤ 3000) (hn : 35 ≤ n) :
    CC (callT T n) i_formula_of_text [.val (.str z)] S (.val F.w) [some (.val (.str z))] S := by
  obtain ⟨m, rfl⟩ : ∃ m, n = m + 2 := ⟨n - 2, by omega⟩
  have c1 := f_check_text m S z
  have c2 := g_read_in (m + 1) S h hl hF hb (by omega)
  generalize F.w = fw at c2 ⊢
  apply run_rt (hD := rfl) (hl := rfl)
  · show SS _ m_formula_of_text [some (.val (.str z)), none, none] _ _ _ _
    repeat (walk_at "nv")
  · rfl
theorem g_wrong (n : Nat) (S : Sto) {l b : Nat} {F : Fm} {z : Str} (h : Tx l F z b) (hl : l ≤ 2) (hF : F.Fit) (hb : b ≤ 3000) (hn : 35 ≤ n) :
    CC (callT T n) i_wrong_word [.val (.str z)] S (.val .non) [some (.val (.str z))] S := by
  obtain ⟨m, rfl⟩ : ∃ m, n = m + 2 := ⟨n - 2, by omega⟩
  have c1 := f_check_text m S z
  have c2 := g_read_in (m + 1) S h hl hF hb (by omega)
  generalize F.w = fw at c2
  have e : PO .ix (.tup [fw, .non]) (.int 1) (.val .non) := p_ixt rfl
  apply run_rt (hD := rfl) (hl := rfl)
  · show SS _ m_wrong_word [some (.val (.str z))] _ _ _ _
    repeat (walk_at "nv")
  · rfl
/-! ### texts made -/
def wd (e : Bool) : Str := if e then "either" else "both"
def lvl : Fm → Nat
  | .lit _ _ => 0
  | .bin false _ _ => 1
  | .bin true _ _ => 2
theorem sl_app (a b : Str) : (a ++ b).length = a.length + b.length := by rw [← ch_len, ch_app, List.length_append, ch_len, ch_len]
theorem Tx.up {l m : Nat} {F : Fm} {z : Str} {b : Nat} (h : Tx l F z b) (hl : l ≤ m) (hm : m ≤ 2) : Tx m F z b := by
  obtain ⟨⟨ts, h1, h2⟩, h3⟩ := h
  exact ⟨⟨ts, h1, h2.up hl hm⟩, h3⟩
theorem Tx.le {l : Nat} {F : Fm} {z : Str} {b c : Nat} (h : Tx l F z b) (hc : b ≤ c) : Tx l F z c := ⟨h.h, Nat.le_trans h.len hc⟩
structure Gap (g : Str) : Prop where
  s : isSep g
  n : ch g ≠ []
  l : g.length ≤ 3
theorem wd_own (e : Bool) : (∀ c ∈ ch (wd e), ownC c = true) ∧ ch (wd e) ≠ [] ∧ (wd e).length ≤ 6 := by cases e <;> decide +kernel
theorem Tx.bin {e : Bool} {A B : Fm} {za zb g1 g2 : Str} {ba bb : Nat} (ha : Tx (if e then 2 else 1) A za ba) (hg : Gap g1) (hg2 : Gap g2) (hb : Tx (if e then 1 else 0) B zb bb) : Tx (lvl (.bin e A B)) (.bin e A B) (za ++ g1 ++ wd e ++ g2 ++ zb) (ba + bb + 12) := by
  obtain ⟨⟨ta, a1, a2⟩, a3⟩ := ha
  obtain ⟨⟨tb, b1, b2⟩, b3⟩ := hb
  obtain ⟨w1, w2, w3⟩ := wd_own e
  refine ⟨⟨ta ++ [wd e] ++ tb, (a1.gap hg.s hg.n (Scn.word w1 w2)).gap hg2.s hg2.n b1, ?_⟩, ?_⟩
  · rw [List.append_assoc]
    cases e
    · exact .both a2 b2
    · exact .either a2 b2
  · have := hg.l
    have := hg2.l
    simp only [sl_app]; omega
theorem Tx.par {F : Fm} {z g1 g2 : Str} {b : Nat} (h : Tx 2 F z b) (h1 : isSep g1) (l1 : g1.length ≤ 1) (h2 : isSep g2) (l2 : g2.length ≤ 1) : Tx 0 F (opn ++ g1 ++ z ++ g2 ++ cls) (b + 4) := by
  obtain ⟨⟨ts, a1, a2⟩, a3⟩ := h
  refine ⟨⟨_, Scn.par h1 a1 h2, .par a2⟩, ?_⟩
  have e1 : opn.length = 1 := by decide +kernel
  have e2 : cls.length = 1 := by decide +kernel
  simp only [sl_app]; omega
theorem Tx.par0 {F : Fm} {z : Str} {b : Nat} (h : Tx 2 F z b) : Tx 0 F (opn ++ z ++ cls) (b + 4) := by
  have := h.par (g1 := "") (g2 := "") (by unfold isSep; decide +kernel) (by decide +kernel) (by unfold isSep; decide +kernel) (by decide +kernel)
  have e : opn ++ "" ++ z ++ "" ++ cls = opn ++ z ++ cls := ch_inj (by
    have e0 : ch (Str.ofString "") = [] := by decide +kernel
    simp only [ch_app, e0, List.append_nil])
  rw [e] at this
  exact this
theorem Tx.not {F : Fm} {z g : Str} {b : Nat} (h : Tx 0 F z b) (hg : Gap g) : Tx 0 F.turn ("not" ++ g ++ z) (b + 6) := by
  obtain ⟨⟨ts, a1, a2⟩, a3⟩ := h
  have hw : Scn "not" [Str.ofString "not"] := Scn.word (by decide +kernel) (by decide +kernel)
  refine ⟨⟨[Str.ofString "not"] ++ ts, hw.gap hg.s hg.n a1, .not a2⟩, ?_⟩
  have e1 : (Str.ofString "not").length = 3 := by decide +kernel
  have := hg.l
  simp only [sl_app]; omega
theorem Tx.lit {z : Str} (h : z = "p" ∨ z = "q" ∨ z = "r2") : Tx 0 (.lit false z) z 2 := by
  refine ⟨⟨[z], Scn.word ?_ ?_, .lit h⟩, ?_⟩ <;> rcases h with rfl | rfl | rfl <;> decide +kernel
def blank : Str := " "
theorem gap_blank : Gap " " := ⟨by unfold isSep; decide +kernel, by decide +kernel, by decide +kernel⟩
def Fm.hd : Fm → Str
  | .lit neg _ => if neg then "not" else "is"
  | .bin e _ _ => if e then "either" else "both"
theorem p_hd (F : Fm) : PO .ix F.w (.int 0) (.val (.str F.hd)) := by cases F <;> exact p_ixt rfl
def cl : Fm → Str → Str
  | .lit _ _, s => s
  | .bin _ _ _, s => opn ++ s ++ cls
def freeL (e : Bool) (h : Str) : Bool := decide (h = wd e) || (e && decide (h = "both"))
def freeR (e : Bool) (h : Str) : Bool := e && decide (h = "both")
def Fm.said : Fm → Str
  | .lit neg z => if neg then "not " ++ z else z
  | .bin e a b => (if freeL e a.hd then a.said else cl a a.said) ++ " " ++ wd e ++ " " ++ (if freeR e b.hd then b.said else cl b b.said)
theorem hd_free {e : Bool} {F : Fm} (h : freeL e F.hd = true) : lvl F ≤ if e then 2 else 1 := by
  cases F with
  | lit neg z => cases e <;> exact Nat.zero_le _
  | bin f a b =>
    have k : freeL e (wd f) = true → (if f then 2 else 1) ≤ (if e then 2 else 1) := by cases e <;> cases f <;> decide +kernel
    have q := k h
    cases f <;> exact q
theorem hd_freeR {e : Bool} {F : Fm} (h : freeR e F.hd = true) : lvl F ≤ if e then 1 else 0 := by
  cases F with
  | lit neg z => cases e <;> exact Nat.zero_le _
  | bin f a b =>
    have k : freeR e (wd f) = true → (if f then 2 else 1) ≤ (if e then 1 else 0) := by cases e <;> cases f <;> decide +kernel
    have q := k h
    cases f <;> exact q
theorem lvl_le (F : Fm) : lvl F ≤ 2 := by
  cases F with
  | lit neg z => exact Nat.zero_le _
  | bin f a b => cases f <;> first | exact Nat.le_refl 2 | exact Nat.le_succ 1
theorem Fm.size_pos (F : Fm) : 1 ≤ F.size := by cases F <;> simp [Fm.size]; omega
theorem cl_tx {F : Fm} {z : Str} {b : Nat} (h : Tx (lvl F) F z (match F with
    | .lit _ _ => b
    | .bin _ _ _ => b - 4)) (hb : 4 ≤ b) : Tx 0 F (cl F z) b := by
  cases F with
  | lit neg z => exact h
  | bin f a c =>
    have := (h.up (lvl_le _) (Nat.le_refl 2)).par0
    exact this.le (by show b - 4 + 4 ≤ b; omega)
theorem Fm.said_tx : ∀ {F : Fm}, F.ok → Tx (lvl F) F F.said (match F with
    | .lit _ _ => 18
    | .bin _ _ _ => 18 * F.size - 6)
  | .lit false z, h => (Tx.lit h).le (by show 2 ≤ 18; omega)
  | .lit true z, h => by
    have q := (Tx.lit h).not gap_blank
    have e : (Str.ofString "not" ++ " " ++ z : Str) = "not " ++ z := by
      congr 1
    rw [e] at q
    exact q.le (by show 2 + 6 ≤ 18; omega)
  | .bin e a b, h => by
    have ha := Fm.said_tx h.1
    have hb := Fm.said_tx h.2
    have sa := a.size_pos
    have sb := b.size_pos
    have ca : Tx 0 a (cl a a.said) (18 * a.size) := cl_tx (ha.le (by cases a <;> simp [Fm.size] <;> omega)) (by omega)
    have cb : Tx 0 b (cl b b.said) (18 * b.size) := cl_tx (hb.le (by cases b <;> simp [Fm.size] <;> omega)) (by omega)
    have wa : Tx (if e then 2 else 1) a (if freeL e a.hd then a.said else cl a a.said) (18 * a.size) := by
      by_cases hf : freeL e a.hd = true
      · rw [if_pos hf]
        exact (ha.up (hd_free hf) (by cases e <;> decide)).le (by cases a <;> simp [Fm.size] <;> omega)
      · rw [if_neg hf]
        exact ca.up (Nat.zero_le _) (by cases e <;> decide)
    have wb : Tx (if e then 1 else 0) b (if freeR e b.hd then b.said else cl b b.said) (18 * b.size) := by
      by_cases hf : freeR e b.hd = true
      · rw [if_pos hf]
        exact (hb.up (hd_freeR hf) (by cases e <;> decide)).le (by cases b <;> simp [Fm.size] <;> omega)
      · rw [if_neg hf]
        exact cb.up (Nat.zero_le _) (by cases e <;> decide)
    exact (wa.bin gap_blank gap_blank wb).le (by show 18 * a.size + 18 * b.size + 12 ≤ 18 * (1 + a.size + b.size) - 6; omega)
end K05
set_option Elab.async false
set_option linter.all false
set_option maxRecDepth 100000
set_option maxHeartbeats 1000000
namespace NV
open PySem PySem.Spec PyProof.Rows L2
theorem p_eqt2 {a b c d : Str} : PO (.cmp .Eq) (.tup [.str a, .str b]) (.tup [.str c, .str d]) (.val (.bl (decide (a = c) && decide (b = d)))) := by
  constructor
  have e1 : W.toD (.tup [.str a, .str b]) = some (.tuple [.str a, .str b]) := rfl
  have e2 : W.toD (.tup [.str c, .str d]) = some (.tuple [.str c, .str d]) := rfl
  have e3 : dOk (.tuple [.str c, .str d]) = true := by
    show decide (1 ≤ 64) = true
    rfl
  have e4 : PyData.eqv (.tuple [.str a, .str b]) (.tuple [.str c, .str d]) = (PyData.eqv (.str a) (.str c) && (PyData.eqv (.str b) (.str d) && true)) := by
    simp only [PyData.eqv, PyData.eqvAll]
  simp only [pOp2, pCmp, wEq, e1, e2, e3, Bool.or_true, if_true, Option.map_some, e4, eqv_str, Bool.and_true]
end NV
namespace K05
open PySem PySem.Spec PyProof.Rows L2 NV
local macro_rules | `(tactic| walk_at "nv") => `(tactic| first
  | assumption
  | exact E_cst | exact AA_nil | exact RR_nil | exact O_nil | exact S_nil | exact SF_rt | exact E_gc | exact E_edict | exact FL_nil
  | exact A_pk rfl | apply A_v (hm := rfl) | apply AA_cons | apply RR_cons | apply O_some (hm := rfl)
  | apply S_seq | apply SF_nx | apply S_asg | apply S_ite | apply S_ret | exact S_mvv rfl | exact S_mvo rfl | apply S_put | apply S_par | apply S_expr | apply S_tgt | apply S_forr
  | apply E_op2 | apply E_bi | apply E_me | apply E_isi | apply E_not | apply E_ite | apply E_and | apply E_or | apply E_tup | apply E_lst | apply E_sl | apply E_call | apply E_nm | apply E_neg | apply E_mut | apply E_heap | apply I_rng | apply E_chain
  | apply SB_t (hb := by first | rfl | assumption | (rw [Bool.not_eq_true']; assumption) | (rw [Bool.not_eq_false']; assumption)) | apply SB_f (hb := by first | rfl | assumption | (rw [Bool.not_eq_true']; assumption) | (rw [Bool.not_eq_false']; assumption)) | apply EB_t (hb := by first | rfl | assumption | (rw [Bool.not_eq_true']; assumption) | (rw [Bool.not_eq_false']; assumption)) | apply EB_f (hb := by first | rfl | assumption | (rw [Bool.not_eq_true']; assumption) | (rw [Bool.not_eq_false']; assumption)) | apply CH_t (hb := by first | rfl | assumption | (rw [Bool.not_eq_true']; assumption) | (rw [Bool.not_eq_false']; assumption)) | exact CH_f (hb := by first | rfl | assumption | (rw [Bool.not_eq_true']; assumption) | (rw [Bool.not_eq_false']; assumption))
  | exact p_add | exact p_sub | exact ⟨rfl⟩ | exact List.Pairwise.nil | exact List.pairwise_singleton .. | rfl | decide)
theorem len_word {z : Str} (h : z = "p" ∨ z = "q" ∨ z = "r2") : z.length ≤ 2 := by rcases h with rfl | rfl | rfl <;> decide +kernel
theorem len_not : (Str.ofString "not ").length = 4 := by decide +kernel
theorem f_close_lit (n : Nat) (S : Sto) (neg : Bool) {z : Str} (hz : z.length ≤ 2) : CC (callT T (n + 1)) i_law_close [.val (Fm.lit neg z).w] S (.val (.str (Fm.lit neg z).said)) [some (.val (Fm.lit neg z).w)] S := by
  have ad : PO (.bin .Add) (.str "not ") (.str z) (.val (.str ("not " ++ z))) := p_adds (by rw [len_not]; omega)
  cases neg with
  | false =>
    have h1 : PO .ix (.tup [.str "is", .str z]) (.int 0) (.val (.str "is")) := p_ixt rfl
    have h2 : PO .ix (.tup [.str "is", .str z]) (.int 1) (.val (.str z)) := p_ixt rfl
    have h3 : PO (.cmp .In) (.str "is") (.tup [.str "is", .str "not"]) (.val (.bl true)) := p_in2
    have h4 : PO (.cmp .Eq) (.str "is") (.str "is") (.val (.bl true)) := p_eqstr
    show CC _ _ [.val (.tup [.str "is", .str z])] _ (.val (.str z)) _ _
    apply run_rt (hD := rfl) (hl := rfl)
    · show SS _ m_law_close [some (.val (.tup [.str "is", .str z]))] _ _ _ _
      repeat (walk_at "nv")
    · rfl
  | true =>
    have h1 : PO .ix (.tup [.str "not", .str z]) (.int 0) (.val (.str "not")) := p_ixt rfl
    have h2 : PO .ix (.tup [.str "not", .str z]) (.int 1) (.val (.str z)) := p_ixt rfl
    have h3 : PO (.cmp .In) (.str "not") (.tup [.str "is", .str "not"]) (.val (.bl true)) := p_in2
    have h4 : PO (.cmp .Eq) (.str "not") (.str "is") (.val (.bl false)) := p_eqstr
    show CC _ _ [.val (.tup [.str "not", .str z])] _ (.val (.str ("not " ++ z))) _ _
    apply run_rt (hD := rfl) (hl := rfl)
    · show SS _ m_law_close [some (.val (.tup [.str "not", .str z]))] _ _ _ _
      repeat (walk_at "nv")
    · rfl
theorem f_text_lit (n : Nat) (S : Sto) (neg : Bool) {z : Str} (hz : z.length ≤ 2) : CC (callT T (n + 1)) i_text_in [.val (Fm.lit neg z).w] S (.val (.str (Fm.lit neg z).said)) [some (.val (Fm.lit neg z).w)] S := by
  have ad : PO (.bin .Add) (.str "not ") (.str z) (.val (.str ("not " ++ z))) := p_adds (by rw [len_not]; omega)
  cases neg with
  | false =>
    have h1 : PO .ix (.tup [.str "is", .str z]) (.int 0) (.val (.str "is")) := p_ixt rfl
    have h2 : PO .ix (.tup [.str "is", .str z]) (.int 1) (.val (.str z)) := p_ixt rfl
    have h3 : PO (.cmp .In) (.str "is") (.tup [.str "is", .str "not"]) (.val (.bl true)) := p_in2
    have h4 : PO (.cmp .Eq) (.str "is") (.str "is") (.val (.bl true)) := p_eqstr
    show CC _ _ [.val (.tup [.str "is", .str z])] _ (.val (.str z)) _ _
    apply run_rt (hD := rfl) (hl := rfl)
    · show SS _ m_text_in [some (.val (.tup [.str "is", .str z])), none, none, none] _ _ _ _
      repeat (walk_at "nv")
    · rfl
  | true =>
    have h1 : PO .ix (.tup [.str "not", .str z]) (.int 0) (.val (.str "not")) := p_ixt rfl
    have h2 : PO .ix (.tup [.str "not", .str z]) (.int 1) (.val (.str z)) := p_ixt rfl
    have h3 : PO (.cmp .In) (.str "not") (.tup [.str "is", .str "not"]) (.val (.bl true)) := p_in2
    have h4 : PO (.cmp .Eq) (.str "not") (.str "is") (.val (.bl false)) := p_eqstr
    show CC _ _ [.val (.tup [.str "not", .str z])] _ (.val (.str ("not " ++ z))) _ _
    apply run_rt (hD := rfl) (hl := rfl)
    · show SS _ m_text_in [some (.val (.tup [.str "not", .str z])), none, none, none] _ _ _ _
      repeat (walk_at "nv")
    · rfl
theorem len_opn : opn.length = 1 := by decide +kernel
theorem len_cls : cls.length = 1 := by decide +kernel
theorem len_blk : (Str.ofString " ").length = 1 := by decide +kernel
theorem len_wd (e : Bool) : (wd e).length ≤ 6 := by cases e <;> decide +kernel
theorem f_close_bin (n : Nat) (S : Sto) (e : Bool) (a b : W) (z : Str) (hz : z.length ≤ 5000) (h : CC (callT T n) i_law_said [.val (.tup [.str (wd e), a, b])] S (.val (.str z)) [some (.val (.tup [.str (wd e), a, b]))] S) :
    CC (callT T (n + 1)) i_law_close [.val (.tup [.str (wd e), a, b])] S (.val (.str (opn ++ z ++ cls))) [some (.val (.tup [.str (wd e), a, b]))] S := by
  have h1 : PO .ix (.tup [.str (wd e), a, b]) (.int 0) (.val (.str (wd e))) := p_ixt rfl
  have h3 : PO (.cmp .In) (.str (wd e)) (.tup [.str "is", .str "not"]) (.val (.bl false)) := by cases e <;> exact p_in2
  have a1 : PO (.bin .Add) (.str opn) (.str z) (.val (.str (opn ++ z))) := p_adds (by rw [len_opn]; omega)
  have a2 : PO (.bin .Add) (.str (opn ++ z)) (.str cls) (.val (.str (opn ++ z ++ cls))) := p_adds (by rw [sl_app, len_opn, len_cls]; omega)
  generalize wd e = w at h h1 h3 ⊢
  have a1 : PO (.bin .Add) (.str "(") (.str z) (.val (.str (opn ++ z))) := a1
  have a2 : PO (.bin .Add) (.str (opn ++ z)) (.str ")") (.val (.str (opn ++ z ++ cls))) := a2
  apply run_rt (hD := rfl) (hl := rfl)
  · show SS _ m_law_close [some (.val (.tup [.str w, a, b]))] _ _ _ _
    repeat (walk_at "nv")
  · rfl
theorem f_closely_bin (n : Nat) (S : Sto) (e : Bool) (a b : W) (z : Str) (hz : z.length ≤ 5000) (h : CC (callT T n) i_text_in [.val (.tup [.str (wd e), a, b])] S (.val (.str z)) [some (.val (.tup [.str (wd e), a, b]))] S) :
    CC (callT T (n + 1)) i_closely [.val (.tup [.str (wd e), a, b])] S (.val (.str (opn ++ z ++ cls))) [some (.val (.tup [.str (wd e), a, b]))] S := by
  have h1 : PO .ix (.tup [.str (wd e), a, b]) (.int 0) (.val (.str (wd e))) := p_ixt rfl
  have h3 : PO (.cmp .In) (.str (wd e)) (.tup [.str "is", .str "not"]) (.val (.bl false)) := by cases e <;> exact p_in2
  have a1 : PO (.bin .Add) (.str opn) (.str z) (.val (.str (opn ++ z))) := p_adds (by rw [len_opn]; omega)
  have a2 : PO (.bin .Add) (.str (opn ++ z)) (.str cls) (.val (.str (opn ++ z ++ cls))) := p_adds (by rw [sl_app, len_opn, len_cls]; omega)
  generalize wd e = w at h h1 h3 ⊢
  have a1 : PO (.bin .Add) (.str "(") (.str z) (.val (.str (opn ++ z))) := a1
  have a2 : PO (.bin .Add) (.str (opn ++ z)) (.str ")") (.val (.str (opn ++ z ++ cls))) := a2
  apply run_rt (hD := rfl) (hl := rfl)
  · show SS _ m_closely [some (.val (.tup [.str w, a, b]))] _ _ _ _
    repeat (walk_at "nv")
  · rfl
theorem f_closely_lit (n : Nat) (S : Sto) (neg : Bool) (w : Str) (z : Str) (h : CC (callT T n) i_text_in [.val (.tup [.str (if neg then "not" else "is"), .str w])] S (.val (.str z)) [some (.val (.tup [.str (if neg then "not" else "is"), .str w]))] S) :
    CC (callT T (n + 1)) i_closely [.val (.tup [.str (if neg then "not" else "is"), .str w])] S (.val (.str z)) [some (.val (.tup [.str (if neg then "not" else "is"), .str w]))] S := by
  have h3 : PO (.cmp .In) (.str (if neg then "not" else "is")) (.tup [.str "is", .str "not"]) (.val (.bl true)) := by cases neg <;> exact p_in2
  have h1 : PO .ix (.tup [.str (if neg then "not" else "is"), .str w]) (.int 0) (.val (.str (if neg then "not" else "is"))) := p_ixt rfl
  generalize (if neg then Str.ofString "not" else Str.ofString "is") = y at h h1 h3 ⊢
  apply run_rt (hD := rfl) (hl := rfl)
  · show SS _ m_closely [some (.val (.tup [.str y, .str w]))] _ _ _ _
    repeat (walk_at "nv")
  · rfl
theorem f_said_bin (n : Nat) (S : Sto) (e : Bool) (la lb : List W) (ha hb za ca zb cb : Str) (pa : PO .ix (.tup la) (.int 0) (.val (.str ha))) (pb : PO .ix (.tup lb) (.int 0) (.val (.str hb)))
    (ra : CC (callT T n) i_law_said [.val (.tup la)] S (.val (.str za)) [some (.val (.tup la))] S) (rca : CC (callT T n) i_law_close [.val (.tup la)] S (.val (.str ca)) [some (.val (.tup la))] S)
    (rb : CC (callT T n) i_law_said [.val (.tup lb)] S (.val (.str zb)) [some (.val (.tup lb))] S) (rcb : CC (callT T n) i_law_close [.val (.tup lb)] S (.val (.str cb)) [some (.val (.tup lb))] S)
    (hza : za.length ≤ 5000) (hca : ca.length ≤ 5000) (hzb : zb.length ≤ 5000) (hcb : cb.length ≤ 5000) :
    CC (callT T (n + 1)) i_law_said [.val (.tup [.str (wd e), .tup la, .tup lb])] S (.val (.str ((if freeL e ha then za else ca) ++ " " ++ wd e ++ " " ++ (if freeR e hb then zb else cb)))) [some (.val (.tup [.str (wd e), .tup la, .tup lb]))] S := by
  have h1 : PO .ix (.tup [.str (wd e), .tup la, .tup lb]) (.int 0) (.val (.str (wd e))) := p_ixt rfl
  have h3 : PO (.cmp .In) (.str (wd e)) (.tup [.str "is", .str "not"]) (.val (.bl false)) := by cases e <;> exact p_in2
  have h4 : PO (.cmp .Eq) (.str ha) (.str (wd e)) (.val (.bl (decide (ha = wd e)))) := p_eqstr
  have h5 : PO (.cmp .Eq) (.str (wd e)) (.str "either") (.val (.bl e)) := by cases e <;> exact p_eqstr
  have h6 : PO (.cmp .Eq) (.str ha) (.str "both") (.val (.bl (decide (ha = "both")))) := p_eqstr
  have h7 : PO (.cmp .Eq) (.str hb) (.str "both") (.val (.bl (decide (hb = "both")))) := p_eqstr
  have lw := len_wd e
  have lb' := len_blk
  have ad : ∀ (x y : Str), x.length ≤ 5000 → y.length ≤ 5000 → PO (.bin .Add) (.str (x ++ " " ++ wd e ++ " ")) (.str y) (.val (.str (x ++ " " ++ wd e ++ " " ++ y))) := fun x y hx hy => p_adds (by simp only [sl_app]; omega)
  have ad1 : ∀ (x : Str), x.length ≤ 5000 → PO (.bin .Add) (.str x) (.str " ") (.val (.str (x ++ " "))) := fun x hx => p_adds (by omega)
  have ad2 : ∀ (x : Str), x.length ≤ 5000 → PO (.bin .Add) (.str (x ++ " ")) (.str (wd e)) (.val (.str (x ++ " " ++ wd e))) := fun x hx => p_adds (by simp only [sl_app]; omega)
  have ad3 : ∀ (x : Str), x.length ≤ 5000 → PO (.bin .Add) (.str (x ++ " " ++ wd e)) (.str " ") (.val (.str (x ++ " " ++ wd e ++ " "))) := fun x hx => p_adds (by simp only [sl_app]; omega)
  clear lw lb'
  have x1 : ∀ (x0 x1 x2 x3 : Option SV), EV (callT T n) (.or (.op2 (.cmp .Eq) (.op2 .ix (.pk 5) (.cst (.int 0))) (.pk 4)) (.and (.op2 (.cmp .Eq) (.pk 4) (.cst (.str "either"))) (.op2 (.cmp .Eq) (.op2 .ix (.pk 5) (.cst (.int 0))) (.cst (.str "both"))))) [x0, x1, x2, x3, some (.val (.str (wd e))), some (.val (.tup la)), some (.val (.tup lb))] S (.val (.bl (freeL e ha))) [x0, x1, x2, x3, some (.val (.str (wd e))), some (.val (.tup la)), some (.val (.tup lb))] S := fun x0 y1 y2 y3 => by
    unfold freeL
    clear ad ad1 ad2 ad3 ra rca rb rcb h1 h3 h7 pb
    generalize decide (ha = wd e) = x1 at h4 ⊢
    generalize decide (ha = "both") = x2 at h6 ⊢
    generalize wd e = w at h4 h5 ⊢
    cases x1 with
    | true =>
      rw [Bool.true_or]
      repeat (walk_at "nv")
    | false =>
      rw [Bool.false_or]
      cases e with
      | true =>
        rw [Bool.true_and]
        repeat (walk_at "nv")
      | false =>
        rw [Bool.false_and]
        repeat (walk_at "nv")
  have x2 : ∀ (x0 x1 x2 x3 : Option SV), EV (callT T n) (.and (.op2 (.cmp .Eq) (.pk 4) (.cst (.str "either"))) (.op2 (.cmp .Eq) (.op2 .ix (.pk 6) (.cst (.int 0))) (.cst (.str "both")))) [x0, x1, x2, x3, some (.val (.str (wd e))), some (.val (.tup la)), some (.val (.tup lb))] S (.val (.bl (freeR e hb))) [x0, x1, x2, x3, some (.val (.str (wd e))), some (.val (.tup la)), some (.val (.tup lb))] S := fun x0 y1 y2 y3 => by
    unfold freeR
    clear ad ad1 ad2 ad3 ra rca rb rcb h1 h3 h6 pa x1
    generalize decide (hb = "both") = x2 at h7 ⊢
    generalize wd e = w at h4 h5 ⊢
    cases e with
    | true =>
      rw [Bool.true_and]
      repeat (walk_at "nv")
    | false =>
      rw [Bool.false_and]
      repeat (walk_at "nv")
  clear h4 h5 h6 h7 pa pb
  have b1 := ad1 za hza
  have b2 := ad2 za hza
  have b3 := ad3 za hza
  have c1 := ad1 ca hca
  have c2 := ad2 ca hca
  have c3 := ad3 ca hca
  have d1 := ad za zb hza hzb
  have d2 := ad za cb hza hcb
  have d3 := ad ca zb hca hzb
  have d4 := ad ca cb hca hcb
  clear ad ad1 ad2 ad3 hza hca hzb hcb
  generalize freeL e ha = fl at x1 ⊢
  generalize freeR e hb = fr at x2 ⊢
  generalize wd e = w at h1 h3 x1 x2 b2 b3 c2 c3 d1 d2 d3 d4 ⊢
  cases fl <;> cases fr <;> simp only [Bool.false_eq_true, if_true, if_false] <;> apply run_rt (hD := rfl) (hl := rfl) <;> first
    | (show SS _ m_law_said [some (.val (.tup [.str w, .tup la, .tup lb])), none, none, none, none, none, none] _ _ _ _
       repeat (first | exact x1 _ _ _ _ | exact x2 _ _ _ _ | walk_at "nv"))
    | rfl
theorem f_text_bin (n : Nat) (S : Sto) (e : Bool) (la lb : List W) (ha hb za ca zb cb : Str) (pa : PO .ix (.tup la) (.int 0) (.val (.str ha))) (pb : PO .ix (.tup lb) (.int 0) (.val (.str hb)))
    (ra : CC (callT T n) i_text_in [.val (.tup la)] S (.val (.str za)) [some (.val (.tup la))] S) (rca : CC (callT T n) i_closely [.val (.tup la)] S (.val (.str ca)) [some (.val (.tup la))] S)
    (rb : CC (callT T n) i_text_in [.val (.tup lb)] S (.val (.str zb)) [some (.val (.tup lb))] S) (rcb : CC (callT T n) i_closely [.val (.tup lb)] S (.val (.str cb)) [some (.val (.tup lb))] S)
    (hza : za.length ≤ 5000) (hca : ca.length ≤ 5000) (hzb : zb.length ≤ 5000) (hcb : cb.length ≤ 5000) :
    CC (callT T (n + 1)) i_text_in [.val (.tup [.str (wd e), .tup la, .tup lb])] S (.val (.str ((if decide (wd e = "both") && decide (ha = "either") then ca else za) ++ " " ++ wd e ++ " " ++ (if decide (wd e = "either") && decide (hb = "both") then zb else cb)))) [some (.val (.tup [.str (wd e), .tup la, .tup lb]))] S := by
  have h1 : PO .ix (.tup [.str (wd e), .tup la, .tup lb]) (.int 0) (.val (.str (wd e))) := p_ixt rfl
  have h1a : PO .ix (.tup [.str (wd e), .tup la, .tup lb]) (.int 1) (.val (.tup la)) := p_ixt rfl
  have h1b : PO .ix (.tup [.str (wd e), .tup la, .tup lb]) (.int 2) (.val (.tup lb)) := p_ixt rfl
  have h3 : PO (.cmp .In) (.str (wd e)) (.tup [.str "is", .str "not"]) (.val (.bl false)) := by cases e <;> exact p_in2
  have h4 := p_eqt2 (a := wd e) (b := ha) (c := "both") (d := "either")
  have h5 := p_eqt2 (a := wd e) (b := hb) (c := "either") (d := "both")
  have lw := len_wd e
  have lb' := len_blk
  have ad : ∀ (x y : Str), x.length ≤ 5000 → y.length ≤ 5000 → PO (.bin .Add) (.str (x ++ " " ++ wd e ++ " ")) (.str y) (.val (.str (x ++ " " ++ wd e ++ " " ++ y))) := fun x y hx hy => p_adds (by simp only [sl_app]; omega)
  have ad1 : ∀ (x : Str), x.length ≤ 5000 → PO (.bin .Add) (.str x) (.str " ") (.val (.str (x ++ " "))) := fun x hx => p_adds (by omega)
  have ad2 : ∀ (x : Str), x.length ≤ 5000 → PO (.bin .Add) (.str (x ++ " ")) (.str (wd e)) (.val (.str (x ++ " " ++ wd e))) := fun x hx => p_adds (by simp only [sl_app]; omega)
  have ad3 : ∀ (x : Str), x.length ≤ 5000 → PO (.bin .Add) (.str (x ++ " " ++ wd e)) (.str " ") (.val (.str (x ++ " " ++ wd e ++ " "))) := fun x hx => p_adds (by simp only [sl_app]; omega)
  generalize (decide (wd e = "both") && decide (ha = "either")) = x1 at h4 ⊢
  generalize (decide (wd e = "either") && decide (hb = "both")) = x2 at h5 ⊢
  clear lw lb'
  generalize wd e = w at h1 h1a h1b h3 h4 h5 ad ad1 ad2 ad3 ⊢
  have b1 := ad1 za hza
  have b2 := ad2 za hza
  have b3 := ad3 za hza
  have c1 := ad1 ca hca
  have c2 := ad2 ca hca
  have c3 := ad3 ca hca
  have d1 := ad za zb hza hzb
  have d2 := ad za cb hza hcb
  have d3 := ad ca zb hca hzb
  have d4 := ad ca cb hca hcb
  clear ad ad1 ad2 ad3 hza hca hzb hcb
  cases x1 <;> cases x2 <;> simp only [Bool.false_eq_true, if_true, if_false] <;> apply run_rt (hD := rfl) (hl := rfl) <;> first
    | (show SS _ m_text_in [some (.val (.tup [.str w, .tup la, .tup lb])), none, none, none] _ _ _ _
       repeat (walk_at "nv"))
    | rfl
theorem tx_left (e : Bool) (A : Fm) (s : Str) : (if decide (wd e = "both") && decide (A.hd = "either") then cl A s else s) = if freeL e A.hd then s else cl A s := by
  cases A with
  | lit neg z => simp only [cl, ite_self]
  | bin f a b =>
    have k : (decide (wd e = "both") && decide (wd f = "either")) = !(freeL e (wd f)) := by cases e <;> cases f <;> decide +kernel
    show (if (decide (wd e = "both") && decide (wd f = "either")) = true then _ else s) = if freeL e (wd f) = true then s else _
    rw [k]
    cases freeL e (wd f) <;> rfl
theorem tx_right (e : Bool) (h : Str) : (decide (wd e = "either") && decide (h = "both")) = freeR e h := by
  unfold freeR
  have : decide (wd e = "either") = e := by cases e <;> decide +kernel
  rw [this]
theorem Fm.said_len {F : Fm} (o : F.ok) : F.said.length ≤ 18 * F.size ∧ (cl F F.said).length ≤ 18 * F.size := by
  have h := Fm.said_tx o
  have s := F.size_pos
  cases F with
  | lit neg z => exact ⟨h.len, h.len⟩
  | bin e a b =>
    have h2 : (Fm.bin e a b).said.length ≤ 18 * (Fm.bin e a b).size - 6 := h.len
    refine ⟨by omega, ?_⟩
    show (opn ++ (Fm.bin e a b).said ++ cls).length ≤ _
    rw [sl_app, sl_app, len_opn, len_cls]; omega
theorem g_said (S : Sto) : ∀ (F : Fm) (n : Nat), F.ok → F.size ≤ 200 → 2 * F.depth ≤ n →
    CC (callT T n) i_law_said [.val F.w] S (.val (.str F.said)) [some (.val F.w)] S ∧ CC (callT T (n + 1)) i_law_close [.val F.w] S (.val (.str (cl F F.said))) [some (.val F.w)] S
  | .lit neg z, n, o, _, hn => by
    obtain ⟨m, rfl⟩ : ∃ m, n = m + 2 := ⟨n - 2, by have hn : 2 * 1 ≤ n := hn; omega⟩
    have c := f_close_lit m S neg (len_word o)
    refine ⟨?_, f_close_lit (m + 2) S neg (len_word o)⟩
    have h3 : PO (.cmp .In) (.str (if neg then "not" else "is")) (.tup [.str "is", .str "not"]) (.val (.bl true)) := by cases neg <;> exact p_in2
    have h1 : PO .ix (.tup [.str (if neg then "not" else "is"), .str z]) (.int 0) (.val (.str (if neg then "not" else "is"))) := p_ixt rfl
    have c : CC (callT T (m + 1)) i_law_close [.val (.tup [.str (if neg then "not" else "is"), .str z])] S (.val (.str (Fm.lit neg z).said)) [some (.val (.tup [.str (if neg then "not" else "is"), .str z]))] S := c
    show CC _ _ [.val (.tup [.str (if neg then "not" else "is"), .str z])] _ _ [some (.val (.tup [.str (if neg then "not" else "is"), .str z]))] _
    generalize (Fm.lit neg z).said = s at c ⊢
    generalize (if neg then Str.ofString "not" else Str.ofString "is") = y at c h1 h3 ⊢
    apply run_rt (hD := rfl) (hl := rfl)
    · show SS _ m_law_said [some (.val (.tup [.str y, .str z])), none, none, none, none, none, none] _ _ _ _
      repeat (walk_at "nv")
    · rfl
  | .bin e A B, n, o, hs, hn => by
    have hn : 2 * (1 + max A.depth B.depth) ≤ n := hn
    have hs : 1 + A.size + B.size ≤ 200 := hs
    obtain ⟨m, rfl⟩ : ∃ m, n = m + 2 := ⟨n - 2, by omega⟩
    obtain ⟨a1, a2⟩ := g_said S A (m + 1) o.1 (by omega) (by omega)
    obtain ⟨b1, b2⟩ := g_said S B (m + 1) o.2 (by omega) (by omega)
    have a2 := (g_said S A m o.1 (by omega) (by omega)).2
    have b2 := (g_said S B m o.2 (by omega) (by omega)).2
    obtain ⟨la1, la2⟩ := Fm.said_len o.1
    obtain ⟨lb1, lb2⟩ := Fm.said_len o.2
    obtain ⟨la, ea⟩ := A.w_tup
    obtain ⟨lb, eb⟩ := B.w_tup
    have pa := p_hd A
    have pb := p_hd B
    have hw : (Fm.bin e A B).w = .tup [.str (wd e), .tup la, .tup lb] := by rw [← ea, ← eb]; rfl
    rw [ea] at a1 a2 pa
    rw [eb] at b1 b2 pb
    have q := f_said_bin (m + 1) S e la lb A.hd B.hd A.said (cl A A.said) B.said (cl B B.said) pa pb a1 a2 b1 b2 (by omega) (by omega) (by omega) (by omega)
    have hl := (Fm.said_len (F := .bin e A B) o).1
    have hz : (Fm.bin e A B).size = 1 + A.size + B.size := rfl
    rw [hw]
    exact ⟨q, f_close_bin (m + 2) S e (.tup la) (.tup lb) (Fm.bin e A B).said (by omega) q⟩
theorem g_text_in (S : Sto) : ∀ (F : Fm) (n : Nat), F.ok → F.size ≤ 200 → 2 * F.depth ≤ n →
    CC (callT T n) i_text_in [.val F.w] S (.val (.str F.said)) [some (.val F.w)] S ∧ CC (callT T (n + 1)) i_closely [.val F.w] S (.val (.str (cl F F.said))) [some (.val F.w)] S
  | .lit neg z, n, o, _, hn => by
    obtain ⟨m, rfl⟩ : ∃ m, n = m + 1 := ⟨n - 1, by have hn : 2 * 1 ≤ n := hn; omega⟩
    have c := f_text_lit m S neg (len_word o)
    exact ⟨c, f_closely_lit (m + 1) S neg z _ c⟩
  | .bin e A B, n, o, hs, hn => by
    have hn : 2 * (1 + max A.depth B.depth) ≤ n := hn
    have hs : 1 + A.size + B.size ≤ 200 := hs
    obtain ⟨m, rfl⟩ : ∃ m, n = m + 2 := ⟨n - 2, by omega⟩
    obtain ⟨a1, a2⟩ := g_text_in S A (m + 1) o.1 (by omega) (by omega)
    obtain ⟨b1, b2⟩ := g_text_in S B (m + 1) o.2 (by omega) (by omega)
    have a2 := (g_text_in S A m o.1 (by omega) (by omega)).2
    have b2 := (g_text_in S B m o.2 (by omega) (by omega)).2
    obtain ⟨la1, la2⟩ := Fm.said_len o.1
    obtain ⟨lb1, lb2⟩ := Fm.said_len o.2
    obtain ⟨la, ea⟩ := A.w_tup
    obtain ⟨lb, eb⟩ := B.w_tup
    have pa := p_hd A
    have pb := p_hd B
    have hw : (Fm.bin e A B).w = .tup [.str (wd e), .tup la, .tup lb] := by rw [← ea, ← eb]; rfl
    rw [ea] at a1 a2 pa
    rw [eb] at b1 b2 pb
    have q := f_text_bin (m + 1) S e la lb A.hd B.hd A.said (cl A A.said) B.said (cl B B.said) pa pb a1 a2 b1 b2 (by omega) (by omega) (by omega) (by omega)
    have hl := (Fm.said_len (F := .bin e A B) o).1
    have hz : (Fm.bin e A B).size = 1 + A.size + B.size := rfl
    rw [tx_left, tx_right] at q
    rw [hw]
    exact ⟨q, f_closely_bin (m + 2) S e (.tup la) (.tup lb) (Fm.bin e A B).said (by omega) q⟩
theorem g_text_of (n : Nat) (S : Sto) {F : Fm} (h : F.Fit) (hd : 2 * F.depth ≤ n) (hn : 4 ≤ n) : CC (callT T (n + 1)) i_text_of_formula [.val F.w] S (.val (.str F.said)) [some (.val F.w)] S := by
  have c1 := g_chk n S h hn
  have c2 := (g_text_in S F n h.ok (by have := h.s; omega) hd).1
  generalize F.w = w at c1 c2 ⊢
  generalize F.said = z at c2 ⊢
  apply run_rt (hD := rfl) (hl := rfl)
  · show SS _ m_text_of_formula [some (.val w)] _ _ _ _
    repeat (walk_at "nv")
  · rfl
end K05
set_option Elab.async false
set_option linter.all false
set_option maxRecDepth 100000
set_option maxHeartbeats 1000000
namespace K05
open PySem PySem.Spec PyProof.Rows L2 NV
local macro_rules | `(tactic| walk_at "nv") => `(tactic| first
  | assumption
  | exact E_cst | exact AA_nil | exact RR_nil | exact O_nil | exact S_nil | exact SF_rt | exact E_gc | exact E_edict | exact FL_nil
  | exact A_pk rfl | apply A_v (hm := rfl) | apply AA_cons | apply RR_cons | apply O_some (hm := rfl)
  | apply S_seq | apply SF_nx | apply S_asg | apply S_ite | apply S_ret | exact S_mvv rfl | exact S_mvo rfl | apply S_put | apply S_par | apply S_expr | apply S_tgt | apply S_forr
  | apply E_op2 | apply E_bi | apply E_me | apply E_isi | apply E_not | apply E_ite | apply E_and | apply E_or | apply E_tup | apply E_lst | apply E_sl | apply E_call | apply E_nm | apply E_neg | apply E_mut | apply E_heap | apply I_rng | apply E_chain
  | apply SB_t (hb := by first | rfl | assumption | (rw [Bool.not_eq_true']; assumption) | (rw [Bool.not_eq_false']; assumption)) | apply SB_f (hb := by first | rfl | assumption | (rw [Bool.not_eq_true']; assumption) | (rw [Bool.not_eq_false']; assumption)) | apply EB_t (hb := by first | rfl | assumption | (rw [Bool.not_eq_true']; assumption) | (rw [Bool.not_eq_false']; assumption)) | apply EB_f (hb := by first | rfl | assumption | (rw [Bool.not_eq_true']; assumption) | (rw [Bool.not_eq_false']; assumption)) | apply CH_t (hb := by first | rfl | assumption | (rw [Bool.not_eq_true']; assumption) | (rw [Bool.not_eq_false']; assumption)) | exact CH_f (hb := by first | rfl | assumption | (rw [Bool.not_eq_true']; assumption) | (rw [Bool.not_eq_false']; assumption))
  | exact p_add | exact p_sub | exact ⟨rfl⟩ | exact List.Pairwise.nil | exact List.pairwise_singleton .. | rfl | decide)
theorem g_gap (n : Nat) (S : Sto) {g : List W} {k : Int} (hg : GenOk g k) (hk : k < 2 ^ 29) : ∃ z g', CC (callT T (n + 4)) i_law_gap [.own (true, g)] S (.val (.str z)) [some (.own (true, g'))] S ∧ Gap z ∧ GenOk g' (k + 1) := by
  obtain ⟨w, g', h1, m1, k1⟩ := g_pick n hg hk [.str " ", .str " ", .str "  ", .str "\n", .str " \n "] S ⟨by decide, by decide⟩
  have key : ∃ z, w = .str z ∧ Gap z := by
    simp only [List.mem_cons, List.not_mem_nil, or_false] at m1
    rcases m1 with h | h | h | h | h
    · exact ⟨_, h, by unfold isSep; decide +kernel, by decide +kernel, by decide +kernel⟩
    · exact ⟨_, h, by unfold isSep; decide +kernel, by decide +kernel, by decide +kernel⟩
    · exact ⟨_, h, by unfold isSep; decide +kernel, by decide +kernel, by decide +kernel⟩
    · exact ⟨_, h, by unfold isSep; decide +kernel, by decide +kernel, by decide +kernel⟩
    · exact ⟨_, h, by unfold isSep; decide +kernel, by decide +kernel, by decide +kernel⟩
  obtain ⟨z, rfl, hz⟩ := key
  refine ⟨z, g', ?_, hz, k1⟩
  apply run_rt (hD := rfl) (hl := rfl)
  · show SS _ m_law_gap [some (.own (true, g))] _ _ _ _
    repeat (walk_at "nv")
  · rfl
theorem g_sep2 (n : Nat) (S : Sto) {g : List W} {k : Int} (hg : GenOk g k) (hk : k < 2 ^ 29) (s : Str) (hs : isSep s) (hl : s.length ≤ 1) : ∃ z g', CC (callT T (n + 3)) i_law_pick [.own (true, g), .val (.lst [.str "", .str s])] S (.val (.str z)) [some (.own (true, g')), some (.val (.lst [.str "", .str s]))] S ∧ (isSep z ∧ z.length ≤ 1) ∧ GenOk g' (k + 1) := by
  obtain ⟨w, g', h1, m1, k1⟩ := g_pick n hg hk [.str "", .str s] S ⟨by simp, by simp⟩
  have key : ∃ z, w = .str z ∧ isSep z ∧ z.length ≤ 1 := by
    simp only [List.mem_cons, List.not_mem_nil, or_false] at m1
    rcases m1 with h | h
    · exact ⟨_, h, by unfold isSep; decide +kernel, by decide +kernel⟩
    · exact ⟨_, h, hs, hl⟩
  obtain ⟨z, rfl, hz⟩ := key
  exact ⟨z, g', h1, hz, k1⟩
def lcW : M := (.ite (.op2 (.cmp .Gt) (.pk 2) (.cst (.int 0))) (.call 20 (.cons (.pk 0) (.cons (.cst (.int 6)) .nil))) (.cst (.int 0)))
theorem f_lc_not (n : Nat) (S : Sto) (g g1 g2 g3 : List W) (w tw : W) (d d1 : Int) (gp z : Str)
    (hw : EV (callT T n) lcW [some (.own (true, g)), some (.val w), some (.val (.int d)), none] S (.val (.int 1)) [some (.own (true, g1)), some (.val w), some (.val (.int d)), none] S)
    (h1 : CC (callT T n) i_law_gap [.own (true, g1)] S (.val (.str gp)) [some (.own (true, g2))] S) (h2 : CC (callT T n) i_law_turned [.val w] S (.val tw) [some (.val w)] S)
    (h3 : CC (callT T n) i_law_loose_close [.own (true, g2), .val tw, .val (.int d1)] S (.val (.str z)) [some (.own (true, g3)), some (.val tw), some (.val (.int d1))] S)
    (hd : d - 1 = d1) (l1 : gp.length ≤ 5000) (l2 : z.length ≤ 5000) :
    CC (callT T (n + 1)) i_law_loose_close [.own (true, g), .val w, .val (.int d)] S (.val (.str ("not" ++ gp ++ z))) [some (.own (true, g3)), some (.val w), some (.val (.int d))] S := by
  have ln : (Str.ofString "not").length = 3 := by decide +kernel
  have a1 : PO (.bin .Add) (.str "not") (.str gp) (.val (.str ("not" ++ gp))) := p_adds (by omega)
  have a2 : PO (.bin .Add) (.str ("not" ++ gp)) (.str z) (.val (.str ("not" ++ gp ++ z))) := p_adds (by rw [sl_app]; omega)
  have e1 : PO (.cmp .Eq) (.int 1) (.int 1) (.val (.bl true)) := p_eqint' rfl
  have e2 : PO (.bin .Sub) (.int d) (.int 1) (.val (.int d1)) := by rw [← hd]; exact p_sub
  unfold lcW at hw
  apply run_rt (hD := rfl) (hl := rfl)
  · show SS _ m_law_loose_close [some (.own (true, g)), some (.val w), some (.val (.int d)), none] _ _ _ _
    repeat (walk_at "nv")
  · rfl
theorem f_lc_par (n : Nat) (S : Sto) (g g1 g2 g3 g4 : List W) (hd : Str) (l : List W) (d d1 r : Int) (p1 z p2 : Str)
    (hw : EV (callT T n) lcW [some (.own (true, g)), some (.val (.tup (.str hd :: l))), some (.val (.int d)), none] S (.val (.int r)) [some (.own (true, g1)), some (.val (.tup (.str hd :: l))), some (.val (.int d)), none] S)
    (hr : r ≠ 1) (hc : r = 2 ∨ isBE hd = true)
    (h1 : CC (callT T n) i_law_pick [.own (true, g1), .val (.lst [.str "", .str " "])] S (.val (.str p1)) [some (.own (true, g2)), some (.val (.lst [.str "", .str " "]))] S)
    (h3 : CC (callT T n) i_law_loose [.own (true, g2), .val (.tup (.str hd :: l)), .val (.int d1)] S (.val (.str z)) [some (.own (true, g3)), some (.val (.tup (.str hd :: l))), some (.val (.int d1))] S)
    (h4 : CC (callT T n) i_law_pick [.own (true, g3), .val (.lst [.str "", .str "\n"])] S (.val (.str p2)) [some (.own (true, g4)), some (.val (.lst [.str "", .str "\n"]))] S)
    (hd0 : 0 < d → d - 1 = d1) (hd1 : ¬ 0 < d → d1 = 0) (l1 : p1.length ≤ 5000) (l2 : z.length ≤ 5000) (l3 : p2.length ≤ 5000) :
    CC (callT T (n + 1)) i_law_loose_close [.own (true, g), .val (.tup (.str hd :: l)), .val (.int d)] S (.val (.str (opn ++ p1 ++ z ++ p2 ++ cls))) [some (.own (true, g4)), some (.val (.tup (.str hd :: l))), some (.val (.int d))] S := by
  have a1 : PO (.bin .Add) (.str opn) (.str p1) (.val (.str (opn ++ p1))) := p_adds (by rw [len_opn]; omega)
  have a2 : PO (.bin .Add) (.str (opn ++ p1)) (.str z) (.val (.str (opn ++ p1 ++ z))) := p_adds (by simp only [sl_app, len_opn]; omega)
  have a3 : PO (.bin .Add) (.str (opn ++ p1 ++ z)) (.str p2) (.val (.str (opn ++ p1 ++ z ++ p2))) := p_adds (by simp only [sl_app, len_opn]; omega)
  have a4 : PO (.bin .Add) (.str (opn ++ p1 ++ z ++ p2)) (.str cls) (.val (.str (opn ++ p1 ++ z ++ p2 ++ cls))) := p_adds (by simp only [sl_app, len_opn, len_cls]; omega)
  have a1 : PO (.bin .Add) (.str "(") (.str p1) (.val (.str (opn ++ p1))) := a1
  have a4 : PO (.bin .Add) (.str (opn ++ p1 ++ z ++ p2)) (.str ")") (.val (.str (opn ++ p1 ++ z ++ p2 ++ cls))) := a4
  generalize opn ++ p1 ++ z ++ p2 ++ cls = s5 at a4 ⊢
  generalize opn ++ p1 ++ z ++ p2 = s4 at a3 a4
  generalize opn ++ p1 ++ z = s3 at a2 a3
  generalize opn ++ p1 = s2 at a1 a2
  have e1 : PO (.cmp .Eq) (.int r) (.int 1) (.val (.bl false)) := p_eqint' (decide_eq_false hr)
  have e2 : PO (.cmp .Eq) (.int r) (.int 2) (.val (.bl (decide (r = 2)))) := p_eqint
  have e3 := p_in2 (h := hd) (a := "both") (b := "either")
  have e4 : PO .ix (.tup (.str hd :: l)) (.int 0) (.val (.str hd)) := p_ixt (atI_at (j := 0) rfl (by simp))
  unfold lcW at hw
  by_cases c : 0 < d
  · have d0 : decide ((0 : Int) < d) = true := decide_eq_true c
    have e5 : PO (.bin .Sub) (.int d) (.int 1) (.val (.int d1)) := by rw [← hd0 c]; exact p_sub
    by_cases c2 : r = 2
    · rw [decide_eq_true c2] at e2
      apply run_rt (hD := rfl) (hl := rfl)
      · show SS _ m_law_loose_close [some (.own (true, g)), some (.val (.tup (.str hd :: l))), some (.val (.int d)), none] _ _ _ _
        repeat (walk_at "nv")
      · rfl
    · rw [decide_eq_false c2] at e2
      have hb : isBE hd = true := by rcases hc with h | h; exact absurd h c2; exact h
      unfold isBE at hb
      rw [hb] at e3
      apply run_rt (hD := rfl) (hl := rfl)
      · show SS _ m_law_loose_close [some (.own (true, g)), some (.val (.tup (.str hd :: l))), some (.val (.int d)), none] _ _ _ _
        repeat (walk_at "nv")
      · rfl
  · have d0 : decide ((0 : Int) < d) = false := decide_eq_false c
    have hd1 := hd1 c
    subst hd1
    by_cases c2 : r = 2
    · rw [decide_eq_true c2] at e2
      apply run_rt (hD := rfl) (hl := rfl)
      · show SS _ m_law_loose_close [some (.own (true, g)), some (.val (.tup (.str hd :: l))), some (.val (.int d)), none] _ _ _ _
        repeat (walk_at "nv")
      · rfl
    · rw [decide_eq_false c2] at e2
      have hb : isBE hd = true := by rcases hc with h | h; exact absurd h c2; exact h
      unfold isBE at hb
      rw [hb] at e3
      apply run_rt (hD := rfl) (hl := rfl)
      · show SS _ m_law_loose_close [some (.own (true, g)), some (.val (.tup (.str hd :: l))), some (.val (.int d)), none] _ _ _ _
        repeat (walk_at "nv")
      · rfl
theorem f_lc_pos (n : Nat) (S : Sto) (g g1 : List W) (y : Str) (d r : Int)
    (hw : EV (callT T n) lcW [some (.own (true, g)), some (.val (.tup [.str "is", .str y])), some (.val (.int d)), none] S (.val (.int r)) [some (.own (true, g1)), some (.val (.tup [.str "is", .str y])), some (.val (.int d)), none] S) (hr : r ≠ 1) (hr2 : r ≠ 2) :
    CC (callT T (n + 1)) i_law_loose_close [.own (true, g), .val (.tup [.str "is", .str y]), .val (.int d)] S (.val (.str y)) [some (.own (true, g1)), some (.val (.tup [.str "is", .str y])), some (.val (.int d))] S := by
  have e1 : PO (.cmp .Eq) (.int r) (.int 1) (.val (.bl false)) := p_eqint' (decide_eq_false hr)
  have e2 : PO (.cmp .Eq) (.int r) (.int 2) (.val (.bl false)) := p_eqint' (decide_eq_false hr2)
  have e3 : PO (.cmp .In) (.str "is") (.tup [.str "both", .str "either"]) (.val (.bl false)) := p_in2
  have e4 : PO .ix (.tup [.str "is", .str y]) (.int 0) (.val (.str "is")) := p_ixt rfl
  have e5 : PO .ix (.tup [.str "is", .str y]) (.int 1) (.val (.str y)) := p_ixt rfl
  have e6 : PO (.cmp .Eq) (.str "is") (.str "is") (.val (.bl true)) := p_eqstr
  unfold lcW at hw
  apply run_rt (hD := rfl) (hl := rfl)
  · show SS _ m_law_loose_close [some (.own (true, g)), some (.val (.tup [.str "is", .str y])), some (.val (.int d)), none] _ _ _ _
    repeat (walk_at "nv")
  · rfl
theorem f_lc_neg (n : Nat) (S : Sto) (g g1 g2 : List W) (y gp : Str) (d r : Int)
    (hw : EV (callT T n) lcW [some (.own (true, g)), some (.val (.tup [.str "not", .str y])), some (.val (.int d)), none] S (.val (.int r)) [some (.own (true, g1)), some (.val (.tup [.str "not", .str y])), some (.val (.int d)), none] S) (hr : r ≠ 1) (hr2 : r ≠ 2)
    (h1 : CC (callT T n) i_law_gap [.own (true, g1)] S (.val (.str gp)) [some (.own (true, g2))] S) (l1 : gp.length ≤ 5000) (l2 : y.length ≤ 5000) :
    CC (callT T (n + 1)) i_law_loose_close [.own (true, g), .val (.tup [.str "not", .str y]), .val (.int d)] S (.val (.str ("not" ++ gp ++ y))) [some (.own (true, g2)), some (.val (.tup [.str "not", .str y])), some (.val (.int d))] S := by
  have ln : (Str.ofString "not").length = 3 := by decide +kernel
  have a1 : PO (.bin .Add) (.str "not") (.str gp) (.val (.str ("not" ++ gp))) := p_adds (by omega)
  have a2 : PO (.bin .Add) (.str ("not" ++ gp)) (.str y) (.val (.str ("not" ++ gp ++ y))) := p_adds (by rw [sl_app]; omega)
  have e1 : PO (.cmp .Eq) (.int r) (.int 1) (.val (.bl false)) := p_eqint' (decide_eq_false hr)
  have e2 : PO (.cmp .Eq) (.int r) (.int 2) (.val (.bl false)) := p_eqint' (decide_eq_false hr2)
  have e3 : PO (.cmp .In) (.str "not") (.tup [.str "both", .str "either"]) (.val (.bl false)) := p_in2
  have e4 : PO .ix (.tup [.str "not", .str y]) (.int 0) (.val (.str "not")) := p_ixt rfl
  have e5 : PO .ix (.tup [.str "not", .str y]) (.int 1) (.val (.str y)) := p_ixt rfl
  have e6 : PO (.cmp .Eq) (.str "not") (.str "is") (.val (.bl false)) := p_eqstr
  unfold lcW at hw
  apply run_rt (hD := rfl) (hl := rfl)
  · show SS _ m_law_loose_close [some (.own (true, g)), some (.val (.tup [.str "not", .str y])), some (.val (.int d)), none] _ _ _ _
    repeat (walk_at "nv")
  · rfl
theorem f_way (n : Nat) (S : Sto) {g : List W} {k : Int} (hg : GenOk g k) (hk : k < 2 ^ 29) (w : W) (d : Nat) : ∃ r g1, EV (callT T (n + 2)) lcW [some (.own (true, g)), some (.val w), some (.val (.int d)), none] S (.val (.int r)) [some (.own (true, g1)), some (.val w), some (.val (.int d)), none] S ∧ (d = 0 → r = 0) ∧ GenOk g1 (k + if d = 0 then 0 else 1) := by
  unfold lcW
  by_cases c : d = 0
  · have d0 : decide ((0 : Int) < (d : Int)) = false := decide_eq_false (by omega)
    refine ⟨0, g, ?_, fun _ => rfl, hg.mono (by split <;> omega)⟩
    repeat (walk_at "nv")
  · have d0 : decide ((0 : Int) < (d : Int)) = true := decide_eq_true (by omega)
    obtain ⟨r, g1, h1, h2, h3⟩ := g_random n hg hk 6 S (by omega)
    refine ⟨r, g1, ?_, fun h => absurd h c, by rw [if_neg c]; exact h3⟩
    repeat (walk_at "nv")
theorem f_lo_lit (n : Nat) (S : Sto) (g g1 : List W) (h : Str) (y : W) (d : Nat) (z : Str) (hi : isIN h = true)
    (h1 : 0 < d → CC (callT T n) i_law_loose_close [.own (true, g), .val (.tup [.str h, y]), .val (.int d)] S (.val (.str z)) [some (.own (true, g1)), some (.val (.tup [.str h, y])), some (.val (.int d))] S)
    (h2 : d = 0 → g1 = g ∧ CC (callT T n) i_law_close [.val (.tup [.str h, y])] S (.val (.str z)) [some (.val (.tup [.str h, y]))] S) :
    CC (callT T (n + 1)) i_law_loose [.own (true, g), .val (.tup [.str h, y]), .val (.int d)] S (.val (.str z)) [some (.own (true, g1)), some (.val (.tup [.str h, y])), some (.val (.int d))] S := by
  have e3 := p_in2 (h := h) (a := "is") (b := "not")
  unfold isIN at hi
  rw [hi] at e3
  have e4 : PO .ix (.tup [.str h, y]) (.int 0) (.val (.str h)) := p_ixt rfl
  by_cases c : d = 0
  · obtain ⟨rfl, h2⟩ := h2 c
    have d0 : decide ((0 : Int) < (d : Int)) = false := decide_eq_false (by omega)
    apply run_rt (hD := rfl) (hl := rfl)
    · show SS _ m_law_loose [some (.own (true, g1)), some (.val (.tup [.str h, y])), some (.val (.int d)), none, none, none, none, none, none] _ _ _ _
      repeat (walk_at "nv")
    · rfl
  · have h1 := h1 (by omega)
    have d0 : decide ((0 : Int) < (d : Int)) = true := decide_eq_true (by omega)
    apply run_rt (hD := rfl) (hl := rfl)
    · show SS _ m_law_loose [some (.own (true, g)), some (.val (.tup [.str h, y])), some (.val (.int d)), none, none, none, none, none, none] _ _ _ _
      repeat (walk_at "nv")
    · rfl
theorem f_lo_bin (n : Nat) (S : Sto) (e : Bool) (g g1 g2 g3 g4 : List W) (la lb : List W) (ha hb za zb p1 p2 : Str) (d : W) (pa : PO .ix (.tup la) (.int 0) (.val (.str ha))) (pb : PO .ix (.tup lb) (.int 0) (.val (.str hb)))
    (ra : CC (callT T n) (if freeL e ha then i_law_loose else i_law_loose_close) [.own (true, g), .val (.tup la), .val d] S (.val (.str za)) [some (.own (true, g1)), some (.val (.tup la)), some (.val d)] S)
    (rb : CC (callT T n) (if freeR e hb then i_law_loose else i_law_loose_close) [.own (true, g1), .val (.tup lb), .val d] S (.val (.str zb)) [some (.own (true, g2)), some (.val (.tup lb)), some (.val d)] S)
    (c1 : CC (callT T n) i_law_gap [.own (true, g2)] S (.val (.str p1)) [some (.own (true, g3))] S) (c2 : CC (callT T n) i_law_gap [.own (true, g3)] S (.val (.str p2)) [some (.own (true, g4))] S)
    (hza : za.length ≤ 5000) (hzb : zb.length ≤ 5000) (hp1 : p1.length ≤ 5000) (hp2 : p2.length ≤ 5000) :
    CC (callT T (n + 1)) i_law_loose [.own (true, g), .val (.tup [.str (wd e), .tup la, .tup lb]), .val d] S (.val (.str (za ++ p1 ++ wd e ++ p2 ++ zb))) [some (.own (true, g4)), some (.val (.tup [.str (wd e), .tup la, .tup lb])), some (.val d)] S := by
  have h1 : PO .ix (.tup [.str (wd e), .tup la, .tup lb]) (.int 0) (.val (.str (wd e))) := p_ixt rfl
  have h3 : PO (.cmp .In) (.str (wd e)) (.tup [.str "is", .str "not"]) (.val (.bl false)) := by cases e <;> exact p_in2
  have h4 : PO (.cmp .Eq) (.str ha) (.str (wd e)) (.val (.bl (decide (ha = wd e)))) := p_eqstr
  have h5 : PO (.cmp .Eq) (.str (wd e)) (.str "either") (.val (.bl e)) := by cases e <;> exact p_eqstr
  have h6 : PO (.cmp .Eq) (.str ha) (.str "both") (.val (.bl (decide (ha = "both")))) := p_eqstr
  have h7 : PO (.cmp .Eq) (.str hb) (.str "both") (.val (.bl (decide (hb = "both")))) := p_eqstr
  have lw := len_wd e
  have a1 : PO (.bin .Add) (.str za) (.str p1) (.val (.str (za ++ p1))) := p_adds (by omega)
  have a2 : PO (.bin .Add) (.str (za ++ p1)) (.str (wd e)) (.val (.str (za ++ p1 ++ wd e))) := p_adds (by simp only [sl_app]; omega)
  have a3 : PO (.bin .Add) (.str (za ++ p1 ++ wd e)) (.str p2) (.val (.str (za ++ p1 ++ wd e ++ p2))) := p_adds (by simp only [sl_app]; omega)
  have a4 : PO (.bin .Add) (.str (za ++ p1 ++ wd e ++ p2)) (.str zb) (.val (.str (za ++ p1 ++ wd e ++ p2 ++ zb))) := p_adds (by simp only [sl_app]; omega)
  clear lw hza hzb hp1 hp2
  have x1 : ∀ (x0 x1 x2 x3 x4 x5 : Option SV), EV (callT T n) (.or (.op2 (.cmp .Eq) (.op2 .ix (.pk 7) (.cst (.int 0))) (.pk 6)) (.and (.op2 (.cmp .Eq) (.pk 6) (.cst (.str "either"))) (.op2 (.cmp .Eq) (.op2 .ix (.pk 7) (.cst (.int 0))) (.cst (.str "both"))))) [x0, x1, x2, x3, x4, x5, some (.val (.str (wd e))), some (.val (.tup la)), some (.val (.tup lb))] S (.val (.bl (freeL e ha))) [x0, x1, x2, x3, x4, x5, some (.val (.str (wd e))), some (.val (.tup la)), some (.val (.tup lb))] S := fun x0 y1 y2 y3 y4 y5 => by
    unfold freeL
    clear a1 a2 a3 a4 ra rb c1 c2 h1 h3 h7 pb
    generalize decide (ha = wd e) = x1 at h4 ⊢
    generalize decide (ha = "both") = x2 at h6 ⊢
    generalize wd e = w at h4 h5 ⊢
    cases x1 with
    | true =>
      rw [Bool.true_or]
      repeat (walk_at "nv")
    | false =>
      rw [Bool.false_or]
      cases e with
      | true =>
        rw [Bool.true_and]
        repeat (walk_at "nv")
      | false =>
        rw [Bool.false_and]
        repeat (walk_at "nv")
  have x2 : ∀ (x0 x1 x2 x3 x4 x5 : Option SV), EV (callT T n) (.and (.op2 (.cmp .Eq) (.pk 6) (.cst (.str "either"))) (.op2 (.cmp .Eq) (.op2 .ix (.pk 8) (.cst (.int 0))) (.cst (.str "both")))) [x0, x1, x2, x3, x4, x5, some (.val (.str (wd e))), some (.val (.tup la)), some (.val (.tup lb))] S (.val (.bl (freeR e hb))) [x0, x1, x2, x3, x4, x5, some (.val (.str (wd e))), some (.val (.tup la)), some (.val (.tup lb))] S := fun x0 y1 y2 y3 y4 y5 => by
    unfold freeR
    clear a1 a2 a3 a4 ra rb c1 c2 h1 h3 h6 pa x1
    generalize decide (hb = "both") = x2 at h7 ⊢
    generalize wd e = w at h4 h5 ⊢
    cases e with
    | true =>
      rw [Bool.true_and]
      repeat (walk_at "nv")
    | false =>
      rw [Bool.false_and]
      repeat (walk_at "nv")
  clear h4 h5 h6 h7 pa pb
  generalize za ++ p1 ++ wd e ++ p2 ++ zb = s5 at a4 ⊢
  generalize za ++ p1 ++ wd e ++ p2 = s4 at a3 a4
  generalize za ++ p1 ++ wd e = s3 at a2 a3
  generalize za ++ p1 = s2 at a1 a2
  generalize freeL e ha = fl at ra x1
  generalize freeR e hb = fr at rb x2
  generalize wd e = w at h1 h3 a2 x1 x2 ⊢
  cases fl <;> cases fr <;> simp only [Bool.false_eq_true, if_true, if_false] at ra rb <;> apply run_rt (hD := rfl) (hl := rfl) <;> first
    | (show SS _ m_law_loose [some (.own (true, g)), some (.val (.tup [.str w, .tup la, .tup lb])), some (.val d), none, none, none, none, none, none] _ _ _ _
       repeat (first | exact x1 _ _ _ _ _ _ | exact x2 _ _ _ _ _ _ | walk_at "nv"))
    | rfl
end K05
set_option Elab.async false
set_option linter.all false
set_option maxRecDepth 100000
set_option maxHeartbeats 1000000
namespace K05
open PySem PySem.Spec PyProof.Rows L2 NV
local macro_rules | `(tactic| walk_at "nv") => `(tactic| first
  | assumption
  | exact E_cst | exact AA_nil | exact RR_nil | exact O_nil | exact S_nil | exact SF_rt | exact E_gc | exact E_edict | exact FL_nil
  | exact A_pk rfl | apply A_v (hm := rfl) | apply AA_cons | apply RR_cons | apply O_some (hm := rfl)
  | apply S_seq | apply SF_nx | apply S_asg | apply S_ite | apply S_ret | exact S_mvv rfl | exact S_mvo rfl | apply S_put | apply S_par | apply S_expr | apply S_tgt | apply S_forr
  | apply E_op2 | apply E_bi | apply E_me | apply E_isi | apply E_not | apply E_ite | apply E_and | apply E_or | apply E_tup | apply E_lst | apply E_sl | apply E_call | apply E_nm | apply E_neg | apply E_mut | apply E_heap | apply I_rng | apply E_chain
  | apply SB_t (hb := by first | rfl | assumption | (rw [Bool.not_eq_true']; assumption) | (rw [Bool.not_eq_false']; assumption)) | apply SB_f (hb := by first | rfl | assumption | (rw [Bool.not_eq_true']; assumption) | (rw [Bool.not_eq_false']; assumption)) | apply EB_t (hb := by first | rfl | assumption | (rw [Bool.not_eq_true']; assumption) | (rw [Bool.not_eq_false']; assumption)) | apply EB_f (hb := by first | rfl | assumption | (rw [Bool.not_eq_true']; assumption) | (rw [Bool.not_eq_false']; assumption)) | apply CH_t (hb := by first | rfl | assumption | (rw [Bool.not_eq_true']; assumption) | (rw [Bool.not_eq_false']; assumption)) | exact CH_f (hb := by first | rfl | assumption | (rw [Bool.not_eq_true']; assumption) | (rw [Bool.not_eq_false']; assumption))
  | exact p_add | exact p_sub | exact ⟨rfl⟩ | exact List.Pairwise.nil | exact List.pairwise_singleton .. | rfl | decide)
def KL (d : Nat) : Nat := 18 + 6 * d
def RL (d : Nat) : Nat := 6 + 3 * d
def isLitF : Fm → Bool
  | .lit _ _ => true
  | _ => false
def LCp (n : Nat) : Prop := ∀ (S : Sto) (F : Fm) (d : Nat) (g : List W) (k : Int), F.ok → d ≤ 2 → F.size ≤ 60 → GenOk g k → k + ((RL d * F.size : Nat) : Int) < 2 ^ 29 → 3 * F.depth + 3 * d + 6 ≤ n →
  ∃ z g', CC (callT T n) i_law_loose_close [.own (true, g), .val F.w, .val (.int d)] S (.val (.str z)) [some (.own (true, g')), some (.val F.w), some (.val (.int d))] S ∧ Tx 0 F z (KL d * F.size) ∧ GenOk g' (k + ((RL d * F.size : Nat) : Int))
def LOp (n : Nat) : Prop := ∀ (S : Sto) (F : Fm) (d : Nat) (g : List W) (k : Int), F.ok → d ≤ 2 → F.size ≤ 60 → GenOk g k → k + ((if isLitF F then RL d else RL d * F.size - 3 : Nat) : Int) < 2 ^ 29 → 3 * F.depth + 3 * d + (if isLitF F then 7 else 5) ≤ n →
  ∃ z g', CC (callT T n) i_law_loose [.own (true, g), .val F.w, .val (.int d)] S (.val (.str z)) [some (.own (true, g')), some (.val F.w), some (.val (.int d))] S ∧ Tx (lvl F) F z (if isLitF F then KL d else KL d * F.size - 6) ∧ GenOk g' (k + ((if isLitF F then RL d else RL d * F.size - 3 : Nat) : Int))
theorem KL_mul (d s : Nat) : KL d * s = 18 * s + 6 * (d * s) := by unfold KL; rw [Nat.add_mul, Nat.mul_assoc]
theorem RL_mul (d s : Nat) : RL d * s = 6 * s + 3 * (d * s) := by unfold RL; rw [Nat.add_mul, Nat.mul_assoc]
theorem loose_step (n : Nat) (hC : LCp n) (hO : LOp n) : LCp (n + 1) ∧ LOp (n + 1) := by
  constructor
  · intro S F d g k o hd hs hg hk hn
    have dp := F.depth_pos
    have sp := F.size_pos
    obtain ⟨m, rfl⟩ : ∃ m, n = m + 4 := ⟨n - 4, by omega⟩
    have hRL := RL_mul d F.size
    have hKL := KL_mul d F.size
    have hmul : d * F.size ≤ 2 * 60 := Nat.mul_le_mul hd hs
    obtain ⟨r, g1, w1, w2, w3⟩ := f_way (m + 2) S hg (by omega) F.w d
    have hk1 : (k + if d = 0 then (0 : Int) else 1) ≤ k + 1 := by split <;> omega
    by_cases c1 : r = 1
    · subst c1
      have hd0 : 0 < d := by
        rcases Nat.eq_zero_or_pos d with h | h
        · exact absurd (w2 h) (by decide)
        · exact h
      obtain ⟨e, rfl⟩ : ∃ e, d = e + 1 := ⟨d - 1, by omega⟩
      have hmul2 : (e + 1) * F.size = e * F.size + F.size := by rw [Nat.add_mul, Nat.one_mul]
      have hR2 := RL_mul e F.size
      have hK2 := KL_mul e F.size
      obtain ⟨gp, g2, q1, q2, q3⟩ := g_gap m S w3 (by omega)
      have q4 := g_law_turned S F (m + 4) o (by omega)
      obtain ⟨z, g3, q5, q6, q7⟩ := hC S F.turn e g2 _ (Fm.turn_ok o) (by omega) (by rw [Fm.turn_size]; exact hs) q3 (by rw [Fm.turn_size]; omega) (by rw [Fm.turn_depth]; omega)
      rw [Fm.turn_size] at q6 q7
      have hz := q6.len
      have hgp := q2.l
      refine ⟨_, g3, f_lc_not (m + 4) S g g1 g2 g3 F.w F.turn.w (e + 1 : Nat) e gp z w1 q1 q4 q5 (by omega) (by omega) (by omega), ?_, q7.mono (by omega)⟩
      have := q6.not q2
      rw [Fm.turn_turn] at this
      exact this.le (by omega)
    · by_cases c2 : r = 2 ∨ isLitF F = false
      · -- in parentheses
        obtain ⟨hd', l, ew⟩ : ∃ (h : Str) (l : List W), F.w = .tup (.str h :: l) := by cases F <;> exact ⟨_, _, rfl⟩
        have hBE : r = 2 ∨ isBE hd' = true := by
          rcases c2 with h | h
          · exact .inl h
          · right
            cases F with
            | lit neg z => cases h
            | bin e a b =>
              have : hd' = wd e := by
                have e2 : (Fm.bin e a b).w = .tup [.str (wd e), a.w, b.w] := rfl
                rw [ew] at e2
                injection e2 with e3
                injection e3 with e4
                injection e4 with e5
              rw [this]
              cases e
              · exact isBE_b
              · exact isBE_e
        obtain ⟨p1, g2, q1, q2, q3⟩ := g_sep2 (m + 1) S w3 (by omega) " " (by unfold isSep; decide +kernel) (by decide +kernel)
        have hRm : RL (d - 1) * F.size ≤ RL d * F.size := Nat.mul_le_mul_right _ (by unfold RL; omega)
        have hKm : KL (d - 1) * F.size ≤ KL d * F.size := Nat.mul_le_mul_right _ (by unfold KL; omega)
        have hd3 : 3 * (d - 1) ≤ 3 * d := by omega
        have hlit : isLitF F = true → 0 < d := fun h => by
          rcases Nat.eq_zero_or_pos d with h0 | h0
          · exfalso
            have := w2 h0
            rcases c2 with c | c
            · omega
            · rw [h] at c; cases c
          · exact h0
        have hkr : k + 1 + 1 + ((if isLitF F then RL (d - 1) else RL (d - 1) * F.size - 3 : Nat) : Int) + 1 ≤ k + (RL d * F.size : Nat) := by
          cases hl : isLitF F with
          | true =>
            have h0 := hlit hl
            simp only [if_true]
            have a1 : RL d ≤ RL d * F.size := Nat.le_mul_of_pos_right _ sp
            have a2 : RL (d - 1) + 3 = RL d := by unfold RL; omega
            omega
          | false =>
            simp only [Bool.false_eq_true, if_false]
            have a3 : 6 * F.size ≤ RL (d - 1) * F.size := Nat.mul_le_mul_right _ (by unfold RL; omega)
            rcases Nat.eq_zero_or_pos d with h0 | h0
            · subst h0
              omega
            · omega
        obtain ⟨z, g3, q5, q6, q7⟩ := hO S F (d - 1) g2 _ o (by omega) hs q3 (by omega) (by
          cases hl : isLitF F with
          | true => have h0 := hlit hl; rw [if_pos rfl]; omega
          | false => rw [if_neg (by decide)]; omega)
        obtain ⟨p2, g4, q8, q9, q10⟩ := g_sep2 (m + 1) S q7 (by omega) "\n" (by unfold isSep; decide +kernel) (by decide +kernel)
        have hz := q6.len
        have hK0 : KL (d - 1) ≤ KL (d - 1) * F.size := Nat.le_mul_of_pos_right _ sp
        have hzl : z.length ≤ 5000 := by
          refine Nat.le_trans hz ?_
          split <;> omega
        rw [ew] at w1 q5 ⊢
        refine ⟨_, g4, f_lc_par (m + 4) S g g1 g2 g3 g4 hd' l d (d - 1 : Nat) r p1 z p2 w1 c1 hBE q1 q5 q8 (by omega) (by omega) (by omega) hzl (by omega), ?_, q10.mono ?_⟩
        · have := (q6.up (lvl_le F) (Nat.le_refl 2)).par q2.1 q2.2 q9.1 q9.2
          refine this.le ?_
          cases hl : isLitF F with
          | true =>
            have h0 := hlit hl
            rw [if_pos rfl]
            have a2 : KL (d - 1) + 6 = KL d := by unfold KL; omega
            have a1 : KL d ≤ KL d * F.size := Nat.le_mul_of_pos_right _ sp
            omega
          | false =>
            rw [if_neg (by decide)]
            have a3 : 18 * F.size ≤ KL (d - 1) * F.size := Nat.mul_le_mul_right _ (by unfold KL; omega)
            omega
        · omega
      · have c3 : r ≠ 2 := fun h => c2 (.inl h)
        have hl : isLitF F = true := by
          cases q : isLitF F with
          | true => rfl
          | false => exact absurd (.inr q) c2
        cases F with
        | bin e a b => cases hl
        | lit neg y =>
          have ly := len_word o
          have hsz : (Fm.lit neg y).size = 1 := rfl
          rw [hsz] at hRL hKL hmul hk ⊢
          cases neg with
          | false =>
            refine ⟨y, g1, f_lc_pos (m + 4) S g g1 y d r w1 c1 c3, (Tx.lit o).le (by omega), w3.mono (by omega)⟩
          | true =>
            obtain ⟨gp, g2, q1, q2, q3⟩ := g_gap m S w3 (by omega)
            have := q2.l
            refine ⟨_, g2, f_lc_neg (m + 4) S g g1 g2 y gp d r w1 c1 c3 q1 (by omega) (by omega), ?_, q3.mono (by omega)⟩
            have := (Tx.lit o).not q2
            exact this.le (by omega)
  · intro S F d g k o hd hs hg hk hn
    have sp := F.size_pos
    cases F with
    | lit neg y =>
      rw [show isLitF (.lit neg y) = true from rfl, if_pos rfl] at hn
      simp only [show isLitF (.lit neg y) = true from rfl, if_true]
      have hdp : (Fm.lit neg y).depth = 1 := rfl
      have hsz : (Fm.lit neg y).size = 1 := rfl
      have hin : isIN (if neg then "not" else "is") = true := by cases neg <;> decide +kernel
      rcases Nat.eq_zero_or_pos d with h0 | h0
      · subst h0
        obtain ⟨m, rfl⟩ : ∃ m, n = m + 1 := ⟨n - 1, by omega⟩
        have c := f_close_lit m S neg (len_word o)
        refine ⟨_, g, f_lo_lit (m + 1) S g g (if neg then "not" else "is") (.str y) 0 _ hin (fun h => absurd h (by omega)) (fun _ => ⟨rfl, c⟩), (Fm.said_tx (F := .lit neg y) o).le (by show 18 ≤ KL 0; decide), hg.mono (by omega)⟩
      · obtain ⟨z, g', q1, q2, q3⟩ := hC S (.lit neg y) d g k o hd hs hg (by rw [hsz]; simp only [show isLitF (.lit neg y) = true from rfl, if_true] at hk; omega) (by omega)
        refine ⟨z, g', f_lo_lit n S g g' (if neg then "not" else "is") (.str y) d z hin (fun _ => q1) (fun h => absurd h (by omega)), q2.le (by rw [hsz]; omega), q3.mono (by rw [hsz]; omega)⟩
    | bin e A B =>
      rw [show isLitF (.bin e A B) = false from rfl, if_neg (by decide)] at hn
      have hsz : (Fm.bin e A B).size = 1 + A.size + B.size := rfl
      have hdp : (Fm.bin e A B).depth = 1 + max A.depth B.depth := rfl
      simp only [show isLitF (.bin e A B) = false from rfl, Bool.false_eq_true, if_false] at hk ⊢
      rw [hsz] at hk hs ⊢
      have dA := A.depth_pos
      have sA := A.size_pos
      have sB := B.size_pos
      have hR : RL d * (1 + A.size + B.size) = RL d + RL d * A.size + RL d * B.size := by rw [Nat.mul_add, Nat.mul_add, Nat.mul_one]
      have hK : KL d * (1 + A.size + B.size) = KL d + KL d * A.size + KL d * B.size := by rw [Nat.mul_add, Nat.mul_add, Nat.mul_one]
      have hR6 : 6 ≤ RL d := by unfold RL; omega
      have hK18 : 18 ≤ KL d := by unfold KL; omega
      have hK30 : KL d ≤ 30 := by unfold KL; omega
      have hKs : KL d * (1 + A.size + B.size) ≤ 30 * 60 := Nat.mul_le_mul hK30 hs
      have part : ∀ (F : Fm) (fr : Bool) (t : Nat), F.ok → F.size ≤ 60 → 3 * F.depth + 3 * d + 6 ≤ n → KL d * F.size ≤ 1800 → (fr = true → isLitF F = false ∧ lvl F ≤ t) → t ≤ 2 → ∀ (g : List W) (k : Int), GenOk g k → k + (RL d * F.size : Nat) < 2 ^ 29 →
          ∃ z g', CC (callT T n) (if fr then i_law_loose else i_law_loose_close) [.own (true, g), .val F.w, .val (.int d)] S (.val (.str z)) [some (.own (true, g')), some (.val F.w), some (.val (.int d))] S ∧ Tx t F z (KL d * F.size) ∧ GenOk g' (k + (RL d * F.size : Nat)) := by
        intro F fr t oF sF nF kF hf ht g k hg hk
        cases fr with
        | false =>
          obtain ⟨z, g', q1, q2, q3⟩ := hC S F d g k oF hd sF hg hk nF
          exact ⟨z, g', q1, q2.up (Nat.zero_le _) ht, q3⟩
        | true =>
          obtain ⟨f1, f2⟩ := hf rfl
          obtain ⟨z, g', q1, q2, q3⟩ := hO S F d g k oF hd sF hg (by rw [f1]; simp only [Bool.false_eq_true, if_false]; omega) (by rw [f1, if_neg (by decide)]; omega)
          rw [f1, if_neg (by decide)] at q2 q3
          exact ⟨z, g', q1, (q2.up f2 ht).le (by omega), q3.mono (by omega)⟩
      have frL : freeL e A.hd = true → isLitF A = false ∧ lvl A ≤ if e then 2 else 1 := fun h => ⟨by
        cases A with
        | lit neg z =>
          have q : freeL e (Fm.lit neg z).hd = false := by
            show freeL e (if neg then "not" else "is") = false
            cases neg <;> cases e <;> decide +kernel
          rw [q] at h; cases h
        | bin _ _ _ => rfl, hd_free h⟩
      have frR : freeR e B.hd = true → isLitF B = false ∧ lvl B ≤ if e then 1 else 0 := fun h => ⟨by
        cases B with
        | lit neg z =>
          have q : freeR e (Fm.lit neg z).hd = false := by
            show freeR e (if neg then "not" else "is") = false
            cases neg <;> cases e <;> decide +kernel
          rw [q] at h; cases h
        | bin _ _ _ => rfl, hd_freeR h⟩
      obtain ⟨m, rfl⟩ : ∃ m, n = m + 4 := ⟨n - 4, by omega⟩
      obtain ⟨za, g1, a1, a2, a3⟩ := part A (freeL e A.hd) (if e then 2 else 1) o.1 (by omega) (by omega) (by omega) frL (by split <;> omega) g k hg (by omega)
      obtain ⟨zb, g2, b1, b2, b3⟩ := part B (freeR e B.hd) (if e then 1 else 0) o.2 (by omega) (by omega) (by omega) frR (by split <;> omega) g1 _ a3 (by omega)
      obtain ⟨p1, g3, c1, c2, c3⟩ := g_gap m S b3 (by omega)
      obtain ⟨p2, g4, d1, d2, d3⟩ := g_gap m S c3 (by omega)
      have la' := a2.len
      have lb' := b2.len
      have lp1 := c2.l
      have lp2 := d2.l
      obtain ⟨la, ea⟩ := A.w_tup
      obtain ⟨lb, eb⟩ := B.w_tup
      have pa := p_hd A
      have pb := p_hd B
      have hw : (Fm.bin e A B).w = .tup [.str (wd e), .tup la, .tup lb] := by rw [← ea, ← eb]; rfl
      rw [ea] at a1 pa
      rw [eb] at b1 pb
      rw [hw]
      refine ⟨_, g4, f_lo_bin (m + 4) S e g g1 g2 g3 g4 la lb A.hd B.hd za zb p1 p2 (.int d) pa pb a1 b1 c1 d1 (by omega) (by omega) (by omega) (by omega), ?_, d3.mono (by omega)⟩
      exact (a2.bin c2 d2 b2).le (by omega)
theorem loose_all : ∀ n, LCp n ∧ LOp n
  | 0 => ⟨fun S F d g k _ _ _ _ _ h => by omega, fun S F d g k _ _ _ _ _ h => by split at h <;> omega⟩
  | n + 1 => loose_step n (loose_all n).1 (loose_all n).2
end K05
set_option Elab.async false
set_option linter.all false
set_option maxRecDepth 100000
set_option maxHeartbeats 1000000
namespace K05
open PySem PySem.Spec PyProof.Rows L2 NV
local macro_rules | `(tactic| walk_at "nv") => `(tactic| first
  | assumption
  | exact E_cst | exact AA_nil | exact RR_nil | exact O_nil | exact S_nil | exact SF_rt | exact E_gc | exact E_edict | exact FL_nil
  | exact A_pk rfl | apply A_v (hm := rfl) | apply AA_cons | apply RR_cons | apply O_some (hm := rfl)
  | apply S_seq | apply SF_nx | apply S_asg | apply S_ite | apply S_ret | exact S_mvv rfl | exact S_mvo rfl | apply S_put | apply S_par | apply S_expr | apply S_tgt | apply S_forr
  | apply E_op2 | apply E_bi | apply E_me | apply E_isi | apply E_not | apply E_ite | apply E_and | apply E_or | apply E_tup | apply E_lst | apply E_sl | apply E_call | apply E_nm | apply E_neg | apply E_mut | apply E_heap | apply I_rng | apply E_chain
  | apply SB_t (hb := by first | rfl | assumption | (rw [Bool.not_eq_true']; assumption) | (rw [Bool.not_eq_false']; assumption)) | apply SB_f (hb := by first | rfl | assumption | (rw [Bool.not_eq_true']; assumption) | (rw [Bool.not_eq_false']; assumption)) | apply EB_t (hb := by first | rfl | assumption | (rw [Bool.not_eq_true']; assumption) | (rw [Bool.not_eq_false']; assumption)) | apply EB_f (hb := by first | rfl | assumption | (rw [Bool.not_eq_true']; assumption) | (rw [Bool.not_eq_false']; assumption)) | apply CH_t (hb := by first | rfl | assumption | (rw [Bool.not_eq_true']; assumption) | (rw [Bool.not_eq_false']; assumption)) | exact CH_f (hb := by first | rfl | assumption | (rw [Bool.not_eq_true']; assumption) | (rw [Bool.not_eq_false']; assumption))
  | exact p_add | exact p_sub | exact ⟨rfl⟩ | exact List.Pairwise.nil | exact List.pairwise_singleton .. | rfl | decide)
def la3 : MS := (.seq (.asg 11 (.call 27 (.cons (.pk 5) (.cons (.cst (.int 4)) .nil)))) (.seq (.par [14, 15, 16] (.cons (.bi .repr (.cons (.pk 11) .nil)) (.cons (.call 29 (.cons (.nm 11) .nil)) (.cons (.call 32 (.cons (.pk 5) (.cons (.nm 11) (.cons (.cst (.int 2)) .nil)))) .nil)))) (.seq (.ite (.not (.call 24 (.cons (.lst (.cons (.call 10 (.cons (.nm 11) .nil)) (.cons (.callk 10 [0] .nil (.cons (.nm 11) .nil)) (.cons (.call 17 (.cons (.nm 15) .nil)) (.cons (.callk 17 [0] .nil (.cons (.nm 15) .nil)) .nil))))) (.cons (.lst (.cons (.nm 15) (.cons (.nm 15) (.cons (.nm 11) (.cons (.nm 11) .nil))))) .nil)))) (.seq (.ret (.cst (.bl false))) .nil) .nil) (.seq (.ite (.not (.call 24 (.cons (.lst (.cons (.call 17 (.cons (.nm 16) .nil)) (.cons (.call 18 (.cons (.nm 16) .nil)) (.cons (.callk 18 [0] .nil (.cons (.nm 15) .nil)) (.cons (.call 10 (.cons (.call 17 (.cons (.nm 16) .nil)) .nil)) .nil))))) (.cons (.lst (.cons (.nm 11) (.cons (.cst .non) (.cons (.cst .non) (.cons (.nm 15) .nil))))) .nil)))) (.seq (.ret (.cst (.bl false))) .nil) .nil) (.seq (.asg 12 (.op2 (.bin .Add) (.op2 (.bin .Add) (.cst (.str "not (")) (.pk 15)) (.cst (.str ")")))) (.seq (.ite (.or (.not (.call 24 (.cons (.lst (.cons (.call 17 (.cons (.nm 12) .nil)) (.cons (.call 17 (.cons (.op2 (.bin .Add) (.cst (.str "not ")) (.pk 12)) .nil)) .nil))) (.cons (.lst (.cons (.call 26 (.cons (.nm 11) .nil)) (.cons (.nm 11) .nil))) .nil)))) (.or (.op2 (.cmp .NotEq) (.call 7 (.cons (.call 17 (.cons (.nm 12) .nil)) .nil)) (.pk 11)) (.op2 (.cmp .NotEq) (.bi .repr (.cons (.pk 11) .nil)) (.pk 14)))) (.seq (.ret (.cst (.bl false))) .nil) .nil) .nil))))))
def la1 : MS := (.seq (.asg 5 (.call 22 (.cons (.nm 0) (.cons (.nm 1) .nil)))) (.seq (.forr (.tnm 6) (.rng (.cons (.cst (.int 5)) .nil)) (.seq (.asg 11 (.call 27 (.cons (.pk 5) (.cons (.cst (.int 4)) .nil)))) (.seq (.par [14, 15, 16] (.cons (.bi .repr (.cons (.pk 11) .nil)) (.cons (.call 29 (.cons (.nm 11) .nil)) (.cons (.call 32 (.cons (.pk 5) (.cons (.nm 11) (.cons (.cst (.int 2)) .nil)))) .nil)))) (.seq (.ite (.not (.call 24 (.cons (.lst (.cons (.call 10 (.cons (.nm 11) .nil)) (.cons (.callk 10 [0] .nil (.cons (.nm 11) .nil)) (.cons (.call 17 (.cons (.nm 15) .nil)) (.cons (.callk 17 [0] .nil (.cons (.nm 15) .nil)) .nil))))) (.cons (.lst (.cons (.nm 15) (.cons (.nm 15) (.cons (.nm 11) (.cons (.nm 11) .nil))))) .nil)))) (.seq (.ret (.cst (.bl false))) .nil) .nil) (.seq (.ite (.not (.call 24 (.cons (.lst (.cons (.call 17 (.cons (.nm 16) .nil)) (.cons (.call 18 (.cons (.nm 16) .nil)) (.cons (.callk 18 [0] .nil (.cons (.nm 15) .nil)) (.cons (.call 10 (.cons (.call 17 (.cons (.nm 16) .nil)) .nil)) .nil))))) (.cons (.lst (.cons (.nm 11) (.cons (.cst .non) (.cons (.cst .non) (.cons (.nm 15) .nil))))) .nil)))) (.seq (.ret (.cst (.bl false))) .nil) .nil) (.seq (.asg 12 (.op2 (.bin .Add) (.op2 (.bin .Add) (.cst (.str "not (")) (.pk 15)) (.cst (.str ")")))) (.seq (.ite (.or (.not (.call 24 (.cons (.lst (.cons (.call 17 (.cons (.nm 12) .nil)) (.cons (.call 17 (.cons (.op2 (.bin .Add) (.cst (.str "not ")) (.pk 12)) .nil)) .nil))) (.cons (.lst (.cons (.call 26 (.cons (.nm 11) .nil)) (.cons (.nm 11) .nil))) .nil)))) (.or (.op2 (.cmp .NotEq) (.call 7 (.cons (.call 17 (.cons (.nm 12) .nil)) .nil)) (.pk 11)) (.op2 (.cmp .NotEq) (.bi .repr (.cons (.pk 11) .nil)) (.pk 14)))) (.seq (.ret (.cst (.bl false))) .nil) .nil) .nil))))))) .nil))
def laE0 : MS := (.tgt (.ttup (.cons (.tnm 7) (.cons (.tnm 8) (.cons (.tnm 9) (.cons (.tnm 10) .nil))))) (.tup (.cons (.tup (.cons (.cst (.str "is")) (.cons (.cst (.str "p")) .nil))) (.cons (.tup (.cons (.cst (.str "is")) (.cons (.cst (.str "q")) .nil))) (.cons (.tup (.cons (.cst (.str "not")) (.cons (.cst (.str "p")) .nil))) (.cons (.tup (.cons (.cst (.str "not")) (.cons (.cst (.str "q")) .nil))) .nil))))))
def laE1 : MS := (.asg 2 (.lst (.cons (.cst (.str "p either q both p")) (.cons (.cst (.str "p both q either p")) (.cons (.cst (.str "p either q either p")) (.cons (.cst (.str "not not p")) (.cons (.cst (.str "not p both q")) (.cons (.cst (.str "(((p)))")) (.cons (.cst (.str "not (p both (q either not p))")) .nil)))))))))
def laE2 : MS := (.asg 3 (.lst (.cons (.tup (.cons (.cst (.str "either")) (.cons (.nm 7) (.cons (.tup (.cons (.cst (.str "both")) (.cons (.nm 8) (.cons (.nm 7) .nil)))) .nil)))) (.cons (.tup (.cons (.cst (.str "either")) (.cons (.tup (.cons (.cst (.str "both")) (.cons (.nm 7) (.cons (.nm 8) .nil)))) (.cons (.nm 7) .nil)))) (.cons (.tup (.cons (.cst (.str "either")) (.cons (.tup (.cons (.cst (.str "either")) (.cons (.nm 7) (.cons (.nm 8) .nil)))) (.cons (.nm 7) .nil)))) (.cons (.nm 7) (.cons (.tup (.cons (.cst (.str "both")) (.cons (.nm 9) (.cons (.nm 8) .nil)))) (.cons (.nm 7) (.cons (.tup (.cons (.cst (.str "either")) (.cons (.nm 9) (.cons (.tup (.cons (.cst (.str "both")) (.cons (.nm 10) (.cons (.nm 7) .nil)))) .nil)))) .nil)))))))))
def laE3 : MS := (.asg 4 (.lc [13] (.seq (.tup (.cons (.tup (.cons (.cst (.str "both")) (.cons (.tup (.cons (.cst (.str "either")) (.cons (.nm 7) (.cons (.nm 8) .nil)))) (.cons (.nm 7) .nil)))) (.cons (.tup (.cons (.cst (.str "either")) (.cons (.nm 7) (.cons (.tup (.cons (.cst (.str "either")) (.cons (.nm 8) (.cons (.nm 7) .nil)))) .nil)))) (.cons (.tup (.cons (.cst (.str "both")) (.cons (.nm 7) (.cons (.tup (.cons (.cst (.str "both")) (.cons (.nm 7) (.cons (.nm 7) .nil)))) .nil)))) (.cons (.tup (.cons (.cst (.str "either")) (.cons (.tup (.cons (.cst (.str "both")) (.cons (.nm 7) (.cons (.nm 8) .nil)))) (.cons (.tup (.cons (.cst (.str "both")) (.cons (.nm 9) (.cons (.nm 8) .nil)))) .nil)))) .nil)))))) (.tnm 13) (.cst (.bl true)) (.call 10 (.cons (.nm 13) .nil))))
def laE4 : MS := (.ret (.call 24 (.cons (.lst (.cons (.lc [15] (.seq (.nm 2)) (.tnm 15) (.cst (.bl true)) (.call 17 (.cons (.nm 15) .nil))) (.cons (.nm 4) .nil))) (.cons (.lst (.cons (.nm 3) (.cons (.lst (.cons (.cst (.str "(p either q) both p")) (.cons (.cst (.str "p either (q either p)")) (.cons (.cst (.str "p both (p both p)")) (.cons (.cst (.str "p both q either not p both q")) .nil))))) .nil))) .nil))))
theorem Fm.pd_eqv : ∀ F : Fm, PyData.eqv F.pd F.pd = true
  | .lit neg z => by
    have e : PyData.eqv (Fm.lit neg z).pd (Fm.lit neg z).pd = (PyData.eqv (.str (if neg then "not" else "is")) (.str (if neg then "not" else "is")) && (PyData.eqv (.str z) (.str z) && true)) := by simp only [Fm.pd, PyData.eqv, PyData.eqvAll]
    rw [e, eqv_str, eqv_str]; simp
  | .bin e a b => by
    have h1 := Fm.pd_eqv a
    have h2 := Fm.pd_eqv b
    have e : PyData.eqv (Fm.bin e a b).pd (Fm.bin e a b).pd = (PyData.eqv (.str (if e then "either" else "both")) (.str (if e then "either" else "both")) && (PyData.eqv a.pd a.pd && (PyData.eqv b.pd b.pd && true))) := by simp only [Fm.pd, PyData.eqv, PyData.eqvAll]
    rw [e, eqv_str, h1, h2]; simp
theorem p_neF {F : Fm} (h : F.depth ≤ 60) : PO (.cmp .NotEq) F.w F.w (.val (.bl false)) := by
  have e1 := F.toD
  have e2 : dOk F.pd = true := decide_eq_true (by rw [Fm.pd_depth]; omega)
  constructor
  simp only [pOp2, pCmp, wEq, e1, e2, Bool.true_or, if_true, Option.map_some, Fm.pd_eqv]
  rfl
def l5E (s : W) (i : Option W) (g : Option (List W)) (t : Option W) (x : Option (W × W × W × W × W)) : NV.Env := match x with
  | none => [some (.val s), i.map SV.val, none, none, none, g.map fun g => .own (false, g), t.map SV.val, none, none, none, none, none, none, none, none, none, none]
  | some (a, b, c, d, e) => [some (.val s), i.map SV.val, none, none, none, g.map fun g => .own (false, g), t.map SV.val, none, none, none, none, some (.val a), some (.val b), none, some (.val c), some (.val d), some (.val e)]
theorem Fm.size_le : ∀ F : Fm, F.size + 1 ≤ 2 ^ F.depth
  | .lit _ _ => by simp [Fm.size, Fm.depth]
  | .bin _ a b => by
    have h1 := Fm.size_le a
    have h2 := Fm.size_le b
    have h3 : 2 ^ a.depth ≤ 2 ^ max a.depth b.depth := Nat.pow_le_pow_right (by omega) (by omega)
    have h4 : 2 ^ b.depth ≤ 2 ^ max a.depth b.depth := Nat.pow_le_pow_right (by omega) (by omega)
    have h5 : 2 ^ (1 + max a.depth b.depth) = 2 * 2 ^ max a.depth b.depth := by rw [Nat.add_comm, Nat.pow_succ]; omega
    show 1 + a.size + b.size + 1 ≤ 2 ^ (1 + max a.depth b.depth)
    omega
theorem other_eq (z : Str) : (Str.ofString "not (" ++ z ++ ")" : Str) = "not" ++ " " ++ (opn ++ z ++ cls) := ch_inj (by
  have e1 : ch (Str.ofString "not (") = ch (Str.ofString "not") ++ (ch (Str.ofString " ") ++ ch opn) := by decide +kernel
  have e2 : ch (Str.ofString ")") = ch cls := rfl
  simp only [ch_app, e1, e2, List.append_assoc])
theorem again_eq (z : Str) : (Str.ofString "not " ++ z : Str) = "not" ++ " " ++ z := ch_inj (by
  have e1 : ch (Str.ofString "not ") = ch (Str.ofString "not") ++ ch (Str.ofString " ") := by decide +kernel
  simp only [ch_app, e1])
theorem la3_run (S : Sto) (s i t : W) (g g1 g2 : List W) (l tl : List W) (kept text loose other again : Str) (x : Option (W × W × W × W × W))
    (c1 : CC (callT T 39) i_law_formula [.own (true, g), .val (.int 4)] S (.val (.tup l)) [some (.own (true, g1)), some (.val (.int 4))] S)
    (hr : pBi .repr [.tup l] = some (.val (.str kept)))
    (c2 : CC (callT T 39) i_law_said [.val (.tup l)] S (.val (.str text)) [some (.val (.tup l))] S)
    (c3 : CC (callT T 39) i_law_loose [.own (true, g1), .val (.tup l), .val (.int 2)] S (.val (.str loose)) [some (.own (true, g2)), some (.val (.tup l)), some (.val (.int 2))] S)
    (c4 : CC (callT T 39) i_text_of_formula [.val (.tup l)] S (.val (.str text)) [some (.val (.tup l))] S)
    (c5 : CC (callT T 39) i_formula_of_text [.val (.str text)] S (.val (.tup l)) [some (.val (.str text))] S)
    (c6 : CC (callT T 39) i_formula_of_text [.val (.str loose)] S (.val (.tup l)) [some (.val (.str loose))] S)
    (c7 : CC (callT T 39) i_wrong_word [.val (.str loose)] S (.val .non) [some (.val (.str loose))] S)
    (c8 : CC (callT T 39) i_wrong_word [.val (.str text)] S (.val .non) [some (.val (.str text))] S)
    (s1 : CC (callT T 39) i_law_same [.val (.lst [.str text, .str text, .tup l, .tup l]), .val (.lst [.str text, .str text, .tup l, .tup l])] S (.val (.bl true)) [some (.val (.lst [.str text, .str text, .tup l, .tup l])), some (.val (.lst [.str text, .str text, .tup l, .tup l]))] S)
    (s2 : CC (callT T 39) i_law_same [.val (.lst [.tup l, .non, .non, .str text]), .val (.lst [.tup l, .non, .non, .str text])] S (.val (.bl true)) [some (.val (.lst [.tup l, .non, .non, .str text])), some (.val (.lst [.tup l, .non, .non, .str text]))] S)
    (a1 : PO (.bin .Add) (.str "not (") (.str text) (.val (.str ("not (" ++ text)))) (a2 : PO (.bin .Add) (.str ("not (" ++ text)) (.str ")") (.val (.str other))) (a3 : PO (.bin .Add) (.str "not ") (.str other) (.val (.str again)))
    (c9 : CC (callT T 39) i_formula_of_text [.val (.str other)] S (.val (.tup tl)) [some (.val (.str other))] S)
    (c10 : CC (callT T 39) i_formula_of_text [.val (.str again)] S (.val (.tup l)) [some (.val (.str again))] S)
    (c11 : CC (callT T 39) i_law_turned [.val (.tup l)] S (.val (.tup tl)) [some (.val (.tup l))] S)
    (s3 : CC (callT T 39) i_law_same [.val (.lst [.tup tl, .tup l]), .val (.lst [.tup tl, .tup l])] S (.val (.bl true)) [some (.val (.lst [.tup tl, .tup l])), some (.val (.lst [.tup tl, .tup l]))] S)
    (c12 : CC (callT T 39) i_turned [.val (.tup tl)] S (.val (.tup l)) [some (.val (.tup tl))] S)
    (n1 : PO (.cmp .NotEq) (.tup l) (.tup l) (.val (.bl false))) :
    SS (callT T 39) la3 (l5E s (some i) (some g) (some t) x) S .nx (l5E s (some i) (some g2) (some t) (some (.tup l, .str other, .str kept, .str text, .str loose))) S := by
  have n2 : PO (.cmp .NotEq) (.str kept) (.str kept) (.val (.bl false)) := by
    have q := p_nestr (a := kept) (b := kept)
    rw [decide_eq_true rfl] at q
    exact q
  generalize Str.ofString "not (" ++ text = s2' at a1 a2
  show SS _ la3 _ _ _ [some (.val s), some (.val i), none, none, none, some (.own (false, g2)), some (.val t), none, none, none, none, some (.val (.tup l)), some (.val (.str other)), none, some (.val (.str kept)), some (.val (.str text)), some (.val (.str loose))] _
  unfold la3
  rcases x with _ | ⟨x1, x2, x3, x4, x5⟩
  · show SS _ _ [some (.val s), some (.val i), none, none, none, some (.own (false, g)), some (.val t), none, none, none, none, none, none, none, none, none, none] _ _ _ _
    repeat (first | walk_at "nv" | apply E_callk)
  · show SS _ _ [some (.val s), some (.val i), none, none, none, some (.own (false, g)), some (.val t), none, none, none, none, some (.val x1), some (.val x2), none, some (.val x3), some (.val x4), some (.val x5)] _ _ _ _
    repeat (first | walk_at "nv" | apply E_callk)
theorem la3_ok (S : Sto) (s i t : W) {g : List W} {k : Int} (hg : GenOk g k) (hk : k + 2000 < 2 ^ 29) (x : Option (W × W × W × W × W)) :
    ∃ g' y, SS (callT T 39) la3 (l5E s (some i) (some g) (some t) x) S .nx (l5E s (some i) (some g') (some t) (some y)) S ∧ GenOk g' (k + 2000) := by
  obtain ⟨F, g1, h1, o, hd, hg1⟩ := g_formula 31 S 4 hg (by omega)
  have h1 : CC (callT T 39) i_law_formula [.own (true, g), .val (.int 4)] S (.val F.w) [some (.own (true, g1)), some (.val (.int 4))] S := h1
  have hp : (4 : Int) ^ (4 + 1) = 1024 := by decide
  rw [hp] at hg1
  have hs := F.size_le
  have hs2 : 2 ^ F.depth ≤ 2 ^ 5 := Nat.pow_le_pow_right (by omega) hd
  have fit : F.Fit := ⟨o, by omega, by omega⟩
  have hRL : RL 2 * F.size ≤ 12 * 31 := Nat.mul_le_mul (by decide) (by omega)
  have hKL : KL 2 * F.size ≤ 30 * 31 := Nat.mul_le_mul (by decide) (by omega)
  have hR1 : RL 2 ≤ 12 := by decide
  have hK1 : KL 2 ≤ 30 := by decide
  have sp := F.size_pos
  obtain ⟨loose, g2, h3, tx, hg2⟩ := (loose_all 39).2 S F 2 g1 (k + 1024) o (by omega) (by omega) hg1 (by split <;> omega) (by split <;> omega)
  have h3 : CC (callT T 39) i_law_loose [.own (true, g1), .val F.w, .val (.int 2)] S (.val (.str loose)) [some (.own (true, g2)), some (.val F.w), some (.val (.int 2))] S := h3
  have tx := tx.le (c := 930) (by split <;> omega)
  have h2 := (g_said S F 39 o (by omega) (by omega)).1
  have h4 := g_text_of 38 S fit (by omega) (by omega)
  have st := (Fm.said_tx o).le (c := 18 * 31) (by cases F <;> simp [Fm.size] at * <;> omega)
  have c5 := g_fot 39 S st (lvl_le F) fit (by omega) (by omega)
  have c6 := g_fot 39 S tx (lvl_le F) fit (by omega) (by omega)
  have c7 := g_wrong 39 S tx (lvl_le F) fit (by omega) (by omega)
  have c8 := g_wrong 39 S st (lvl_le F) fit (by omega) (by omega)
  have ot : Tx 0 F.turn ("not" ++ " " ++ (opn ++ F.said ++ cls)) (18 * 31 + 4 + 6) := ((st.up (lvl_le F) (Nat.le_refl 2)).par0).not gap_blank
  rw [← other_eq] at ot
  have ag : Tx 0 F ("not " ++ ("not (" ++ F.said ++ ")")) (18 * 31 + 4 + 6 + 6) := by
    have := ot.not gap_blank
    rw [Fm.turn_turn, ← again_eq] at this
    exact this
  have c9 := g_fot 39 S ot (by omega) fit.turn (by omega) (by omega)
  have c10 := g_fot 39 S ag (by omega) fit (by omega) (by omega)
  have c11 := g_law_turned S F 39 o (by omega)
  have c12 := g_turned 39 S fit.turn (by omega)
  rw [Fm.turn_turn] at c12
  obtain ⟨kept, hz⟩ := Fm.repr fit
  have n1 := p_neF (F := F) (by omega)
  have g1' := gdD_mono F.gdD (j := 22) (by omega)
  have g2' := gdD_mono F.turn.gdD (j := 22) (by rw [Fm.turn_depth]; omega)
  have lo := st.len
  have lo2 := ot.len
  have ln : (Str.ofString "not (").length = 5 := by decide +kernel
  have lc : (Str.ofString ")").length = 1 := by decide +kernel
  have a1 : PO (.bin .Add) (.str "not (") (.str F.said) (.val (.str ("not (" ++ F.said))) := p_adds (by omega)
  have a2 : PO (.bin .Add) (.str ("not (" ++ F.said)) (.str ")") (.val (.str ("not (" ++ F.said ++ ")"))) := p_adds (by rw [sl_app]; omega)
  have a3 : PO (.bin .Add) (.str "not ") (.str ("not (" ++ F.said ++ ")")) (.val (.str ("not " ++ ("not (" ++ F.said ++ ")")))) := p_adds (by rw [len_not]; omega)
  obtain ⟨l, e1⟩ := F.w_tup
  obtain ⟨tl, e2⟩ := F.turn.w_tup
  rw [e1] at h1 h2 h3 h4 c5 c6 c10 c11 c12 hz n1 g1'
  rw [e2] at c9 c11 c12 g2'
  have t1 := Sm.refl S 22 _ g1'
  have t2 := Sm.refl S 22 _ g2'
  have s1 := g_same S 23 39 (.lst [.str F.said, .str F.said, .tup l, .tup l]) (.lst [.str F.said, .str F.said, .tup l, .tup l]) ((SmL.cons .str (.cons .str (.cons t1 (.cons t1 .nil)))).lst (by simp)) (by omega)
  have s2 := g_same S 23 39 (.lst [.tup l, .non, .non, .str F.said]) (.lst [.tup l, .non, .non, .str F.said]) ((SmL.cons t1 (.cons .non (.cons .non (.cons .str .nil)))).lst (by simp)) (by omega)
  have s3 := g_same S 23 39 (.lst [.tup tl, .tup l]) (.lst [.tup tl, .tup l]) ((SmL.cons t2 (.cons t1 .nil)).lst (by simp)) (by omega)
  refine ⟨g2, _, la3_run S s i t g g1 g2 l tl kept F.said loose _ _ x h1 (by simp only [pBi, hz]; rfl) h2 h3 h4 c5 c6 c7 c8 s1 s2 a1 a2 a3 c9 c10 c11 s3 c12 n1, hg2.mono (by split <;> omega)⟩
theorem la1_ok (S : Sto) (ns : List Int) (i : Nat) (hi : i < 1000) (x5 : Option W) (x : Option (W × W × W × W × W)) (x4 : Option (List W)) :
    ∃ g' t y, SS (callT T 39) la1 (l5E (.flst (ns.map W.int)) (some (.int i)) x4 x5 x) S .nx (l5E (.flst (ns.map W.int)) (some (.int i)) g' t y) S := by
  obtain ⟨g, h1, hg⟩ := f_generator 37 ns i hi S
  generalize W.flst (ns.map W.int) = s at h1 ⊢
  generalize hw : W.int (i : Int) = iw at h1 ⊢
  have q1 : SS (callT T 39) (.asg 5 (.call 22 (.cons (.nm 0) (.cons (.nm 1) .nil)))) (l5E s (some iw) x4 x5 x) S .nx (l5E s (some iw) (some g) x5 x) S := by
    rcases x with _ | ⟨a, b, c, d, e⟩ <;> cases x4 <;> cases x5 <;> unfold l5E <;> repeat (walk_at "nv")
  have q3 : II (callT T 39) (.rng (.cons (.cst (.int 5)) .nil)) (l5E s (some iw) (some g) x5 x) S ((List.range 5).map fun (i : Nat) => .int i) (l5E s (some iw) (some g) x5 x) S := ⟨by kernel_rfl⟩
  obtain ⟨ρ', S', h4, _, rfl, g', t, y, rfl, _⟩ := FL_inv (t := asgT (.tnm 6)) (cf := callT T 39) (sa := la3)
    (Inv := fun ws ρ S' => ws.length ≤ 5 ∧ S' = S ∧ ∃ g' t y, ρ = l5E s (some iw) (some g') t y ∧ GenOk g' (1000 * i + 2000 * (5 - ws.length)))
    (fun w ws ρ S' h => by
      obtain ⟨hl, rfl, g', t, y, rfl, hg'⟩ := h
      rw [List.length_cons] at hl hg'
      obtain ⟨g2, z, r1, r2⟩ := la3_ok S' s iw w hg' (by omega) y
      exact ⟨l5E s (some iw) (some g') (some w) y, _, S', by rcases y with _ | ⟨a, b, c, d, e⟩ <;> cases t <;> rfl, r1, by omega, rfl, g2, some w, some z, rfl, r2.mono (by omega)⟩)
    ((List.range 5).map fun (i : Nat) => .int i) (l5E s (some iw) (some g) x5 x) S ⟨by simp, rfl, g, x5, x, rfl, hg.mono (by simp)⟩
  exact ⟨some g', t, y, S_seq q1 (SF_nx (S_seq (S_forr q3 h4) (SF_nx S_nil)))⟩
def eP : W := .tup [.str "is", .str "p"]
def eQ : W := .tup [.str "is", .str "q"]
def eNP : W := .tup [.str "not", .str "p"]
def eNQ : W := .tup [.str "not", .str "q"]
section
variable {cf : CallF} {ρ ρ1 : NV.Env} {S S1 : Sto}
theorem lc_list {tgt : W → NV.Env → Option NV.Env} {F : NV.Env → Sto → Out (Option W)} {own : List Nat} : ∀ {ps : List (W × W)} {acc : List W}, (∀ p ∈ ps, ∃ ρ2, tgt p.1 ρ = some ρ2 ∧ ∃ ρ3, F ρ2 S = .ok (some p.2) ρ3 S ∧ wipeE ρ3 own = ρ) → acc.length + ps.length ≤ sizeLine →
    lcLoop tgt F own (ps.map (·.1)) acc ρ S = .ok (acc ++ ps.map (·.2)) ρ S
  | [], acc, _, _ => by simp [lcLoop]
  | p :: ps, acc, h, hl => by
    obtain ⟨ρ2, h1, ρ3, h2, h3⟩ := h p (List.mem_cons_self ..)
    rw [List.length_cons] at hl
    rw [List.map_cons]
    simp only [lcLoop, h1, h2, h3]
    rw [if_pos (by omega), lc_list (ps := ps) (fun q hq => h q (List.mem_cons_of_mem _ hq)) (by rw [List.length_append, List.length_singleton]; omega)]
    simp
theorem E_lcm {own : List Nat} {src tgt elt : M} {ps : List (W × W)} (hi : II cf src ρ S (ps.map (·.1)) ρ1 S1) (hf : own.all (freeS ρ1) = true)
    (hs : ∀ p ∈ ps, ∃ ρ2 r ρ3, asgT tgt p.1 (wipeE ρ1 own) = some ρ2 ∧ EV cf elt ρ2 S1 r ρ3 S1 ∧ r.frz = p.2 ∧ wipeE ρ3 own = wipeE ρ1 own) (hl : ps.length ≤ sizeLine) :
    EV cf (.lc own src tgt (.cst (.bl true)) elt) ρ S (.fresh (ps.map (·.2))) (backE ρ1 (wipeE ρ1 own) own) S1 := by
  constructor
  simp only [evE, hi.h, Out.bind_ok, if_pos hf]
  rw [lc_list (acc := []) (fun p hp => ?_) (by simpa using hl)]
  · rfl
  · obtain ⟨ρ2, r, ρ3, h1, h2, h3, h4⟩ := hs p hp
    exact ⟨ρ2, h1, ρ3, by simp only [h2.h, Out.bind_ok, h3], h4⟩
end
def ePs : List (W × W) := [(.str "p either q both p", .tup [.str "either", eP, .tup [.str "both", eQ, eP]]), (.str "p both q either p", .tup [.str "either", .tup [.str "both", eP, eQ], eP]), (.str "p either q either p", .tup [.str "either", .tup [.str "either", eP, eQ], eP]), (.str "not not p", eP), (.str "not p both q", .tup [.str "both", eNP, eQ]), (.str "(((p)))", eP), (.str "not (p both (q either not p))", .tup [.str "either", eNP, .tup [.str "both", eNQ, eP]])]
def eFs : List (W × W) := [(.tup [.str "both", .tup [.str "either", eP, eQ], eP], .str "(p either q) both p"), (.tup [.str "either", eP, .tup [.str "either", eQ, eP]], .str "p either (q either p)"), (.tup [.str "both", eP, .tup [.str "both", eP, eP]], .str "p both (p both p)"), (.tup [.str "either", .tup [.str "both", eP, eQ], .tup [.str "both", eNP, eQ]], .str "p both q either not p both q")]
def okT (p : W × W) : Prop := ∀ S, CC (callT T 39) i_formula_of_text [.val p.1] S (.val p.2) [some (.val p.1)] S
def okU (p : W × W) : Prop := ∀ S, CC (callT T 39) i_text_of_formula [.val p.1] S (.val p.2) [some (.val p.1)] S
theorem t_0 : okT (.str ("p either q both p"), .tup [.str "either", eP, .tup [.str "both", eQ, eP]]) := fun S => ⟨by kernel_rfl⟩
theorem t_1 : okT (.str ("p both q either p"), .tup [.str "either", .tup [.str "both", eP, eQ], eP]) := fun S => ⟨by kernel_rfl⟩
theorem t_2 : okT (.str ("p either q either p"), .tup [.str "either", .tup [.str "either", eP, eQ], eP]) := fun S => ⟨by kernel_rfl⟩
theorem t_3 : okT (.str ("not not p"), eP) := fun S => ⟨by kernel_rfl⟩
theorem t_4 : okT (.str ("not p both q"), .tup [.str "both", eNP, eQ]) := fun S => ⟨by kernel_rfl⟩
theorem t_5 : okT (.str ("(((p)))"), eP) := fun S => ⟨by kernel_rfl⟩
theorem t_6 : okT (.str ("not (p both (q either not p))"), .tup [.str "either", eNP, .tup [.str "both", eNQ, eP]]) := fun S => ⟨by kernel_rfl⟩
theorem u_0 : okU (.tup [.str "both", .tup [.str "either", eP, eQ], eP], .str "(p either q) both p") := fun S => ⟨by kernel_rfl⟩
theorem u_1 : okU (.tup [.str "either", eP, .tup [.str "either", eQ, eP]], .str "p either (q either p)") := fun S => ⟨by kernel_rfl⟩
theorem u_2 : okU (.tup [.str "both", eP, .tup [.str "both", eP, eP]], .str "p both (p both p)") := fun S => ⟨by kernel_rfl⟩
theorem u_3 : okU (.tup [.str "either", .tup [.str "both", eP, eQ], .tup [.str "both", eNP, eQ]], .str "p both q either not p both q") := fun S => ⟨by kernel_rfl⟩
theorem all_t : ∀ p ∈ ePs, okT p := fun p hp => by
  simp only [ePs, List.mem_cons, List.not_mem_nil, or_false] at hp
  rcases hp with rfl | rfl | rfl | rfl | rfl | rfl | rfl
  · exact t_0
  · exact t_1
  · exact t_2
  · exact t_3
  · exact t_4
  · exact t_5
  · exact t_6
theorem all_u : ∀ p ∈ eFs, okU p := fun p hp => by
  simp only [eFs, List.mem_cons, List.not_mem_nil, or_false] at hp
  rcases hp with rfl | rfl | rfl | rfl
  · exact u_0
  · exact u_1
  · exact u_2
  · exact u_3
end K05
set_option Elab.async false
set_option linter.all false
set_option maxRecDepth 100000
set_option maxHeartbeats 1000000
namespace K05
open PySem PySem.Spec PyProof.Rows L2 NV
local macro_rules | `(tactic| walk_at "nv") => `(tactic| first
  | assumption
  | exact E_cst | exact AA_nil | exact RR_nil | exact O_nil | exact S_nil | exact SF_rt | exact E_gc | exact E_edict | exact FL_nil
  | exact A_pk rfl | apply A_v (hm := rfl) | apply AA_cons | apply RR_cons | apply O_some (hm := rfl)
  | apply S_seq | apply SF_nx | apply S_asg | apply S_ite | apply S_ret | exact S_mvv rfl | exact S_mvo rfl | apply S_put | apply S_par | apply S_expr | apply S_tgt | apply S_forr
  | apply E_op2 | apply E_bi | apply E_me | apply E_isi | apply E_not | apply E_ite | apply E_and | apply E_or | apply E_tup | apply E_lst | apply E_sl | apply E_call | apply E_nm | apply E_neg | apply E_mut | apply E_heap | apply I_rng | apply E_chain
  | apply SB_t (hb := by first | rfl | assumption | (rw [Bool.not_eq_true']; assumption) | (rw [Bool.not_eq_false']; assumption)) | apply SB_f (hb := by first | rfl | assumption | (rw [Bool.not_eq_true']; assumption) | (rw [Bool.not_eq_false']; assumption)) | apply EB_t (hb := by first | rfl | assumption | (rw [Bool.not_eq_true']; assumption) | (rw [Bool.not_eq_false']; assumption)) | apply EB_f (hb := by first | rfl | assumption | (rw [Bool.not_eq_true']; assumption) | (rw [Bool.not_eq_false']; assumption)) | apply CH_t (hb := by first | rfl | assumption | (rw [Bool.not_eq_true']; assumption) | (rw [Bool.not_eq_false']; assumption)) | exact CH_f (hb := by first | rfl | assumption | (rw [Bool.not_eq_true']; assumption) | (rw [Bool.not_eq_false']; assumption))
  | exact p_add | exact p_sub | exact ⟨rfl⟩ | exact List.Pairwise.nil | exact List.pairwise_singleton .. | rfl | decide)
def m5E (s : W) (i : Option W) (g : Option (List W)) (t : Option W) (x : Option (W × W × W × W × W)) (s2 s3 s4 s13 s15 : Option SV) : NV.Env := match x with
  | none => [some (.val s), i.map SV.val, s2, s3, s4, g.map fun g => .own (false, g), t.map SV.val, some (.val eP), some (.val eQ), some (.val eNP), some (.val eNQ), none, none, s13, none, s15, none]
  | some (a, b, c, d, e) => [some (.val s), i.map SV.val, s2, s3, s4, g.map fun g => .own (false, g), t.map SV.val, some (.val eP), some (.val eQ), some (.val eNP), some (.val eNQ), some (.val a), some (.val b), s13, some (.val c), s15, some (.val e)]
def x15 (x : Option (W × W × W × W × W)) : Option SV := match x with
  | none => none
  | some (a, b, c, d, e) => some (.val d)
theorem la_e4 (s : W) (i : Option W) (g : Option (List W)) (t : Option W) (x : Option (W × W × W × W × W)) (S : Sto) : ∃ ρ', SS (callT T 39) laE4 (m5E s i g t x (some (.own (false, ePs.map (·.1)))) (some (.own (false, ePs.map (·.2)))) (some (.own (false, eFs.map (·.2)))) none (x15 x)) S (.rt (.val (.bl true))) ρ' S := by
  have hi : II (callT T 39) (.seq (.nm 2)) (m5E s i g t x (some (.own (false, ePs.map (·.1)))) (some (.own (false, ePs.map (·.2)))) (some (.own (false, eFs.map (·.2)))) none (x15 x)) S (ePs.map (·.1)) (m5E s i g t x (some (.val (.lst (ePs.map (·.1))))) (some (.own (false, ePs.map (·.2)))) (some (.own (false, eFs.map (·.2)))) none (x15 x)) S := by
    rcases x with _ | ⟨a, b, c, d, e⟩ <;> exact I_ls (E_nm rfl)
  have q := E_lcm (own := [15]) (tgt := .tnm 15) (elt := .call 17 (.cons (.nm 15) .nil)) (ps := ePs) hi (by rcases x with _ | ⟨a, b, c, d, e⟩ <;> rfl) (fun p hp => by
    have hc := all_t p hp S
    obtain ⟨p1, p2⟩ := p
    refine ⟨m5E s i g t x (some (.val (.lst (ePs.map (·.1))))) (some (.own (false, ePs.map (·.2)))) (some (.own (false, eFs.map (·.2)))) none (some (.val p1)), .val p2, m5E s i g t x (some (.val (.lst (ePs.map (·.1))))) (some (.own (false, ePs.map (·.2)))) (some (.own (false, eFs.map (·.2)))) none (some (.val p1)), by rcases x with _ | ⟨a, b, c, d, e⟩ <;> rfl, ?_, rfl, by rcases x with _ | ⟨a, b, c, d, e⟩ <;> rfl⟩
    have hc : CC (callT T 39) 17 [.val p1] S (.val p2) [some (.val p1)] S := hc
    generalize ePs.map (·.1) = R
    generalize ePs.map (·.2) = R2
    generalize eFs.map (·.2) = R3
    rcases x with _ | ⟨a, b, c, d, e⟩ <;> unfold m5E <;> repeat (walk_at "nv")) (by show 7 ≤ _; rw [sizeLine_eq]; omega)
  have hs := g_same S 10 39 (.lst [.lst (ePs.map (·.2)), .lst (eFs.map (·.2))]) (.lst [.lst (ePs.map (·.2)), .lst (eFs.map (·.2))]) (Sm.refl S 10 _ (by decide +kernel)) (by omega)
  have q : EV (callT T 39) (.lc [15] (.seq (.nm 2)) (.tnm 15) (.cst (.bl true)) (.call 17 (.cons (.nm 15) .nil))) (m5E s i g t x (some (.own (false, ePs.map (·.1)))) (some (.own (false, ePs.map (·.2)))) (some (.own (false, eFs.map (·.2)))) none (x15 x)) S (.fresh (ePs.map (·.2))) (m5E s i g t x (some (.val (.lst (ePs.map (·.1))))) (some (.own (false, ePs.map (·.2)))) (some (.own (false, eFs.map (·.2)))) none (x15 x)) S := by
    rcases x with _ | ⟨a, b, c, d, e⟩ <;> exact q
  have hs : CC (callT T 39) 24 [.val (.lst [.lst (ePs.map (·.2)), .lst (eFs.map (·.2))]), .val (.lst [.lst (ePs.map (·.2)), .lst [.str "(p either q) both p", .str "p either (q either p)", .str "p both (p both p)", .str "p both q either not p both q"]])] S (.val (.bl true)) [some (.val (.lst [.lst (ePs.map (·.2)), .lst (eFs.map (·.2))])), some (.val (.lst [.lst (ePs.map (·.2)), .lst (eFs.map (·.2))]))] S := hs
  clear hi
  generalize ePs.map (·.1) = R at q ⊢
  generalize ePs.map (·.2) = R2 at q hs ⊢
  generalize eFs.map (·.2) = R3 at q hs ⊢
  unfold laE4
  rcases x with _ | ⟨a, b, c, d, e⟩ <;> unfold m5E x15 at q <;> unfold m5E x15 <;> apply Exists.intro <;> repeat (walk_at "nv")
theorem la_end (s : W) (i : Option W) (g : Option (List W)) (t : Option W) (x : Option (W × W × W × W × W)) (S : Sto) : ∃ ρ', SS (callT T 39) (.seq laE0 (.seq laE1 (.seq laE2 (.seq laE3 (.seq laE4 .nil))))) (l5E s i g t x) S (.rt (.val (.bl true))) ρ' S := by
  have e0 : SS (callT T 39) laE0 (l5E s i g t x) S .nx (m5E s i g t x none none none none (x15 x)) S := by
    rcases x with _ | ⟨a, b, c, d, e⟩ <;> exact ⟨by kernel_rfl⟩
  have e1 : SS (callT T 39) laE1 (m5E s i g t x none none none none (x15 x)) S .nx (m5E s i g t x (some (.own (false, ePs.map (·.1)))) none none none (x15 x)) S := by
    rcases x with _ | ⟨a, b, c, d, e⟩ <;> exact ⟨by kernel_rfl⟩
  have e2 : SS (callT T 39) laE2 (m5E s i g t x (some (.own (false, ePs.map (·.1)))) none none none (x15 x)) S .nx (m5E s i g t x (some (.own (false, ePs.map (·.1)))) (some (.own (false, ePs.map (·.2)))) none none (x15 x)) S := by
    rcases x with _ | ⟨a, b, c, d, e⟩ <;> exact ⟨by kernel_rfl⟩
  have hi : II (callT T 39) (.seq (.tup (.cons (.tup (.cons (.cst (.str "both")) (.cons (.tup (.cons (.cst (.str "either")) (.cons (.nm 7) (.cons (.nm 8) .nil)))) (.cons (.nm 7) .nil)))) (.cons (.tup (.cons (.cst (.str "either")) (.cons (.nm 7) (.cons (.tup (.cons (.cst (.str "either")) (.cons (.nm 8) (.cons (.nm 7) .nil)))) .nil)))) (.cons (.tup (.cons (.cst (.str "both")) (.cons (.nm 7) (.cons (.tup (.cons (.cst (.str "both")) (.cons (.nm 7) (.cons (.nm 7) .nil)))) .nil)))) (.cons (.tup (.cons (.cst (.str "either")) (.cons (.tup (.cons (.cst (.str "both")) (.cons (.nm 7) (.cons (.nm 8) .nil)))) (.cons (.tup (.cons (.cst (.str "both")) (.cons (.nm 9) (.cons (.nm 8) .nil)))) .nil)))) .nil)))))) (m5E s i g t x (some (.own (false, ePs.map (·.1)))) (some (.own (false, ePs.map (·.2)))) none none (x15 x)) S (eFs.map (·.1)) (m5E s i g t x (some (.own (false, ePs.map (·.1)))) (some (.own (false, ePs.map (·.2)))) none none (x15 x)) S := by
    rcases x with _ | ⟨a, b, c, d, e⟩ <;> exact ⟨by kernel_rfl⟩
  have q := E_lcm (own := [13]) (tgt := .tnm 13) (elt := .call 10 (.cons (.nm 13) .nil)) (ps := eFs) hi (by rcases x with _ | ⟨a, b, c, d, e⟩ <;> rfl) (fun p hp => by
    have hc := all_u p hp S
    obtain ⟨p1, p2⟩ := p
    refine ⟨m5E s i g t x (some (.own (false, ePs.map (·.1)))) (some (.own (false, ePs.map (·.2)))) none (some (.val p1)) (x15 x), .val p2, m5E s i g t x (some (.own (false, ePs.map (·.1)))) (some (.own (false, ePs.map (·.2)))) none (some (.val p1)) (x15 x), by rcases x with _ | ⟨a, b, c, d, e⟩ <;> rfl, ?_, rfl, by rcases x with _ | ⟨a, b, c, d, e⟩ <;> rfl⟩
    have hc : CC (callT T 39) 10 [.val p1] S (.val p2) [some (.val p1)] S := hc
    generalize ePs.map (·.1) = R
    generalize ePs.map (·.2) = R2
    rcases x with _ | ⟨a, b, c, d, e⟩ <;> unfold m5E x15 <;> repeat (walk_at "nv")) (by show 4 ≤ _; rw [sizeLine_eq]; omega)
  have e3 : SS (callT T 39) laE3 (m5E s i g t x (some (.own (false, ePs.map (·.1)))) (some (.own (false, ePs.map (·.2)))) none none (x15 x)) S .nx (m5E s i g t x (some (.own (false, ePs.map (·.1)))) (some (.own (false, ePs.map (·.2)))) (some (.own (false, eFs.map (·.2)))) none (x15 x)) S := by
    rcases x with _ | ⟨a, b, c, d, e⟩ <;> exact S_asg q rfl
  obtain ⟨ρ', e4⟩ := la_e4 s i g t x S
  exact ⟨ρ', S_seq e0 (SF_nx (S_seq e1 (SF_nx (S_seq e2 (SF_nx (S_seq e3 (SF_nx (S_seq e4 SF_rt))))))))⟩
theorem law_true (ns : List Int) (h : ns.length ≤ 63) : ∃ as S, callT T 40 33 [.val (.flst (ns.map W.int))] [] = .ok (.val (.bl true)) as S := by
  obtain ⟨ρ1, S1, q1, _, rfl, x1, x4, x5, x, rfl⟩ := FL_inv (t := asgT (.tnm 1)) (cf := callT T 39) (sa := la1)
    (Inv := fun ws ρ S' => (∀ w ∈ ws, ∃ i : Nat, i < 1000 ∧ w = .int i) ∧ S' = [] ∧ ∃ x1 x4 x5 x, ρ = l5E (.flst (ns.map W.int)) x1 x4 x5 x)
    (fun w ws ρ S' h => by
      obtain ⟨hw, rfl, x1, x4, x5, x, rfl⟩ := h
      obtain ⟨i, hi, rfl⟩ := hw w (List.mem_cons_self ..)
      obtain ⟨g', t, y, r⟩ := la1_ok [] ns i hi x5 x x4
      exact ⟨l5E (.flst (ns.map W.int)) (some (.int i)) x4 x5 x, _, [], by rcases x with _ | ⟨a, b, c, d, e⟩ <;> cases x1 <;> rfl, r, fun v hv => hw v (List.mem_cons_of_mem _ hv), rfl, _, _, _, _, rfl⟩)
    ((List.range 3).map fun (i : Nat) => .int i) (l5E (.flst (ns.map W.int)) none none none none) []
    ⟨fun w hw => by
      obtain ⟨i, hi, rfl⟩ := List.mem_map.mp hw
      rw [List.mem_range] at hi
      exact ⟨i, by omega, rfl⟩, rfl, none, none, none, none, rfl⟩
  have hi : II (callT T 39) (.rng (.cons (.cst (.int 3)) .nil)) (l5E (.flst (ns.map W.int)) none none none none) [] ((List.range 3).map fun (i : Nat) => .int i) (l5E (.flst (ns.map W.int)) none none none none) [] := ⟨by kernel_rfl⟩
  obtain ⟨ρ9, e⟩ := la_end (.flst (ns.map W.int)) x1 x4 x5 x []
  have r : SS (callT T 39) m_law (l5E (.flst (ns.map W.int)) none none none none) [] (.rt (.val (.bl true))) _ [] := S_seq (S_forr hi q1) (SF_nx e)
  exact ⟨_, [], (run_rt (T := T) (k := 39) (f := 33) (args := [.val (.flst (ns.map W.int))]) (hD := rfl) (hl := rfl) r rfl).h⟩
end K05
set_option Elab.async false
set_option linter.all false
set_option maxRecDepth 100000
set_option maxHeartbeats 0
/-! # The end -/
namespace K05
open PySem PySem.Spec PyProof.Rows L2 NV
theorem c_is_word : fdB T G d_is_word = true := by kernel_rfl
theorem c_check_text : fdB T G d_check_text = true := by kernel_rfl
theorem c_inner_of : fdB T G d_inner_of = true := by kernel_rfl
theorem c_is_formed : fdB T G d_is_formed = true := by kernel_rfl
theorem c_is_formula_in : fdB T G d_is_formula_in = true := by kernel_rfl
theorem c_check_formula : fdB T G d_check_formula = true := by kernel_rfl
theorem c_turned_in : fdB T G d_turned_in = true := by kernel_rfl
theorem c_turned : fdB T G d_turned = true := by kernel_rfl
theorem c_closely : fdB T G d_closely = true := by kernel_rfl
theorem c_text_in : fdB T G d_text_in = true := by kernel_rfl
theorem c_text_of_formula : fdB T G d_text_of_formula = true := by kernel_rfl
theorem c_words_in : fdB T G d_words_in = true := by kernel_rfl
theorem c_first_wrong_in : fdB T G d_first_wrong_in = true := by kernel_rfl
theorem c_join_both : fdB T G d_join_both = true := by kernel_rfl
theorem c_turn_last : fdB T G d_turn_last = true := by kernel_rfl
theorem c_built : fdB T G d_built = true := by kernel_rfl
theorem c_read_in : fdB T G d_read_in = true := by kernel_rfl
theorem c_formula_of_text : fdB T G d_formula_of_text = true := by kernel_rfl
theorem c_wrong_word : fdB T G d_wrong_word = true := by kernel_rfl
theorem c_law_hash : fdB T G d_law_hash = true := by kernel_rfl
theorem c_law_random : fdB T G d_law_random = true := by kernel_rfl
theorem c_law_cell : fdB T G d_law_cell = true := by kernel_rfl
theorem c_law_generator : fdB T G d_law_generator = true := by kernel_rfl
theorem c_law_pick : fdB T G d_law_pick = true := by kernel_rfl
theorem c_law_same : fdB T G d_law_same = true := by kernel_rfl
theorem c_law_inner : fdB T G d_law_inner = true := by kernel_rfl
theorem c_law_turned : fdB T G d_law_turned = true := by kernel_rfl
theorem c_law_formula : fdB T G d_law_formula = true := by kernel_rfl
theorem c_law_close : fdB T G d_law_close = true := by kernel_rfl
theorem c_law_said : fdB T G d_law_said = true := by kernel_rfl
theorem c_law_gap : fdB T G d_law_gap = true := by kernel_rfl
theorem c_law_loose_close : fdB T G d_law_loose_close = true := by kernel_rfl
theorem c_law_loose : fdB T G d_law_loose = true := by kernel_rfl
theorem c_law : fdB T G d_law = true := by kernel_rfl
theorem all_ok : ∀ D ∈ T, fdB T G D = true := by
  intro D h
  unfold T at h
  repeat (first | (rw [List.mem_singleton] at h; subst h; assumption) | (rcases List.mem_cons.mp h with h | h; · (subst h; first | exact c_is_word | exact c_check_text | exact c_inner_of | exact c_is_formed | exact c_is_formula_in | exact c_check_formula | exact c_turned_in | exact c_turned | exact c_closely | exact c_text_in | exact c_text_of_formula | exact c_words_in | exact c_first_wrong_in | exact c_join_both | exact c_turn_last | exact c_built | exact c_read_in | exact c_formula_of_text | exact c_wrong_word | exact c_law_hash | exact c_law_random | exact c_law_cell | exact c_law_generator | exact c_law_pick | exact c_law_same | exact c_law_inner | exact c_law_turned | exact c_law_formula | exact c_law_close | exact c_law_said | exact c_law_gap | exact c_law_loose_close | exact c_law_loose | exact c_law)))
  cases h
theorem glob {P : Program} {w : World} {K : PySem.W.Frag} {h : Heap} {mg : Str → Option Value} {base : Heap} (X : K.In h) (N : h.Ns mainGlobals mg) (c : He.SaysX fa fn ts [] exB w h K) : Glob P w K mg base (cnOf K T) T G := by
  have m := c.more
  unfold exB at m
  simp only [Bool.and_eq_true] at m
  obtain ⟨m0, m1⟩ := m
  refine glob_of X N c.t.d (fun D hD => List.mem_map_of_mem (f := defD) hD) (fun D hD => List.mem_append_left _ (List.mem_map_of_mem (f := fun D : FD => He.Fa.glo D.name) hD)) (fun x hx => List.mem_append_right _ (List.mem_append_left _ (List.mem_map_of_mem (f := He.Fa.free) hx))) ?_ ?_
  · intro p hp
    rcases List.mem_cons.mp hp with hp | hp; · (subst hp; exact gc_tup rfl X N c.t.d (List.mem_append_right _ (List.mem_append_right _ (List.mem_cons_self ..))) m0 (fun d H => (.cons .strI (.cons .strI (.cons .strI (.cons .strI (.cons .strI (.cons .strI (.cons .strI (.cons .strI .nil))))))))))
    rcases List.mem_cons.mp hp with hp | hp; · (subst hp; exact gc_str X N c.t.d (List.mem_append_right _ (List.mem_append_right _ (List.mem_cons_of_mem _ (List.mem_cons_self ..)))))
    rcases List.mem_cons.mp hp with hp | hp; · (subst hp; exact gc_str X N c.t.d (List.mem_append_right _ (List.mem_append_right _ (List.mem_cons_of_mem _ (List.mem_cons_of_mem _ (List.mem_cons_self ..))))))
    rcases List.mem_cons.mp hp with hp | hp; · (subst hp; exact gc_int X N c.t.d (List.mem_append_right _ (List.mem_append_right _ (List.mem_cons_of_mem _ (List.mem_cons_of_mem _ (List.mem_cons_of_mem _ (List.mem_cons_self ..)))))))
    rcases List.mem_cons.mp hp with hp | hp; · (subst hp; exact gc_int X N c.t.d (List.mem_append_right _ (List.mem_append_right _ (List.mem_cons_of_mem _ (List.mem_cons_of_mem _ (List.mem_cons_of_mem _ (List.mem_cons_of_mem _ (List.mem_cons_self ..))))))))
    rcases List.mem_cons.mp hp with hp | hp; · (subst hp; exact gc_int X N c.t.d (List.mem_append_right _ (List.mem_append_right _ (List.mem_cons_of_mem _ (List.mem_cons_of_mem _ (List.mem_cons_of_mem _ (List.mem_cons_of_mem _ (List.mem_cons_of_mem _ (List.mem_cons_self ..)))))))))
    rcases List.mem_cons.mp hp with hp | hp; · (subst hp; exact gc_int X N c.t.d (List.mem_append_right _ (List.mem_append_right _ (List.mem_cons_of_mem _ (List.mem_cons_of_mem _ (List.mem_cons_of_mem _ (List.mem_cons_of_mem _ (List.mem_cons_of_mem _ (List.mem_cons_of_mem _ (List.mem_cons_self ..))))))))))
    cases hp
  · intro p hp
    rcases List.mem_cons.mp hp with hp | hp; · (subst hp; exact gd_str X N c.t 0 (ks := ["is", "not", "both", "either"]) (kvs := [("is", "not"), ("not", "is"), ("both", "either"), ("either", "both")]) (List.mem_append_right _ (List.mem_append_right _ (List.mem_cons_of_mem _ (List.mem_cons_of_mem _ (List.mem_cons_of_mem _ (List.mem_cons_of_mem _ (List.mem_cons_of_mem _ (List.mem_cons_of_mem _ (List.mem_cons_of_mem _ (List.mem_cons_self ..)))))))))) rfl m1)
    cases hp
end K05
open PySem PySem.W PySem.Calls PyProof.Rows
theorem PySem.Challenge.cw_netsproved_k05_whole_texts_of_formulas_holds : PySem.Challenge.rw_netsproved_k05_whole_texts_of_formulas.Holds := by
  w_on; o_law
  refine HandSHeadRun.head_any (r := OpenLaw.row PySem.Challenge.rw_netsproved_k05_whole_texts_of_formulas) (q := view (OpenLaw.row PySem.Challenge.rw_netsproved_k05_whole_texts_of_formulas).prog [49]) (H := K05.hk) (ob := K05.ob) (M := 3000) (loose := K05.loose) (d := HandSHeadRun.topDef (OpenLaw.row PySem.Challenge.rw_netsproved_k05_whole_texts_of_formulas).prog 49) (kwd := []) K05.ob_eq
    (by kernel_rfl) (fun s => by kernel_rfl) K05.run (by kernel_rfl) (by kernel_rfl) (by kernel_rfl) (by rfl) (by first | assumption | decide +kernel) (by decide +kernel) ⟨rfl, rfl, rfl, rfl, rfl, by decide +kernel⟩ ?hw ?hc
  case hw => w_witness2
  case hc =>
    refine NV.walk_tab (l := PySem.Challenge.rw_netsproved_k05_whole_texts_of_formulas) (n := 63) (k := 40) (j := 33) (T := K05.T) (G := K05.G) (D := K05.d_law) (x := "script") rfl (by decide) (by kernel_rfl) ⟨rfl, by decide, by decide⟩ K05.all_ok rfl rfl (by kernel_rfl) ?hg K05.law_true
    intro w mg h Y N
    obtain ⟨K, KX, c⟩ := Y
    exact ⟨K, NV.cnOf K K05.T, KX, fun base _ _ => K05.glob KX N c⟩
