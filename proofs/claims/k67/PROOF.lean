import PyProof.Rows.All
import Wide.All
import OpenK.AllK
import Wide.FinOn
import HandS.ForMost
import HandS.Exc
import HandS.ExcOwn
import HandS.WordsExc
import HandS.TryOnly
import HandS.Defaults
import HandS.MakeKw
import HandS.MakeKwOnly
import HandS.Wide
import HandS.WideBits
import HandS.CallSlots
import HandS.More
import HandS.IsInst
import HandS.Head0
import HandS.Head1
import HandS.Head2
import HandS.HeadEnd
import HandS.HeadHook1
import HandS.HeadHook2
import HandS.HeadHook3
import HandS.EndBits
import PySem.Challenge.RW_thaumatrope_k67_prices_and_near_vectors
set_option Elab.async false
set_option linter.all false
set_option maxRecDepth 100000
set_option maxHeartbeats 0
/-! T: a small interpreter of a part of Python over trees and cells; what it says of a def is what Python does. -/
namespace T
open PySem PySem.Spec PyProof.Rows L2

/-! ### values, cells, frames -/
inductive D where
  | non | bl (b : Bool) | int (i : Int) | str (s : Str)
  | lst (xs : List D) | tup (xs : List D)
  | obj (c : Nat) (fs : List (Nat × D))
  | ref (n : Nat)
instance : Inhabited D := ⟨.non⟩
inductive Cell where
  | lst (xs : List D)
  | ins (c : Nat) (fs : List (Nat × D))
abbrev Sto := List (Option Cell)
/-- a slot: nothing, a value, a list of the frame's own that nothing else holds -/
inductive Sl where
  | un | val (d : D) | own (xs : List D)
abbrev En := List Sl

/-- names by number -/
structure Ct where
  K : PySem.W.Frag
  cA : Nat → Addr
  fN : Nat → Str
  inj : ∀ i j, fN i = fN j → i = j
  sl : ∀ a o, K.lookup a = some o → o.cls = .type "list" → o.slots = #[]
/-- where the cells stand (the first m of them), what is frozen -/
structure Wd where
  ρ : Nat → Addr
  m : Nat
  I : Hp

section
variable (c : Ct) (w : Wd)
mutual
def Rep : D → V → Prop
  | .non, v => v = .non
  | .bl b, v => v = .bl b
  | .int i, v => v = .int i
  | .str s, v => v = .str s
  | .ref n, v => n < w.m ∧ v = .ref (w.ρ n)
  | .lst ds, v => ∃ a vs, v = .ref a ∧ SqL c.K w.I a vs ∧ Reps ds vs
  | .tup ds, v => ∃ a vs, v = .ref a ∧ SqT c.K w.I a vs ∧ Reps ds vs
  | .obj k fs, v => ∃ a dx fvs, v = .ref a ∧ w.I a = some (.ins (c.cA k) dx fvs) ∧ RepF fs fvs
def Reps : List D → List V → Prop
  | [], vs => vs = []
  | d :: ds, vs => ∃ v r, vs = v :: r ∧ Rep d v ∧ Reps ds r
def RepF : List (Nat × D) → List (Str × V) → Prop
  | [], vs => vs = []
  | (k, d) :: ds, vs => ∃ v r, vs = (c.fN k, v) :: r ∧ Rep d v ∧ RepF ds r
end
end

def Ex (H H' : Hp) : Prop := ∀ a o, H a = some o → H' a = some o
theorem Ex.refl (H : Hp) : Ex H H := fun _ _ h => h
theorem Ex.trans {H H1 H2 : Hp} (a : Ex H H1) (b : Ex H1 H2) : Ex H H2 := fun x o h => b x o (a x o h)
theorem Ex.new {H : Hp} {p : Addr} {o : HO} (h : H p = none) : Ex H (upd H p o) := fun a u e => by
  rw [upd_ne (ne_of_none e h)]
  exact e
theorem Ex.rd {H H' : Hp} {a : Addr} {u : HO} (e : Ex H H') (h : Rd H a u) : Rd H' a u := by
  rcases h with h | ⟨o, h⟩
  · exact Or.inl (e a _ h)
  · exact Or.inr ⟨o, e a _ h⟩
theorem Ex.l {K : PySem.W.Frag} {H H' : Hp} {a : Addr} {xs : List V} (e : Ex H H') (h : SqL K H a xs) : SqL K H' a xs := by
  rcases h with h | h
  · exact Or.inl (e.rd h)
  · exact Or.inr h
theorem Ex.t {K : PySem.W.Frag} {H H' : Hp} {a : Addr} {xs : List V} (e : Ex H H') (h : SqT K H a xs) : SqT K H' a xs := by
  rcases h with h | h
  · exact Or.inl (e.rd h)
  · exact Or.inr h
structure Wd.le (w w' : Wd) : Prop where
  ex : Ex w.I w'.I
  m : w.m ≤ w'.m
  ρ : ∀ n, n < w.m → w'.ρ n = w.ρ n
theorem Wd.le.refl (w : Wd) : w.le w := ⟨Ex.refl _, Nat.le_refl _, fun _ _ => rfl⟩
theorem Wd.le.trans {a b d : Wd} (x : a.le b) (y : b.le d) : a.le d := ⟨x.ex.trans y.ex, Nat.le_trans x.m y.m, fun n h => (y.ρ n (Nat.lt_of_lt_of_le h x.m)).trans (x.ρ n h)⟩

section
variable {c : Ct} {w w' : Wd}
mutual
theorem Rep.mono (l : w.le w') : ∀ {d : D} {v : V}, Rep c w d v → Rep c w' d v
  | .non, _, h => h
  | .bl _, _, h => h
  | .int _, _, h => h
  | .str _, _, h => h
  | .ref n, v, h => by
    unfold Rep at h ⊢
    exact ⟨Nat.lt_of_lt_of_le h.1 l.m, by rw [l.ρ n h.1]; exact h.2⟩
  | .lst ds, v, h => by
    unfold Rep at h ⊢
    obtain ⟨a, vs, e, s, r⟩ := h
    exact ⟨a, vs, e, l.ex.l s, Reps.mono l r⟩
  | .tup ds, v, h => by
    unfold Rep at h ⊢
    obtain ⟨a, vs, e, s, r⟩ := h
    exact ⟨a, vs, e, l.ex.t s, Reps.mono l r⟩
  | .obj k fs, v, h => by
    unfold Rep at h ⊢
    obtain ⟨a, dx, fvs, e, s, r⟩ := h
    exact ⟨a, dx, fvs, e, l.ex _ _ s, RepF.mono l r⟩
theorem Reps.mono (l : w.le w') : ∀ {ds : List D} {vs : List V}, Reps c w ds vs → Reps c w' ds vs
  | [], _, h => h
  | d :: ds, vs, h => by
    unfold Reps at h ⊢
    obtain ⟨v, r, e, a, b⟩ := h
    exact ⟨v, r, e, Rep.mono l a, Reps.mono l b⟩
theorem RepF.mono (l : w.le w') : ∀ {ds : List (Nat × D)} {vs : List (Str × V)}, RepF c w ds vs → RepF c w' ds vs
  | [], _, h => h
  | (k, d) :: ds, vs, h => by
    unfold RepF at h ⊢
    obtain ⟨v, r, e, a, b⟩ := h
    exact ⟨v, r, e, Rep.mono l a, RepF.mono l b⟩
end
end

/-! ### the store stands in the heap -/
def CellOk (c : Ct) (w : Wd) (H : Hp) (a : Addr) : Cell → Prop
  | .lst ds => ∃ vs, H a = some (.lst vs) ∧ Reps c w ds vs
  | .ins k fs => ∃ dx fvs, H a = some (.ins (c.cA k) dx fvs) ∧ RepF c w fs fvs
def isCell (w : Wd) (st : Sto) (a : Addr) : Prop := ∃ (n : Nat) (x : Cell), st[n]? = some (some x) ∧ w.ρ n = a
structure Rel (c : Ct) (w : Wd) (H : Hp) (st : Sto) : Prop where
  len : w.m = st.length
  ex : Ex w.I H
  cell : ∀ (n : Nat) (x : Cell), st[n]? = some (some x) → w.I (w.ρ n) = none ∧ CellOk c w H (w.ρ n) x
  inj : ∀ (n n' : Nat) (x x' : Cell), st[n]? = some (some x) → st[n']? = some (some x') → w.ρ n = w.ρ n' → n = n'
structure Post (c : Ct) (w : Wd) (H : Hp) (st : Sto) (w' : Wd) (H' : Hp) (st' : Sto) : Prop where
  le : w.le w'
  rel : Rel c w' H' st'
  keep : ∀ a o, H a = some o → ¬ isCell w st a → H' a = some o ∧ w'.I a = w.I a ∧ ¬ isCell w' st' a
  dom : ∀ a, H a ≠ none → H' a ≠ none
section
variable {c : Ct} {w w1 w2 : Wd} {H H1 H2 : Hp} {st st1 st2 : Sto}
theorem Post.refl (r : Rel c w H st) : Post c w H st w H st := ⟨.refl w, r, fun _ _ h k => ⟨h, rfl, k⟩, fun _ h => h⟩
theorem Post.trans (p : Post c w H st w1 H1 st1) (q : Post c w1 H1 st1 w2 H2 st2) : Post c w H st w2 H2 st2 :=
  ⟨p.le.trans q.le, q.rel, fun a o h k => by
    obtain ⟨h1, i1, k1⟩ := p.keep a o h k
    obtain ⟨h2, i2, k2⟩ := q.keep a o h1 k1
    exact ⟨h2, i2.trans i1, k2⟩, fun a h => q.dom a (p.dom a h)⟩
end

/-- the frame's slots -/
structure EnOk (c : Ct) (w : Wd) (H : Hp) (st : Sto) (en : En) (σ : L2.St) : Prop where
  len : σ.length = en.length
  val : ∀ (i : Nat) (d : D), en[i]? = some (.val d) → ∃ v, σ[i]? = some (some v) ∧ Rep c w d v
  own : ∀ (i : Nat) (ds : List D), en[i]? = some (.own ds) → ∃ l vs, σ[i]? = some (some (.ref l)) ∧ H l = some (.lst vs) ∧ Reps c w ds vs ∧ w.I l = none ∧ ¬ isCell w st l
  sep : ∀ (i j : Nat) (ds es : List D) (l : Addr), en[i]? = some (.own ds) → en[j]? = some (.own es) → σ[i]? = some (some (.ref l)) → σ[j]? = some (some (.ref l)) → i = j
theorem EnOk.post {c : Ct} {w w1 : Wd} {H H1 : Hp} {st st1 : Sto} {en : En} {σ : L2.St} (e : EnOk c w H st en σ) (p : Post c w H st w1 H1 st1) : EnOk c w1 H1 st1 en σ := by
  refine ⟨e.len, fun i d h => ?_, fun i ds h => ?_, e.sep⟩
  · obtain ⟨v, h1, h2⟩ := e.val i d h
    exact ⟨v, h1, Rep.mono p.le h2⟩
  · obtain ⟨l, vs, h1, h2, h3, h4, h5⟩ := e.own i ds h
    obtain ⟨k1, k2, k3⟩ := p.keep l _ h2 h5
    exact ⟨l, vs, h1, k1, Reps.mono p.le h3, k2.trans h4, k3⟩

/-! ### results -/
inductive Res (α : Type) where
  | ok (a : α) (st : Sto) | exc (k : Nat) (st : Sto) | stk
def Res.bind {α β : Type} (r : Res α) (f : α → Sto → Res β) : Res β := match r with
  | .ok a st => f a st
  | .exc k st => .exc k st
  | .stk => .stk
/-- what a result asks -/
abbrev RepT (α γ : Type) := Hp → Wd → Hp → Sto → α → γ → Prop
def Sat {α γ : Type} (c : Ct) (rep : RepT α γ) (w : Wd) (H : Hp) (st : Sto) (r : Res α) (Q : γ → Hp → Prop) (E : Nat → Hp → Prop) : Prop := match r with
  | .ok a st' => ∀ (x : γ) (w' : Wd) (H' : Hp), Post c w H st w' H' st' → rep H w' H' st' a x → Q x H'
  | .exc k st' => ∀ (w' : Wd) (H' : Hp), Post c w H st w' H' st' → E k H'
  | .stk => False
/-- the reading of a piece of syntax: its evaluation, from some frame and store that stand there -/
def tG {α γ : Type} (c : Ct) (W : WX) (rep : RepT α γ) (ev : En → Sto → Res α) : L2.St → Hp → (γ → Hp → Prop) → Prop := fun σ H Q =>
  ∃ (w : Wd) (st : Sto) (en : En), Rel c w H st ∧ EnOk c w H st en σ ∧ Sat c rep w H st (ev en st) Q fun k H' => W (.ref (c.cA k)) none σ H'
def rV (c : Ct) : RepT D V := fun _ w _ _ d v => Rep c w d v
def rVs (c : Ct) : RepT (List D) (List V) := fun _ w _ _ d v => Reps c w d v
def rB : RepT Bool Bool := fun _ _ _ _ b b' => b' = b
/-- a new list that nothing holds -/
def rF (c : Ct) : RepT (List D) V := fun H w' H' st' ds v => ∃ p vs, v = .ref p ∧ H p = none ∧ H' p = some (.lst vs) ∧ Reps c w' ds vs ∧ w'.I p = none ∧ ¬ isCell w' st' p
section
variable {c : Ct} {W : WX} {α β γ δ : Type} {ra : RepT α γ} {rb : RepT β δ} {w : Wd} {H : Hp} {st : Sto} {en : En} {σ : L2.St} {ev : En → Sto → Res α} {f : α → Sto → Res β} {Q : γ → Hp → Prop} {Q' : δ → Hp → Prop} {E : Nat → Hp → Prop}
/-- the first part, then what follows from it -/
theorem tG_bind (hr : Rel c w H st) (he : EnOk c w H st en σ) (h : Sat c rb w H st ((ev en st).bind f) Q' fun k H' => W (.ref (c.cA k)) none σ H')
    (k : ∀ (x : γ) (a : α) (w1 : Wd) (H1 : Hp) (st1 : Sto), ev en st = .ok a st1 → Post c w H st w1 H1 st1 → EnOk c w1 H1 st1 en σ → ra H w1 H1 st1 a x →
      (Sat c (fun _ => rb H) w1 H1 st1 (f a st1) Q' fun k H' => W (.ref (c.cA k)) none σ H') → Q x H1) : tG c W ra ev σ H Q := by
  refine ⟨w, st, en, hr, he, ?_⟩
  cases e : ev en st with
  | stk =>
    rw [e] at h
    exact h
  | exc n s1 =>
    rw [e] at h
    exact h
  | ok a s1 =>
    rw [e] at h
    intro x w1 H1 p q
    refine k x a w1 H1 s1 e p (he.post p) q ?_
    have h2 : Sat c rb w H st (f a s1) Q' fun k H' => W (.ref (c.cA k)) none σ H' := h
    cases e2 : f a s1 with
    | stk =>
      rw [e2] at h2
      exact h2
    | exc n s2 =>
      rw [e2] at h2
      exact fun w2 H2 p2 => h2 w2 H2 (p.trans p2)
    | ok b s2 =>
      rw [e2] at h2
      exact fun y w2 H2 p2 q2 => h2 y w2 H2 (p.trans p2) q2
/-- a result that is there -/
theorem Sat.ok {a : α} (h : Sat c ra w H st (.ok a st) Q E) (hr : Rel c w H st) {x : γ} (q : ra H w H st a x) : Q x H := h x w H (.refl hr) q
end
end T

/-! T2: the pieces of the language and what they do. -/
namespace T
open PySem PySem.Spec PyProof.Rows L2

inductive BOp where | add | sub | mul | fdiv | mod | shl | shr | band | pow
inductive COp where | eq | ne | lt | le | gt | ge | isN | notN | mem | nmem
inductive B1 where | len | abs | int | sum | any | all
inductive B2 where | min | max
/-- the classes that isinstance is asked for -/
inductive IC where | int | bool | list | tuple | str
/-- a target -/
inductive Pt where | nm (i : Nat) | tp (a b : Pt) | tp3 (a b d : Pt) | tp4 (a b d e : Pt)
mutual
inductive Ep where
  | var (i : Nat) | cint (i : Int) | cstr (s : Str) | cbl (b : Bool) | cnon | glo (x : Nat)
  | bin (o : BOp) (a b : Ep) | neg (a : Ep)
  | cmp (o : COp) (a b : Ep) | chn (o o' : COp) (a b d : Ep)
  | andE (a b : Ep) | orE (a b : Ep) | one (a : Ep) | notE (a : Ep)
  | ite (t : Tx) (a b : Ep)
  | tup (es : Eps) | fz (f : Fx)
  | sub (a i : Ep) | subO (x : Nat) (i : Ep) | lenO (x : Nat)
  | call (f sh : Nat) (e : Ep) (es : Eps) | call0 (f sh : Nat)
  | b1 (b : B1) (a : Ep) | b2 (b : B2) (a d : Ep) | bits (a : Ep)
  | repr (a : Ep) | isi (a : Ep) (c : IC) | dsub (x : Nat) (i : Ep)
/-- what makes a new list -/
inductive Fx where
  | lst (es : Eps) | cat (a b : Ep) | rep (f : Fx) (n : Ep) | sli (a : Ep) (lo hi : Ox) | lof (a : Ep)
  | lc (own : List Nat) (e : Ep) (p : Pt) (i : It) | lcf (own : List Nat) (e : Ep) (p : Pt) (i : It) (t : Tx)
inductive Tx where
  | cmp (o : COp) (a b : Ep) | chn (o o' : COp) (a b d : Ep) | tru (a : Ep) | truO (x : Nat)
  | andT (a b : Tx) | orT (a b : Tx) | one (a : Tx) | notT (a : Tx)
inductive It where
  | rng1 (a : Ep) | rng2 (a b : Ep) | seq (a : Ep) | enu (a : Ep)
inductive Eps where | nil | cons (e : Ep) (es : Eps)
inductive Ox where | none | some (e : Ep)
end
inductive Sm where
  | set (i : Nat) (e : Ep) | setO (i : Nat) (f : Fx) | asg (p : Pt) (e : Ep)
  | par (i j : Nat) (e d : Ep)
  | aug (i : Nat) (o : BOp) (e : Ep)
  | oapp (x : Nat) (e : Ep) | oset (x : Nat) (i e : Ep)
  | exp (e : Ep) | ret (e : Ep) | retN
  | ite (t : Tx) (a b : List Sm)
  | for_ (p : Pt) (i : It) (b : List Sm) | whl (k : Nat) (t : Tx) (b : List Sm)
  | brk | cnt | pas | frz (x : Nat)

/-! ### values -/
def lim : Nat := 16777216
theorem lim_eq : lim = sizeLine := rfl
def binI : BOp → Int → Int → Option Int
  | .add, i, j => some (i + j)
  | .sub, i, j => some (i - j)
  | .mul, i, j => if (-18446744073709551616 < i ∧ i < 18446744073709551616) ∨ (-18446744073709551616 < j ∧ j < 18446744073709551616) then some (i * j) else none
  | .fdiv, i, j => if 0 < j ∧ j < 1073741824 then some (i / j) else none
  | .mod, i, j => if 0 < j then some (i % j) else none
  | .shl, i, j => if 0 ≤ j ∧ j ≤ 1000000 ∧ -18446744073709551616 < i ∧ i < 18446744073709551616 then some (i * 2 ^ j.toNat) else none
  | .shr, i, j => if 0 ≤ j then some (i / 2 ^ j.toNat) else none
  | .band, i, j => some (Builtin.bitAnd i j)
  | .pow, i, j => if 0 ≤ j ∧ j ≤ 1000000 ∧ -18446744073709551616 < i ∧ i < 18446744073709551616 then some (i ^ j.toNat) else none
def binV (o : BOp) : D → D → Option D
  | .int i, .int j => (binI o i j).map D.int
  | _, _ => none
/-! == of data -/
mutual
def eqD : D → D → Bool
  | .non, .non => true
  | .bl a, .bl b => a == b
  | .bl a, .int j => (if a then 1 else 0) == j
  | .int i, .bl b => i == (if b then 1 else 0)
  | .int i, .int j => i == j
  | .str x, .str y => x == y
  | .lst xs, .lst ys => eqDs xs ys
  | .tup xs, .tup ys => eqDs xs ys
  | _, _ => false
def eqDs : List D → List D → Bool
  | [], [] => true
  | x :: xs, y :: ys => eqD x y && eqDs xs ys
  | _, _ => false
end
/-! data that may be compared, at most so deep -/
mutual
def okEq : Nat → D → Bool
  | _, .non => true
  | _, .bl _ => true
  | _, .int _ => true
  | _, .str x => SeqAt.shaped (.str x)
  | n + 1, .lst xs => okEqs n xs
  | n + 1, .tup xs => okEqs n xs
  | _, _ => false
def okEqs : Nat → List D → Bool
  | _, [] => true
  | n, x :: xs => okEq n x && okEqs n xs
end
/-- scalars of == by themselves -/
def eqS : D → D → Option Bool
  | .int i, .int j => some (decide (i = j))
  | .str x, .str y => some (decide (x = y))
  | .non, .non => some true
  | .bl x, .bl y => some (decide (x = y))
  | _, _ => none
def eqV (d e : D) : Option Bool := match eqS d e with
  | some b => some b
  | none => if okEq 20 d && okEq 20 e then some (eqD d e) else none
def flatD : D → Bool
  | .non => true | .bl _ => true | .int _ => true | .str _ => true
  | _ => false
def memV (d : D) : D → Option Bool
  | .lst xs => if flatD d && xs.all flatD then some (xs.any fun y => eqD y d) else none
  | .tup xs => if flatD d && xs.all flatD then some (xs.any fun y => eqD y d) else none
  | _ => none
def isN : D → Bool
  | .non => true
  | _ => false
def int2 (f : Int → Int → Bool) : D → D → Option Bool
  | .int i, .int j => some (f i j)
  | _, _ => none
def cmpV (o : COp) (d e : D) : Option Bool := match o with
  | .eq => eqV d e
  | .ne => (eqV d e).map (!·)
  | .lt => int2 (fun i j => decide (i < j)) d e
  | .le => int2 (fun i j => decide (i ≤ j)) d e
  | .gt => int2 (fun i j => decide (j < i)) d e
  | .ge => int2 (fun i j => decide (j ≤ i)) d e
  | .isN => if isN e then some (isN d) else none
  | .notN => if isN e then some (!isN d) else none
  | .mem => memV d e
  | .nmem => (memV d e).map (!·)
def intsOf : List D → Option (List Int)
  | [] => some []
  | .int i :: r => (intsOf r).map (i :: ·)
  | _ => none
def blsOf : List D → Option (List Bool)
  | [] => some []
  | .bl i :: r => (blsOf r).map (i :: ·)
  | _ => none
def truV : D → Option Bool
  | .non => some false
  | .bl b => some b
  | .int i => some (i != 0)
  | .lst xs => some (!xs.isEmpty)
  | .tup xs => some (!xs.isEmpty)
  | _ => none
def b1V : B1 → D → Option D
  | .len, .lst xs => some (.int xs.length)
  | .len, .tup xs => some (.int xs.length)
  | .abs, .int i => some (.int (if i < 0 then -i else i))
  | .int, .int i => some (.int i)
  | .int, .bl b => some (.int (if b then 1 else 0))
  | .sum, .lst xs => (intsOf xs).map fun ns => .int ns.sum
  | .any, .lst xs => (blsOf xs).map fun bs => .bl (bs.any id)
  | .all, .lst xs => (blsOf xs).map fun bs => .bl (bs.all id)
  | _, _ => none
def b2V : B2 → D → D → Option D
  | .min, .int i, .int j => some (.int (if j < i then j else i))
  | .max, .int i, .int j => some (.int (if j > i then j else i))
  | _, _, _ => none
def subV : D → D → Option D
  | .lst xs, .int i => atI xs i
  | .tup xs, .int i => atI xs i
  | _, _ => none
mutual
def toP : D → PyData
  | .non => .none
  | .bl b => .bool b
  | .int i => .int i
  | .str x => .str x
  | .lst xs => .list (toPs xs)
  | .tup xs => .tuple (toPs xs)
  | _ => .none
def toPs : List D → List PyData
  | [] => []
  | x :: xs => toP x :: toPs xs
end
/-- what repr gives: of data -/
def reprV (d : D) : Option D := if okEq 20 d && ((toP d).showable && decide ((toP d).shown.length ≤ lim)) then some (.str (toP d).shown) else none
def isiV : IC → D → Option Bool
  | c, .non => some false
  | c, .int _ => some (match c with | .int => true | _ => false)
  | c, .bl _ => some (match c with | .int => true | .bool => true | _ => false)
  | c, .str _ => some (match c with | .str => true | _ => false)
  | c, .lst _ => some (match c with | .list => true | _ => false)
  | c, .tup _ => some (match c with | .tuple => true | _ => false)
  | _, _ => none
def cutD (xs : List D) (lo hi : Option Int) : List D := (xs.drop (HT.sIx xs.length 0 lo)).take (HT.sIx xs.length xs.length hi - HT.sIx xs.length 0 lo)
/-- a target takes a value -/
def takeP : Pt → D → En → Option En
  | .nm i, d, en => some (en.set i (.val d))
  | .tp a b, .tup [x, y], en => (takeP a x en).bind (takeP b y)
  | .tp3 a b d, .tup [x, y, z], en => ((takeP a x en).bind (takeP b y)).bind (takeP d z)
  | .tp4 a b d e, .tup [x, y, z, u], en => (((takeP a x en).bind (takeP b y)).bind (takeP d z)).bind (takeP e u)
  | _, _, _ => none
def wipeEn (en : En) : List Nat → En
  | [] => en
  | v :: vs => (wipeEn en vs).set v .un
def Res.of {α : Type} (o : Option α) (st : Sto) : Res α := match o with
  | some a => .ok a st
  | none => .stk
/-- what a comprehension's turns give -/
def compL (f : D → Sto → Res (Option D)) : List D → List D → Sto → Res (List D)
  | [], acc, st => .ok acc st
  | x :: xs, acc, st => match f x st with
    | .ok none st1 => compL f xs acc st1
    | .ok (some d) st1 => if acc.length < lim then compL f xs (acc ++ [d]) st1 else .stk
    | _ => .stk

/-! ### expressions -/
structure G where
  call : Nat → Nat → List D → Sto → Res D
  glo : Nat → Option D
  dct : Nat → Option (List (Str × D))
  hot : Bool
section
variable (g : G)
mutual
def evE : Ep → En → Sto → Res D
  | .var i, en, st => match en[i]? with
    | some (.val d) => .ok d st
    | _ => .stk
  | .cint i, _, st => .ok (.int i) st
  | .cstr s, _, st => .ok (.str s) st
  | .cbl b, _, st => .ok (.bl b) st
  | .cnon, _, st => .ok .non st
  | .glo x, _, st => .of (g.glo x) st
  | .bin o a b, en, st => (evE a en st).bind fun x st => (evE b en st).bind fun y st => .of (binV o x y) st
  | .neg a, en, st => (evE a en st).bind fun x st => match x with
    | .int i => .ok (.int (-i)) st
    | _ => .stk
  | .cmp o a b, en, st => (evE a en st).bind fun x st => (evE b en st).bind fun y st => .of ((cmpV o x y).map D.bl) st
  | .chn o o' a b d, en, st => (evE a en st).bind fun x st => (evE b en st).bind fun y st => match cmpV o x y with
    | some true => (evE d en st).bind fun z st => .of ((cmpV o' y z).map D.bl) st
    | some false => .ok (.bl false) st
    | none => .stk
  | .andE a b, en, st => (evE a en st).bind fun x st => match x with
    | .bl true => evE b en st
    | .bl false => .ok (.bl false) st
    | _ => .stk
  | .orE a b, en, st => (evE a en st).bind fun x st => match x with
    | .bl true => .ok (.bl true) st
    | .bl false => evE b en st
    | _ => .stk
  | .one a, en, st => evE a en st
  | .notE a, en, st => (evE a en st).bind fun x st => match x with
    | .bl b => .ok (.bl (!b)) st
    | _ => .stk
  | .ite t a b, en, st => (evT t en st).bind fun x st => match x with
    | true => evE a en st
    | false => evE b en st
  | .tup es, en, st => (evEs es en st).bind fun xs st => if xs.length ≤ lim then .ok (.tup xs) st else .stk
  | .fz f, en, st => (evF f en st).bind fun xs st => .ok (.lst xs) st
  | .sub a i, en, st => (evE a en st).bind fun x st => (evE i en st).bind fun y st => .of (subV x y) st
  | .subO x i, en, st => match en[x]? with
    | some (.own xs) => (evE i en st).bind fun y st => .of (subV (.lst xs) y) st
    | _ => .stk
  | .lenO x, en, st => match en[x]? with
    | some (.own xs) => .ok (.int xs.length) st
    | _ => .stk
  | .call f sh e es, en, st => (evE e en st).bind fun x st => (evEs es en st).bind fun xs st => g.call f sh (x :: xs) st
  | .call0 f sh, en, st => g.call f sh [] st
  | .b1 b a, en, st => (evE a en st).bind fun x st => .of (b1V b x) st
  | .b2 b a d, en, st => (evE a en st).bind fun x st => (evE d en st).bind fun y st => .of (b2V b x y) st
  | .bits a, en, st => (evE a en st).bind fun x st => match x with
    | .int i => .ok (.int (Builtin.Int.intBits i : Nat)) st
    | _ => .stk
  | .repr a, en, st => (evE a en st).bind fun x st => match g.hot with
    | true => .of (reprV x) st
    | false => .stk
  | .isi a c, en, st => (evE a en st).bind fun x st => .of ((isiV c x).map D.bl) st
  | .dsub x i, en, st => match g.dct x with
    | some kvs => (evE i en st).bind fun y st => match y with
      | .str z => .of (kvs.lookup z) st
      | _ => .stk
    | none => .stk
def evF : Fx → En → Sto → Res (List D)
  | .lst es, en, st => (evEs es en st).bind fun xs st => if xs.length ≤ lim then .ok xs st else .stk
  | .cat a b, en, st => (evE a en st).bind fun x st => (evE b en st).bind fun y st => match x, y with
    | .lst xs, .lst ys => if xs.length + ys.length ≤ lim then .ok (xs ++ ys) st else .stk
    | _, _ => .stk
  | .rep f n, en, st => (evF f en st).bind fun xs st => (evE n en st).bind fun y st => match y with
    | .int k => if k < 9223372036854775808 ∧ -9223372036854775808 ≤ k ∧ xs.length * k.toNat ≤ lim then .ok (List.replicate k.toNat xs).flatten st else .stk
    | _ => .stk
  | .sli a lo hi, en, st => (evE a en st).bind fun x st => (evO lo en st).bind fun l st => (evO hi en st).bind fun h st => match x with
    | .lst xs => .ok (cutD xs l h) st
    | _ => .stk
  | .lof a, en, st => (evE a en st).bind fun x st => match x with
    | .lst xs => .ok xs st
    | .tup xs => .ok xs st
    | _ => .stk
  | .lc own e p i, en, st => (evI i en st).bind fun xs st => compL (fun x st => match takeP p x (wipeEn en own) with
    | some en1 => (evE e en1 st).bind fun d st => .ok (some d) st
    | none => .stk) xs [] st
  | .lcf own e p i t, en, st => (evI i en st).bind fun xs st => compL (fun x st => match takeP p x (wipeEn en own) with
    | some en1 => (evT t en1 st).bind fun b st => match b with
      | true => (evE e en1 st).bind fun d st => .ok (some d) st
      | false => .ok none st
    | none => .stk) xs [] st
def evT : Tx → En → Sto → Res Bool
  | .cmp o a b, en, st => (evE a en st).bind fun x st => (evE b en st).bind fun y st => .of (cmpV o x y) st
  | .chn o o' a b d, en, st => (evE a en st).bind fun x st => (evE b en st).bind fun y st => match cmpV o x y with
    | some true => (evE d en st).bind fun z st => .of (cmpV o' y z) st
    | some false => .ok false st
    | none => .stk
  | .tru a, en, st => (evE a en st).bind fun x st => .of (truV x) st
  | .truO x, en, st => match en[x]? with
    | some (.own xs) => .ok (!xs.isEmpty) st
    | _ => .stk
  | .andT a b, en, st => (evT a en st).bind fun x st => match x with
    | true => evT b en st
    | false => .ok false st
  | .orT a b, en, st => (evT a en st).bind fun x st => match x with
    | true => .ok true st
    | false => evT b en st
  | .one a, en, st => evT a en st
  | .notT a, en, st => (evT a en st).bind fun x st => .ok (!x) st
/-- the items that a loop takes -/
def evI : It → En → Sto → Res (List D)
  | .rng1 a, en, st => (evE a en st).bind fun x st => match x with
    | .int j => if -4611686018427387904 ≤ j ∧ j < 4611686018427387904 then .ok ((List.range j.toNat).map fun (k : Nat) => .int k) st else .stk
    | _ => .stk
  | .rng2 a b, en, st => (evE a en st).bind fun x st => (evE b en st).bind fun y st => match x, y with
    | .int i, .int j => if -4611686018427387904 ≤ i ∧ i < 4611686018427387904 ∧ -4611686018427387904 ≤ j ∧ j < 4611686018427387904 then .ok ((List.range (j - i).toNat).map fun (k : Nat) => .int (i + k)) st else .stk
    | _, _ => .stk
  | .seq a, en, st => (evE a en st).bind fun x st => match x with
    | .lst xs => .ok xs st
    | .tup xs => .ok xs st
    | _ => .stk
  | .enu a, en, st => (evE a en st).bind fun x st => match x with
    | .lst xs => .ok (xs.mapIdx fun k d => .tup [.int (k : Nat), d]) st
    | _ => .stk
def evEs : Eps → En → Sto → Res (List D)
  | .nil, _, st => .ok [] st
  | .cons e es, en, st => (evE e en st).bind fun x st => (evEs es en st).bind fun xs st => .ok (x :: xs) st
def evO : Ox → En → Sto → Res (Option Int)
  | .none, _, st => .ok none st
  | .some e, en, st => (evE e en st).bind fun x st => match x with
    | .int i => .ok (some i) st
    | _ => .stk
end

/-! ### statements -/
inductive SR where
  | nx (en : En) (st : Sto) | rt (d : D) (st : Sto) | bk (en : En) (st : Sto) | ct (en : En) (st : Sto) | exc (k : Nat) (en : En) (st : Sto) | stk
def Res.to {α : Type} (r : Res α) (en : En) (f : α → Sto → SR) : SR := match r with
  | .ok a st => f a st
  | .exc k st => .exc k en st
  | .stk => .stk
def SR.andThen (r : SR) (f : En → Sto → SR) : SR := match r with
  | .nx en st => f en st
  | r => r
def forL (body : D → En → Sto → SR) : List D → En → Sto → SR
  | [], en, st => .nx en st
  | x :: xs, en, st => match body x en st with
    | .nx en st => forL body xs en st
    | .ct en st => forL body xs en st
    | .bk en st => .nx en st
    | r => r
/-- a loop's turn: the target takes the item, then the body -/
def turn (p : Pt) (body : En → Sto → SR) : D → En → Sto → SR := fun x en st => match takeP p x en with
  | some en => body en st
  | none => .stk
def whlL (test : En → Sto → Res Bool) (body : En → Sto → SR) : Nat → En → Sto → SR
  | 0, _, _ => .stk
  | k + 1, en, st => (test en st).to en fun b st => match b with
    | true => match body en st with
      | .nx en st => whlL test body k en st
      | .ct en st => whlL test body k en st
      | .bk en st => .nx en st
      | r => r
    | false => .nx en st
mutual
def evS : Sm → En → Sto → SR
  | .set i e, en, st => (evE g e en st).to en fun x st => .nx (en.set i (.val x)) st
  | .setO i f, en, st => (evF g f en st).to en fun xs st => .nx (en.set i (.own xs)) st
  | .asg p e, en, st => (evE g e en st).to en fun x st => match takeP p x en with
    | some en => .nx en st
    | none => .stk
  | .par i j e d, en, st => (evE g e en st).to en fun x st => (evE g d en st).to en fun y st => .nx ((en.set i (.val x)).set j (.val y)) st
  | .aug i o e, en, st => match en[i]? with
    | some (.val d) => (evE g e en st).to en fun x st => match binV o d x with
      | some y => .nx (en.set i (.val y)) st
      | none => .stk
    | _ => .stk
  | .oapp x e, en, st => match en[x]? with
    | some (.own xs) => (evE g e en st).to en fun d st => if xs.length < lim then .nx (en.set x (.own (xs ++ [d]))) st else .stk
    | _ => .stk
  | .oset x i e, en, st => match en[x]? with
    | some (.own xs) => (evE g e en st).to en fun d st => (evE g i en st).to en fun k st => match k with
      | .int k => match ixN xs.length k with
        | some j => .nx (en.set x (.own (xs.set j d))) st
        | none => .stk
      | _ => .stk
    | _ => .stk
  | .exp e, en, st => (evE g e en st).to en fun _ st => .nx en st
  | .ret e, en, st => (evE g e en st).to en fun d st => .rt d st
  | .retN, _, st => .rt .non st
  | .ite t a b, en, st => (evT g t en st).to en fun x st => match x with
    | true => evSs a en st
    | false => evSs b en st
  | .for_ p i b, en, st => (evI g i en st).to en fun xs st => forL (turn p (evSs b)) xs en st
  | .whl k t b, en, st => whlL (evT g t) (evSs b) k en st
  | .brk, en, st => .bk en st
  | .cnt, en, st => .ct en st
  | .pas, en, st => .nx en st
  | .frz x, en, st => match en[x]? with
    | some (.own xs) => .nx (en.set x (.val (.lst xs))) st
    | _ => .stk
def evSs : List Sm → En → Sto → SR
  | [], en, st => .nx en st
  | s :: r, en, st => (evS s en st).andThen (evSs r)
end
end

/-! ### defs -/
structure Fd where
  ns : List Str
  np : Nat
  body : List Sm
def startEn (n : Nat) (ds : List D) : En := ds.map Sl.val ++ List.replicate (n - ds.length) Sl.un
def SR.out (r : SR) : Res D := match r with
  | .nx _ st => .ok .non st
  | .rt d st => .ok d st
  | .exc k _ st => .exc k st
  | _ => .stk
/-- a program: its defs, how calls put their arguments in order (by def and shape), constants of the module -/
structure Pg where
  fns : List Fd
  shp : Nat → Nat → List D → Option (List D)
  glo : Nat → Option D
  dct : Nat → Option (List (Str × D))
def callF (p : Pg) : Nat → Nat → List D → Sto → Res D
  | 0, _, _, _ => .stk
  | n + 1, f, ds, st => match p.fns[f]? with
    | some d => if ds.length = d.np then (evSs ⟨fun f sh ds st => match p.shp f sh ds with
        | some ds => callF p n f ds st
        | none => .stk, p.glo, p.dct, false⟩ d.body (startEn d.ns.length ds) st).out else .stk
    | none => .stk
/-- the law itself: nothing stands around it -/
def runL (p : Pg) (n f : Nat) (ds : List D) (st : Sto) : Res D := match p.fns[f]? with
  | some d => if ds.length = d.np then (evSs ⟨fun f sh ds st => match p.shp f sh ds with
      | some ds => callF p n f ds st
      | none => .stk, p.glo, p.dct, true⟩ d.body (startEn d.ns.length ds) st).out else .stk
  | none => .stk
end T

/-! T3: the pieces and the text: what is the text of what; small steps of the proof that they agree. -/
namespace T
open PySem PySem.Spec PyProof.Rows L2

/-! ### the text of a piece -/
/-- names by slot, the scope, the names of the defs and of the constants -/
structure Eb where
  ns : List Str
  sc : Scope
  fn : Nat → Str
  gn : Nat → Str
  nf : Nat
def visB (sc : Scope) (x : Str) : Bool := match sc.names.lookup x with
  | some .local => true
  | some .cell => true
  | some .free => true
  | _ => false
def gloB (sc : Scope) (x : Str) : Bool := match sc.names.lookup x with
  | some .globalImplicit => true
  | _ => false
def cfB (sc : Scope) (x : Str) : Bool := match sc.names.lookup x with
  | some .cell => true
  | some .free => true
  | _ => false
def locB (sc : Scope) (x : Str) : Bool := match sc.names.lookup x with
  | some .local => true
  | some .cell => true
  | _ => false
def Eb.at (k : Eb) (i : Nat) (x : Str) : Bool := decide (k.ns[i]? = some x) && visB k.sc x
def Eb.to (k : Eb) (i : Nat) (x : Str) : Bool := decide (k.ns[i]? = some x) && locB k.sc x
def Eb.gl (k : Eb) (y x : Str) : Bool := decide (y = x) && gloB k.sc x
def bopB : BOp → Operator → Bool
  | .add, .Add => true | .sub, .Sub => true | .mul, .Mult => true | .fdiv, .FloorDiv => true | .mod, .Mod => true
  | .shl, .LShift => true | .shr, .RShift => true | .band, .BitAnd => true | .pow, .Pow => true
  | _, _ => false
def copB : COp → CmpOp → Bool
  | .eq, .Eq => true | .ne, .NotEq => true | .lt, .Lt => true | .le, .LtE => true | .gt, .Gt => true | .ge, .GtE => true
  | .isN, .Is => true | .notN, .IsNot => true | .mem, .In => true | .nmem, .NotIn => true
  | _, _ => false
def b1N : B1 → Str
  | .len => "len" | .abs => "abs" | .int => "int" | .sum => "sum" | .any => "any" | .all => "all"
def icN : IC → Str
  | .int => "int" | .bool => "bool" | .list => "list" | .tuple => "tuple" | .str => "str"
def b2N : B2 → Str
  | .min => "min" | .max => "max"
def plainT : Expr → Bool
  | .UnaryOp .Not _ _ => false
  | .BoolOp _ _ _ => false
  | .IfExp _ _ _ _ => false
  | .Compare _ _ _ _ => false
  | _ => true
/-- the slots of a target -/
def Pt.in (own : List Nat) : Pt → Bool
  | .nm i => own.contains i
  | .tp a b => a.in own && b.in own
  | .tp3 a b d => a.in own && (b.in own && d.in own)
  | .tp4 a b d e => a.in own && (b.in own && (d.in own && e.in own))
/-- not super() -/
def plainA : Expr → Bool
  | .Call (.Name _ _) [] [] _ => false
  | _ => true
/-- no comprehension -/
def plainC : Expr → Bool
  | .ListComp _ _ _ _ => false
  | .SetComp _ _ _ _ => false
  | .DictComp _ _ _ _ _ => false
  | _ => true
def embP (k : Eb) : Pt → Expr → Bool
  | .nm i, .Name x _ => k.to i x
  | .tp a b, .Tuple [e, f] _ _ => embP k a e && embP k b f
  | .tp3 a b d, .Tuple [e, f, h] _ _ => embP k a e && (embP k b f && embP k d h)
  | .tp4 a b d u, .Tuple [e, f, h, j] _ _ => embP k a e && (embP k b f && (embP k d h && embP k u j))
  | _, _ => false
/-- what stands behind the first part of and, or -/
def isBoolT : Tx → Bool
  | .andT _ _ => true
  | .orT _ _ => true
  | .one _ => true
  | _ => false
def isFrz : Sm → Bool
  | .frz _ => true
  | _ => false
mutual
def embE (k : Eb) : Ep → Expr → Bool
  | .var i, t => match t with
    | .Name x _ => k.at i x
    | _ => false
  | .cint i, t => match t with
    | .Constant (.int j) _ _ => decide (i = j)
    | _ => false
  | .cstr s, t => match t with
    | .Constant (.str x) _ _ => decide (s = x)
    | _ => false
  | .cbl b, t => match t with
    | .Constant (.bool d) _ _ => decide (b = d)
    | _ => false
  | .cnon, t => match t with
    | .Constant .none _ _ => true
    | _ => false
  | .glo x, t => match t with
    | .Name y _ => k.gl (k.gn x) y
    | _ => false
  | .bin o a b, t => match t with
    | .BinOp e op f _ => bopB o op && (embE k a e && embE k b f)
    | _ => false
  | .neg a, t => match t with
    | .UnaryOp .USub e _ => embE k a e
    | _ => false
  | .cmp o a b, t => match t with
    | .Compare e [op] [f] _ => copB o op && (embE k a e && embE k b f)
    | _ => false
  | .chn o o' a b d, t => match t with
    | .Compare e [op, op'] [f, h] _ => copB o op && (copB o' op' && (embE k a e && (embE k b f && embE k d h)))
    | _ => false
  | .andE a b, t => match t with
    | .BoolOp .And (e :: f :: r) pos => embE k a e && embE k b (.BoolOp .And (f :: r) pos)
    | _ => false
  | .orE a b, t => match t with
    | .BoolOp .Or (e :: f :: r) pos => embE k a e && embE k b (.BoolOp .Or (f :: r) pos)
    | _ => false
  | .one a, t => match t with
    | .BoolOp _ [e] _ => embE k a e
    | _ => false
  | .notE a, t => match t with
    | .UnaryOp .Not e _ => embE k a e
    | _ => false
  | .ite t a b, u => match u with
    | .IfExp c e f _ => embT k t c && (embE k a e && embE k b f)
    | _ => false
  | .tup es, t => match t with
    | .Tuple fs _ _ => embEs k es fs
    | _ => false
  | .fz f, e => embF k f e
  | .sub a i, t => match t with
    | .Subscript e f _ => embE k a e && embE k i f
    | _ => false
  | .subO x i, t => match t with
    | .Subscript (.Name y _) f _ => k.at x y && embE k i f
    | _ => false
  | .lenO x, t => match t with
    | .Call (.Name y _) [.Name z _] [] _ => k.gl "len" y && k.at x z
    | _ => false
  | .call f _ e es, t => match t with
    | .Call (.Name y _) (a :: as) [] _ => decide (f < k.nf) && (k.gl (k.fn f) y && (embE k e a && embEs k es as))
    | _ => false
  | .call0 f _, t => match t with
    | .Call (.Name y _) [] [] _ => decide (f < k.nf) && k.gl (k.fn f) y
    | _ => false
  | .b1 b a, t => match t with
    | .Call (.Name y _) [e] [] _ => k.gl (b1N b) y && embE k a e
    | _ => false
  | .b2 b a d, t => match t with
    | .Call (.Name y _) [e, f] [] _ => k.gl (b2N b) y && (embE k a e && embE k d f)
    | _ => false
  | .bits a, t => match t with
    | .Call (.Attribute e y apos) [] [] pos => decide (y = "bit_length") && ((apos.endLine == pos.line) && (plainA e && embE k a e))
    | _ => false
  | .repr a, t => match t with
    | .Call (.Name y _) [e] [] _ => k.gl "repr" y && embE k a e
    | _ => false
  | .isi a c, t => match t with
    | .Call (.Name y _) [e, .Name z _] [] _ => k.gl "isinstance" y && (k.gl (icN c) z && embE k a e)
    | _ => false
  | .dsub x i, t => match t with
    | .Subscript (.Name y _) f _ => k.gl (k.gn x) y && embE k i f
    | _ => false
def embF (k : Eb) : Fx → Expr → Bool
  | .lst es, t => match t with
    | .List fs _ => embEs k es fs
    | _ => false
  | .cat a b, t => match t with
    | .BinOp e .Add f _ => embE k a e && embE k b f
    | _ => false
  | .rep f n, t => match t with
    | .BinOp e .Mult h _ => embF k f e && embE k n h
    | _ => false
  | .sli a lo hi, t => match t with
    | .Subscript e (.Slice l h none _) _ => embE k a e && (embO k lo l && embO k hi h)
    | _ => false
  | .lof a, t => match t with
    | .Call (.Name y _) [e] [] _ => k.gl "list" y && embE k a e
    | _ => false
  | .lc own e p i, t => match t with
    | .ListComp elt [⟨tg, iter, [], 0⟩] scope _ => p.in own && (blkC k.ns k.sc scope (own.map fun i => (k.ns.getD i "", i)) && (embE { k with sc := scope } e elt && (embP { k with sc := scope } p tg && embI k i tg iter)))
    | _ => false
  | .lcf own e p i c, t => match t with
    | .ListComp elt [⟨tg, iter, [cond], 0⟩] scope _ => p.in own && (blkC k.ns k.sc scope (own.map fun i => (k.ns.getD i "", i)) && (embE { k with sc := scope } e elt && (embT { k with sc := scope } c cond && (embP { k with sc := scope } p tg && embI k i tg iter))))
    | _ => false
def embT (k : Eb) : Tx → Expr → Bool
  | .cmp o a b, t => match t with
    | .Compare e [op] [f] _ => copB o op && (embE k a e && embE k b f)
    | _ => false
  | .chn o o' a b d, t => match t with
    | .Compare e [op, op'] [f, h] _ => copB o op && (copB o' op' && (embE k a e && (embE k b f && embE k d h)))
    | _ => false
  | .tru a, e => plainT e && embE k a e
  | .truO x, t => match t with
    | .Name y _ => k.at x y
    | _ => false
  | .andT a b, t => match t with
    | .BoolOp .And (e :: f :: r) pos => embT k a e && (isBoolT b && embT k b (.BoolOp .And (f :: r) pos))
    | _ => false
  | .orT a b, t => match t with
    | .BoolOp .Or (e :: f :: r) pos => embT k a e && (isBoolT b && embT k b (.BoolOp .Or (f :: r) pos))
    | _ => false
  | .one a, t => match t with
    | .BoolOp _ [e] _ => embT k a e
    | _ => false
  | .notT a, t => match t with
    | .UnaryOp .Not e _ => embT k a e
    | _ => false
def embI (k : Eb) : It → Expr → Expr → Bool
  | .rng1 a, _, t => match t with
    | .Call (.Name y _) [e] [] _ => k.gl "range" y && embE k a e
    | _ => false
  | .rng2 a b, _, t => match t with
    | .Call (.Name y _) [e, f] [] _ => k.gl "range" y && (embE k a e && embE k b f)
    | _ => false
  | .enu a, u, t => match u, t with
    | .Tuple _ _ _, .Call (.Name y _) [e] [] _ => k.gl "enumerate" y && embE k a e
    | _, _ => false
  | .seq a, _, e => embE k a e
def embEs (k : Eb) : Eps → List Expr → Bool
  | .nil, t => match t with
    | [] => true
    | _ => false
  | .cons e es, t => match t with
    | a :: as => embE k e a && embEs k es as
    | _ => false
def embO (k : Eb) : Ox → Option Expr → Bool
  | .none, t => match t with
    | .none => true
    | _ => false
  | .some e, t => match t with
    | .some a => embE k e a
    | _ => false
end
/-- a, b = x, y of two local names, not both constants -/
def parB (k : Eb) (x y : Str) (px py : Pos) (a f : Expr) : Bool := decide (k.sc.names.lookup x = some .local) && (decide (k.sc.names.lookup y = some .local) && ((px.line == py.line) && (decide (x ≠ y) && (!([a, f].all (foldedForSure 8)) && !([a, f].all (constantsAlone 8))))))
def augB : BOp → Operator → Bool
  | .add, .Add => true
  | .sub, .Sub => true
  | _, _ => false
def noTup : Expr → Bool
  | .Tuple _ _ _ => false
  | _ => true
mutual
def embS (k : Eb) : Sm → Stmt → Bool
  | .set i e, t => match t with
    | .Assign [.Name x _] v _ => k.to i x && (plainC v && embE k e v)
    | _ => false
  | .setO i f, t => match t with
    | .Assign [.Name x _] v _ => k.to i x && embF k f v
    | _ => false
  | .asg p e, t => match t with
    | .Assign [.Tuple ts j pos'] v _ => embP k p (.Tuple ts j pos') && (noTup v && (plainC v && embE k e v))
    | _ => false
  | .par i j e d, t => match t with
    | .Assign [.Tuple [.Name x px, .Name y py] _ _] (.Tuple [a, f] _ _) _ => k.to i x && (k.to j y && (parB k x y px py a f && (embE k e a && embE k d f)))
    | _ => false
  | .aug i o e, t => match t with
    | .AugAssign (.Name x _) op v _ => k.to i x && (augB o op && embE k e v)
    | _ => false
  | .oapp x e, t => match t with
    | .Expr (.Call (.Attribute (.Name y _) m apos) [v] [] cpos) _ => k.at x y && (decide (m = "append") && ((apos.endLine == cpos.line) && embE k e v))
    | _ => false
  | .oset x i e, t => match t with
    | .Assign [.Subscript (.Name y _) f _] v _ => k.at x y && (embE k i f && embE k e v)
    | _ => false
  | .exp e, t => match t with
    | .Expr v _ => plainC v && embE k e v
    | _ => false
  | .ret e, t => match t with
    | .Return (some v) _ => embE k e v
    | _ => false
  | .retN, t => match t with
    | .Return none _ => true
    | _ => false
  | .ite c a b, t => match t with
    | .If d x y _ => embT k c d && (embSs k a x && embSs k b y)
    | _ => false
  | .for_ p i b, t => match t with
    | .For tg iter body [] _ => embP k p tg && (embI k i tg iter && embSs k b body)
    | _ => false
  | .whl _ c b, t => match t with
    | .While d body [] _ => embT k c d && embSs k b body
    | _ => false
  | .brk, t => match t with
    | .Break _ => true
    | _ => false
  | .cnt, t => match t with
    | .Continue _ => true
    | _ => false
  | .pas, t => match t with
    | .Pass _ => true
    | _ => false
  | .frz _, _ => false
/-- frz has no text -/
def embSs (k : Eb) : List Sm → List Stmt → Bool
  | [], ss => match ss with
    | [] => true
    | _ => false
  | s :: r, ss => match isFrz s, ss with
    | true, ss => embSs k r ss
    | false, t :: ts => embS k s t && embSs k r ts
    | false, [] => false
end

/-! ### where a piece stands -/
theorem at_ok {k : Eb} {i : Nat} {x : Str} (h : k.at i x = true) : k.ns[i]? = some x ∧ visB k.sc x = true := by
  obtain ⟨a, b⟩ := Bool.and_eq_true_iff.mp h
  exact ⟨of_decide_eq_true a, b⟩
theorem to_ok {k : Eb} {i : Nat} {x : Str} (h : k.to i x = true) : k.ns[i]? = some x ∧ locB k.sc x = true := by
  obtain ⟨a, b⟩ := Bool.and_eq_true_iff.mp h
  exact ⟨of_decide_eq_true a, b⟩
theorem gl_ok {k : Eb} {y x : Str} (h : k.gl y x = true) : y = x ∧ gloB k.sc x = true := by
  obtain ⟨a, b⟩ := Bool.and_eq_true_iff.mp h
  exact ⟨of_decide_eq_true a, b⟩
theorem visB_ok {sc : Scope} {x : Str} (h : visB sc x = true) : Vis sc x := by
  unfold visB at h
  cases e : sc.names.lookup x with
  | none =>
    rw [e] at h
    cases h
  | some k =>
    rw [e] at h
    cases k with
    | «local» => exact .inl e
    | cell => exact .inr (.inl e)
    | free => exact .inr (.inr e)
    | _ => cases h
theorem locB_ok {sc : Scope} {x : Str} (h : locB sc x = true) : Loc sc x := by
  unfold locB at h
  cases e : sc.names.lookup x with
  | none =>
    rw [e] at h
    cases h
  | some k =>
    rw [e] at h
    cases k with
    | «local» => exact .inl e
    | cell => exact .inr e
    | _ => cases h
/-- the built-in names that the pieces use: none of them is bound by the module -/
def blt : List Str := ["len", "abs", "int", "sum", "any", "all", "min", "max", "list", "range", "enumerate", "repr", "isinstance", "bool", "tuple", "str"]
/-- what stays the same through a whole law -/
structure Bs where
  P : Program
  w : World
  c : Ct
  mg : Str → Option Value
  base : Heap
  p : Pg
  fn : Nat → Str
  gn : Nat → Str
  fA : Nat → Addr
  fD : Nat → FuncData
  ps : Nat → List Str
  hot : Bool
structure Bs.Ok (b : Bs) : Prop where
  free : ∀ x ∈ blt, b.mg x = none
  fmg : ∀ f : Nat, f < b.p.fns.length → b.mg (b.fn f) = some (.ref (b.fA f)) ∧ PySem.W.keepIn b.c.K (.ref (b.fA f)) = true ∧ (b.fn f == ("__debug__" : Str)) = false
  len : ∀ (f : Nat) (ds : List D) (st : Sto) (n : Nat), callF b.p n f ds st ≠ .stk → ds.length = (b.ps f).length
  /-- the arguments as they are written, then the defaults -/
  shp : ∀ (f sh : Nat) (ds es : List D), b.p.shp f sh ds = some es → ∃ (dd : List D) (dvs : List V) (us : List Value), es = ds ++ dd ∧ (∀ w : Wd, Reps b.c w dd dvs) ∧ Vals dvs us ∧ Binds b.c.K (b.fD f) (b.ps f) us
  glo : ∀ (x : Nat) (d : D), b.p.glo x = some d → ∃ (v : V) (u : Value), b.mg (b.gn x) = some u ∧ RelV v u ∧ (∀ w : Wd, Rep b.c w d v) ∧ (b.gn x == ("__debug__" : Str)) = false
  dct : ∀ (x : Nat) (kvs : List (Str × D)), b.p.dct x = some kvs → ∃ a : Addr, b.mg (b.gn x) = some (.ref a) ∧ (b.gn x == ("__debug__" : Str)) = false ∧ ∀ (z : Str) (d : D), kvs.lookup z = some d → ∃ v : V, KDct b.c.K b.w a z v ∧ ∀ w : Wd, Rep b.c w d v
/-- a def's promise: what the interpreter says of it -/
def spF (b : Bs) (n f : Nat) : Sp := fun vs H Q E => ∃ (w : Wd) (st : Sto) (ds : List D), Rel b.c w H st ∧ Reps b.c w ds vs ∧ vs.length = (b.ps f).length ∧ Sat b.c (rV b.c) w H st (callF b.p n f ds st) Q fun k H' => E (.ref (b.c.cA k)) none H'
/-- the context of a piece: n is the level of what it calls -/
structure XOk (b : Bs) (n : Nat) (k : Eb) (X : Cx) (W : WX) : Prop where
  P : X.prog = b.P
  w : X.w = b.w
  K : X.K = b.c.K
  mg : X.mg = b.mg
  base : X.base = b.base
  N : X.N = k.ns
  nd : X.N.Nodup
  vis : ∀ x, visB k.sc x = true → Vis X.env.scope x
  gl : ∀ x, gloB k.sc x = true → Gl X x
  cf : ∀ x, cfB k.sc x = true → cfB X.env.scope x = true
  loc : ∀ x, locB k.sc x = true → Loc X.env.scope x ∧ (X.fn x = true ∨ X.env.scope.names.lookup x = some .local)
  calm : X.calm = true
  tk : Takes X W
  pso : PassesOwn (model X.prog X.w) X.A X.env X.xe
  room : Room (2 * n) X.A
  fn : k.fn = b.fn
  gn : k.gn = b.gn
  nf : k.nf = b.p.fns.length
  dbg : ∀ x ∈ k.ns, (x == ("__debug__" : Str)) = false ∧ (x == ("__classdict__" : Str)) = false
  hot : b.hot = true → X.A.guards = some []
  call : ∀ f, FnOk X.prog X.w X.K X.mg X.base (L2.CX X.prog X.w) (2 * n) (b.fA f) (b.fD f) (b.ps f) (spF b n f)
/-- the interpreter for pieces whose calls are at level n -/
def gOf (b : Bs) (n : Nat) : G := ⟨fun f sh ds st => match b.p.shp f sh ds with
  | some ds => callF b.p n f ds st
  | none => .stk, b.p.glo, b.p.dct, b.hot⟩
abbrev tE (b : Bs) (n : Nat) (W : WX) (e : Ep) : TE := tG b.c W (rV b.c) (evE (gOf b n) e)
abbrev tF (b : Bs) (n : Nat) (W : WX) (e : Fx) : TE := tG b.c W (rF b.c) (evF (gOf b n) e)
abbrev tEs (b : Bs) (n : Nat) (W : WX) (e : Eps) : TA := tG b.c W (rVs b.c) (evEs (gOf b n) e)
abbrev tT (b : Bs) (n : Nat) (W : WX) (e : Tx) : TT := tG b.c W rB (evT (gOf b n) e)
def rO : RepT (Option Int) (Option Int) := fun _ _ _ _ a x => x = a
abbrev tO (b : Bs) (n : Nat) (W : WX) (e : Ox) : TO := tG b.c W rO (evO (gOf b n) e)
theorem pe_weak {X : Cx} {e : Expr} {t t' : TE} (h : PE X e t) (i : ∀ σ H Q, t' σ H Q → t σ H Q) : PE X e t' := ⟨fun pins s σ H Q I q => h.run pins s σ H Q I (i σ H Q q)⟩
theorem pt_weak {X : Cx} {e : Expr} {t t' : TT} (h : PT X e t) (i : ∀ σ H Q, t' σ H Q → t σ H Q) : PT X e t' := ⟨fun pins s σ H Q I q => h.run pins s σ H Q I (i σ H Q q)⟩
theorem pw_weak {X : Cx} {e : Expr} {t t' : TT} (h : PW X e t) (i : ∀ σ H Q, t' σ H Q → t σ H Q) : PW X e t' := ⟨fun wh pins s σ H Q I q => h.run wh pins s σ H Q I (i σ H Q q)⟩
theorem pa_weak {X : Cx} {e : List Expr} {t t' : TA} (h : PA X e t) (i : ∀ σ H Q, t' σ H Q → t σ H Q) : PA X e t' := ⟨fun pos pins s σ H Q I q => h.run pos pins s σ H Q I (i σ H Q q)⟩
theorem po_weak {X : Cx} {e : Option Expr} {t t' : TO} (h : PO X e t) (i : ∀ σ H Q, t' σ H Q → t σ H Q) : PO X e t' := ⟨fun pins s σ H Q I q => h.run pins s σ H Q I (i σ H Q q)⟩
theorem ps_weak {X : Cx} {e : Stmt} {t t' : TS} (h : PS X e t) (i : ∀ D σ H, t' D σ H → t D σ H) : PS X e t' := ⟨fun pins s σ H D I q => h.run pins s σ H D I (i D σ H q)⟩
end T

/-! T4: values: what an operation gives is what Python's rule gives. -/
namespace T
open PySem PySem.Spec PyProof.Rows L2

section
variable {c : Ct} {w w' : Wd} {H : Hp}
/-! ### data of scalars -/
theorem rep_int {i : Int} {v : V} (h : Rep c w (.int i) v) : v = .int i := by unfold Rep at h; exact h
theorem rep_str {i : Str} {v : V} (h : Rep c w (.str i) v) : v = .str i := by unfold Rep at h; exact h
theorem rep_bl {i : Bool} {v : V} (h : Rep c w (.bl i) v) : v = .bl i := by unfold Rep at h; exact h
theorem rep_non {v : V} (h : Rep c w .non v) : v = .non := by unfold Rep at h; exact h
theorem rep_lst {ds : List D} {v : V} (h : Rep c w (.lst ds) v) : ∃ a vs, v = .ref a ∧ SqL c.K w.I a vs ∧ Reps c w ds vs := by unfold Rep at h; exact h
theorem rep_tup {ds : List D} {v : V} (h : Rep c w (.tup ds) v) : ∃ a vs, v = .ref a ∧ SqT c.K w.I a vs ∧ Reps c w ds vs := by unfold Rep at h; exact h
theorem rep_obj {k : Nat} {fs : List (Nat × D)} {v : V} (h : Rep c w (.obj k fs) v) : ∃ a dx fvs, v = .ref a ∧ w.I a = some (.ins (c.cA k) dx fvs) ∧ RepF c w fs fvs := by unfold Rep at h; exact h
theorem rep_ref {n : Nat} {v : V} (h : Rep c w (.ref n) v) : n < w.m ∧ v = .ref (w.ρ n) := by unfold Rep at h; exact h
theorem mk_int {i : Int} : Rep c w (.int i) (.int i) := by unfold Rep; rfl
theorem mk_bl {i : Bool} : Rep c w (.bl i) (.bl i) := by unfold Rep; rfl
theorem mk_str {i : Str} : Rep c w (.str i) (.str i) := by unfold Rep; rfl
theorem mk_non : Rep c w .non .non := by unfold Rep; rfl
theorem mk_nil : Reps c w [] [] := by unfold Reps; rfl
theorem mk_cons {d : D} {ds : List D} {v : V} {vs : List V} (a : Rep c w d v) (b : Reps c w ds vs) : Reps c w (d :: ds) (v :: vs) := by
  unfold Reps
  exact ⟨v, vs, rfl, a, b⟩
theorem reps_nil {vs : List V} (h : Reps c w [] vs) : vs = [] := by unfold Reps at h; exact h
theorem reps_cons {d : D} {ds : List D} {vs : List V} (h : Reps c w (d :: ds) vs) : ∃ v r, vs = v :: r ∧ Rep c w d v ∧ Reps c w ds r := by unfold Reps at h; exact h
theorem Reps.len : ∀ {ds : List D} {vs : List V}, Reps c w ds vs → vs.length = ds.length
  | [], vs, h => by
    rw [reps_nil h]
    rfl
  | d :: ds, vs, h => by
    obtain ⟨v, r, rfl, _, t⟩ := reps_cons h
    show r.length + 1 = ds.length + 1
    rw [Reps.len t]
theorem Reps.emp {ds : List D} {vs : List V} (h : Reps c w ds vs) : vs.isEmpty = ds.isEmpty := by
  cases ds with
  | nil => rw [reps_nil h]; rfl
  | cons d ds =>
    obtain ⟨v, r, rfl, _, _⟩ := reps_cons h
    rfl
theorem Reps.get : ∀ {ds : List D} {vs : List V} {i : Nat} {d : D}, Reps c w ds vs → ds[i]? = some d → ∃ v, vs[i]? = some v ∧ Rep c w d v
  | [], _, _, _, _, e => by simp at e
  | _ :: _, vs, 0, d, h, e => by
    obtain ⟨v, r, rfl, a, _⟩ := reps_cons h
    simp at e
    subst e
    exact ⟨v, rfl, a⟩
  | _ :: _, vs, i + 1, d, h, e => by
    obtain ⟨v, r, rfl, _, t⟩ := reps_cons h
    obtain ⟨x, e1, e2⟩ := Reps.get (i := i) t (by simpa using e)
    exact ⟨x, by simpa using e1, e2⟩
theorem Reps.app : ∀ {ds es : List D} {vs us : List V}, Reps c w ds vs → Reps c w es us → Reps c w (ds ++ es) (vs ++ us)
  | [], es, vs, us, h, k => by
    rw [reps_nil h]
    exact k
  | d :: ds, es, vs, us, h, k => by
    obtain ⟨v, r, rfl, a, t⟩ := reps_cons h
    exact mk_cons a (Reps.app t k)
theorem Reps.set : ∀ {ds : List D} {vs : List V} {d : D} {v : V} (i : Nat), Reps c w ds vs → Rep c w d v → Reps c w (ds.set i d) (vs.set i v)
  | [], vs, _, _, _, h, _ => by
    rw [reps_nil h]
    exact mk_nil
  | _ :: _, vs, _, _, 0, h, k => by
    obtain ⟨v, r, rfl, _, t⟩ := reps_cons h
    exact mk_cons k t
  | _ :: _, vs, _, _, i + 1, h, k => by
    obtain ⟨v, r, rfl, a, t⟩ := reps_cons h
    exact mk_cons a (Reps.set i t k)
theorem Reps.take : ∀ {ds : List D} {vs : List V} (n : Nat), Reps c w ds vs → Reps c w (ds.take n) (vs.take n)
  | _, _, 0, _ => mk_nil
  | [], vs, _ + 1, h => by
    rw [reps_nil h]
    exact mk_nil
  | _ :: _, vs, n + 1, h => by
    obtain ⟨v, r, rfl, a, t⟩ := reps_cons h
    exact mk_cons a (Reps.take n t)
theorem Reps.drop : ∀ {ds : List D} {vs : List V} (n : Nat), Reps c w ds vs → Reps c w (ds.drop n) (vs.drop n)
  | _, _, 0, h => h
  | [], vs, _ + 1, h => by
    rw [reps_nil h]
    exact mk_nil
  | _ :: _, vs, n + 1, h => by
    obtain ⟨v, r, rfl, a, t⟩ := reps_cons h
    exact Reps.drop n t
theorem Reps.repl {ds : List D} {vs : List V} (h : Reps c w ds vs) : ∀ k : Nat, Reps c w (List.replicate k ds).flatten (List.replicate k vs).flatten
  | 0 => mk_nil
  | k + 1 => by
    rw [List.replicate_succ, List.replicate_succ, List.flatten_cons, List.flatten_cons]
    exact Reps.app h (Reps.repl h k)
theorem Reps.rev {ds : List D} {vs : List V} (h : Reps c w ds vs) : Reps c w ds.reverse vs.reverse := by
  induction ds generalizing vs with
  | nil =>
    rw [reps_nil h]
    exact mk_nil
  | cons d ds ih =>
    obtain ⟨v, r, rfl, a, t⟩ := reps_cons h
    rw [List.reverse_cons, List.reverse_cons]
    exact Reps.app (ih t) (mk_cons a mk_nil)
theorem Reps.cut {ds : List D} {vs : List V} (h : Reps c w ds vs) (lo hi : Option Int) : Reps c w (cutD ds lo hi) (cutV vs lo hi) := by
  unfold cutD cutV
  rw [h.len]
  exact Reps.take _ (Reps.drop _ h)
theorem Reps.atI {ds : List D} {vs : List V} {i : Int} {d : D} (h : Reps c w ds vs) (e : L2.atI ds i = some d) : ∃ v, L2.atI vs i = some v ∧ Rep c w d v := by
  unfold L2.atI at e ⊢
  rw [h.len]
  cases q : ixN ds.length i with
  | none =>
    rw [q] at e
    cases e
  | some j =>
    rw [q] at e
    exact h.get e
theorem Reps.ints : ∀ {ds : List D} {vs : List V} {ns : List Int}, Reps c w ds vs → intsOf ds = some ns → vs = ns.map V.int
  | [], vs, ns, h, e => by
    cases e
    exact reps_nil h
  | d :: ds, vs, ns, h, e => by
    obtain ⟨v, r, rfl, a, t⟩ := reps_cons h
    cases d with
    | int i =>
      unfold intsOf at e
      cases q : intsOf ds with
      | none =>
        rw [q] at e
        cases e
      | some ms =>
        rw [q] at e
        cases e
        rw [rep_int a, Reps.ints t q]
        rfl
    | _ => cases e
theorem Reps.bls : ∀ {ds : List D} {vs : List V} {ns : List Bool}, Reps c w ds vs → blsOf ds = some ns → vs = ns.map V.bl
  | [], vs, ns, h, e => by
    cases e
    exact reps_nil h
  | d :: ds, vs, ns, h, e => by
    obtain ⟨v, r, rfl, a, t⟩ := reps_cons h
    cases d with
    | bl i =>
      unfold blsOf at e
      cases q : blsOf ds with
      | none =>
        rw [q] at e
        cases e
      | some ms =>
        rw [q] at e
        cases e
        rw [rep_bl a, Reps.bls t q]
        rfl
    | _ => cases e
end

/-! ### == -/
mutual
theorem eqv_toP : ∀ (n m : Nat) (d e : D), okEq n d = true → okEq m e = true → PyData.eqv (toP d) (toP e) = eqD d e
  | n, m, d, e, h, k => by
    cases d with
    | lst xs =>
      cases n with
      | zero => simp [okEq] at h
      | succ n =>
        cases e with
        | lst ys =>
          cases m with
          | zero => simp [okEq] at k
          | succ m =>
            simp only [okEq] at h k
            simp only [toP, PyData.eqv, eqD]
            exact eqv_toPs n m xs ys h k
        | obj _ _ => simp [okEq] at k
        | ref _ => simp [okEq] at k
        | _ => simp [toP, PyData.eqv, eqD]
    | tup xs =>
      cases n with
      | zero => simp [okEq] at h
      | succ n =>
        cases e with
        | tup ys =>
          cases m with
          | zero => simp [okEq] at k
          | succ m =>
            simp only [okEq] at h k
            simp only [toP, PyData.eqv, eqD]
            exact eqv_toPs n m xs ys h k
        | obj _ _ => simp [okEq] at k
        | ref _ => simp [okEq] at k
        | _ => simp [toP, PyData.eqv, eqD]
    | obj _ _ => simp [okEq] at h
    | ref _ => simp [okEq] at h
    | non => cases e <;> first | (simp [okEq] at k; done) | simp [toP, PyData.eqv, eqD]
    | bl b => cases e <;> first | (simp [okEq] at k; done) | simp [toP, PyData.eqv, eqD]
    | int b => cases e <;> first | (simp [okEq] at k; done) | simp [toP, PyData.eqv, eqD]
    | str b => cases e <;> first | (simp [okEq] at k; done) | simp [toP, PyData.eqv, eqD]
theorem eqv_toPs : ∀ (n m : Nat) (d e : List D), okEqs n d = true → okEqs m e = true → PyData.eqvAll (toPs d) (toPs e) = eqDs d e
  | n, m, [], [], _, _ => by simp [toPs, PyData.eqvAll, eqDs]
  | n, m, [], _ :: _, _, _ => by simp [toPs, PyData.eqvAll, eqDs]
  | n, m, _ :: _, [], _, _ => by simp [toPs, PyData.eqvAll, eqDs]
  | n, m, x :: xs, y :: ys, h, k => by
    simp only [okEqs, Bool.and_eq_true] at h k
    simp only [toPs, PyData.eqvAll, eqDs]
    rw [eqv_toP n m x y h.1 k.1, eqv_toPs n m xs ys h.2 k.2]
end
mutual
theorem okEq_lay : ∀ (n : Nat) (d : D), okEq n d = true → (toP d).canLay0 = true ∧ (toP d).depth ≤ n + 1
  | n, d, h => by
    cases d with
    | lst xs =>
      cases n with
      | zero => simp [okEq] at h
      | succ n =>
        simp only [okEq] at h
        obtain ⟨a, b⟩ := okEqs_lay n xs h
        simp only [toP, PyData.canLay0, PyData.depth]
        exact ⟨a, by omega⟩
    | tup xs =>
      cases n with
      | zero => simp [okEq] at h
      | succ n =>
        simp only [okEq] at h
        obtain ⟨a, b⟩ := okEqs_lay n xs h
        simp only [toP, PyData.canLay0, PyData.depth]
        exact ⟨a, by omega⟩
    | obj _ _ => simp [okEq] at h
    | ref _ => simp [okEq] at h
    | str s =>
      simp only [okEq] at h
      refine ⟨SeqAt.canLay_of_shaped h, ?_⟩
      simp [toP, PyData.depth]
    | _ => simp [toP, PyData.canLay0, PyData.depth]
theorem okEqs_lay : ∀ (n : Nat) (ds : List D), okEqs n ds = true → PyData.canLayAll0 (toPs ds) = true ∧ PyData.depthAll (toPs ds) ≤ n + 1
  | n, [], _ => by simp [toPs, PyData.canLayAll0, PyData.depthAll]
  | n, d :: ds, h => by
    simp only [okEqs, Bool.and_eq_true] at h
    obtain ⟨a1, b1⟩ := okEq_lay n d h.1
    obtain ⟨a2, b2⟩ := okEqs_lay n ds h.2
    simp only [toPs, PyData.canLayAll0, PyData.depthAll]
    exact ⟨by rw [a1, a2]; rfl, by omega⟩
end
theorem okEq_shaped {d : D} (h : okEq 20 d = true) : SeqAt.shaped (toP d) = true := by
  obtain ⟨a, b⟩ := okEq_lay 20 d h
  unfold SeqAt.shaped
  rw [a, decide_eq_true (by omega)]
  rfl
section
variable {c : Ct} {w : Wd} {H : Hp}
mutual
theorem rep_dp (x : Ex w.I H) : ∀ (n : Nat) (d : D) (v : V), okEq n d = true → Rep c w d v → Dp c.K H v (toP d)
  | n, d, v, h, r => by
    cases d with
    | lst xs =>
      cases n with
      | zero => simp [okEq] at h
      | succ n =>
        simp only [okEq] at h
        obtain ⟨a, vs, rfl, s, t⟩ := rep_lst r
        simp only [toP]
        exact .lst (x.l s) (reps_dp x n xs vs h t)
    | tup xs =>
      cases n with
      | zero => simp [okEq] at h
      | succ n =>
        simp only [okEq] at h
        obtain ⟨a, vs, rfl, s, t⟩ := rep_tup r
        simp only [toP]
        exact .tup (x.t s) (reps_dp x n xs vs h t)
    | obj _ _ => simp [okEq] at h
    | ref _ => simp [okEq] at h
    | non =>
      rw [rep_non r]
      exact .non
    | bl b =>
      rw [rep_bl r]
      exact .bl b
    | int b =>
      rw [rep_int r]
      exact .int b
    | str b =>
      rw [rep_str r]
      exact .str b
theorem reps_dp (x : Ex w.I H) : ∀ (n : Nat) (ds : List D) (vs : List V), okEqs n ds = true → Reps c w ds vs → DpAll c.K H vs (toPs ds)
  | n, [], vs, _, r => by
    rw [reps_nil r]
    exact .nil
  | n, d :: ds, vs, h, r => by
    obtain ⟨v, t, rfl, a, b⟩ := reps_cons r
    simp only [okEqs, Bool.and_eq_true] at h
    exact .cons (rep_dp x n d v h.1 a) (reps_dp x n ds t h.2 b)
end
/-! ### flat values -/
theorem flat_rep {d : D} {v : V} (h : flatD d = true) (r : Rep c w d v) : flatV v = true := by
  cases d with
  | non =>
    rw [rep_non r]
    rfl
  | bl b =>
    rw [rep_bl r]
    rfl
  | int b =>
    rw [rep_int r]
    rfl
  | str b =>
    rw [rep_str r]
    rfl
  | _ => cases h
theorem flat_eq {d e : D} {v u : V} (h : flatD d = true) (k : flatD e = true) (r : Rep c w d v) (q : Rep c w e u) : L2.eqV v u = eqD d e := by
  cases d with
  | non =>
    rw [rep_non r]
    cases e with
    | non => rw [rep_non q]; simp [L2.eqV, eqD]
    | bl b => rw [rep_bl q]; simp [L2.eqV, eqD]
    | int b => rw [rep_int q]; simp [L2.eqV, eqD]
    | str b => rw [rep_str q]; simp [L2.eqV, eqD]
    | _ => cases k
  | bl b =>
    rw [rep_bl r]
    cases e with
    | non => rw [rep_non q]; simp [L2.eqV, eqD]
    | bl b => rw [rep_bl q]; simp [L2.eqV, eqD]
    | int b => rw [rep_int q]; simp [L2.eqV, eqD]
    | str b => rw [rep_str q]; simp [L2.eqV, eqD]
    | _ => cases k
  | int b =>
    rw [rep_int r]
    cases e with
    | non => rw [rep_non q]; simp [L2.eqV, eqD]
    | bl b => rw [rep_bl q]; simp [L2.eqV, eqD]
    | int b => rw [rep_int q]; simp [L2.eqV, eqD]
    | str b => rw [rep_str q]; simp [L2.eqV, eqD]
    | _ => cases k
  | str b =>
    rw [rep_str r]
    cases e with
    | non => rw [rep_non q]; simp [L2.eqV, eqD]
    | bl b => rw [rep_bl q]; simp [L2.eqV, eqD]
    | int b => rw [rep_int q]; simp [L2.eqV, eqD]
    | str b => rw [rep_str q]; simp [L2.eqV, eqD]
    | _ => cases k
  | _ => cases h
theorem flats_rep : ∀ {ds : List D} {vs : List V}, ds.all flatD = true → Reps c w ds vs → vs.all flatV = true
  | [], vs, _, r => by
    rw [reps_nil r]
    rfl
  | d :: ds, vs, h, r => by
    obtain ⟨v, t, rfl, a, b⟩ := reps_cons r
    rw [List.all_cons, Bool.and_eq_true] at h
    rw [List.all_cons, flat_rep h.1 a, flats_rep h.2 b]
    rfl
theorem mem_rep {d : D} {v : V} (hd : flatD d = true) (rd : Rep c w d v) : ∀ {ds : List D} {vs : List V}, ds.all flatD = true → Reps c w ds vs → inV v vs = ds.any fun y => eqD y d
  | [], vs, _, r => by
    rw [reps_nil r]
    rfl
  | e :: ds, vs, h, r => by
    obtain ⟨u, t, rfl, a, b⟩ := reps_cons r
    rw [List.all_cons, Bool.and_eq_true] at h
    have ih := mem_rep hd rd h.2 b
    unfold inV at ih ⊢
    rw [List.any_cons, List.any_cons, ih, flat_eq h.1 hd a rd]
end

/-! ### the rules of the operators -/
section
variable {X : Cx} {c : Ct} {w : Wd} {H : Hp}
theorem nt64 {i : Int} (h1 : -18446744073709551616 < i) (h2 : i < 18446744073709551616) : i.natAbs < 2 ^ 64 := by
  have : (2 : Nat) ^ 64 = 18446744073709551616 := by decide
  omega
/-- the rule of a binary operator of ints -/
def rBin (o : BOp) : R2 := fun x y H Q => ∃ (i j k : Int), x = .int i ∧ y = .int j ∧ binI o i j = some k ∧ Q (.int k) H
def opOf : BOp → Operator
  | .add => .Add | .sub => .Sub | .mul => .Mult | .fdiv => .FloorDiv | .mod => .Mod | .shl => .LShift | .shr => .RShift | .band => .BitAnd | .pow => .Pow
theorem bopB_eq {o : BOp} {op : Operator} (h : bopB o op = true) : op = opOf o := by
  cases o <;> cases op <;> first | rfl | cases h
theorem op_bin (o : BOp) : OpR X (binaryOp (opOf o)) (rBin o) := by
  intro pins s σ H x y v u Q I rx ry h
  obtain ⟨i, j, k, rfl, rfl, e, q⟩ := h
  cases o with
  | add =>
    cases e
    exact op_add pins s σ H _ _ v u Q I rx ry ⟨i, j, rfl, rfl, q⟩
  | sub =>
    cases e
    exact op_sub pins s σ H _ _ v u Q I rx ry ⟨i, j, rfl, rfl, q⟩
  | band =>
    cases e
    exact op_and pins s σ H _ _ v u Q I rx ry ⟨i, j, rfl, rfl, q⟩
  | mul =>
    have e : (if (-18446744073709551616 < i ∧ i < 18446744073709551616) ∨ (-18446744073709551616 < j ∧ j < 18446744073709551616) then some (i * j) else none) = some k := e
    split at e
    · rename_i hc
      cases e
      have p : (2 : Int) ^ 64 = 18446744073709551616 := by decide
      exact op_mul pins s σ H _ _ v u Q I rx ry ⟨i, j, rfl, rfl, by unfold CMul; rw [p]; exact hc, q⟩
    · cases e
  | fdiv =>
    have e : (if 0 < j ∧ j < 1073741824 then some (i / j) else none) = some k := e
    split at e
    · rename_i hc
      cases e
      exact op_fdiv pins s σ H _ _ v u Q I rx ry ⟨i, j, rfl, rfl, hc, q⟩
    · cases e
  | mod =>
    have e : (if 0 < j then some (i % j) else none) = some k := e
    split at e
    · rename_i hc
      cases e
      exact op_mod pins s σ H _ _ v u Q I rx ry ⟨i, j, rfl, rfl, hc, q⟩
    · cases e
  | shl =>
    have e : (if 0 ≤ j ∧ j ≤ 1000000 ∧ -18446744073709551616 < i ∧ i < 18446744073709551616 then some (i * 2 ^ j.toNat) else none) = some k := e
    split at e
    · rename_i hc
      cases e
      exact op_shl pins s σ H _ _ v u Q I rx ry ⟨i, j, rfl, rfl, ⟨hc.1, hc.2.1, nt64 hc.2.2.1 hc.2.2.2⟩, q⟩
    · cases e
  | shr =>
    have e : (if 0 ≤ j then some (i / 2 ^ j.toNat) else none) = some k := e
    split at e
    · rename_i hc
      cases e
      exact op_shr pins s σ H _ _ v u Q I rx ry ⟨i, j, rfl, rfl, hc, q⟩
    · cases e
  | pow =>
    have e : (if 0 ≤ j ∧ j ≤ 1000000 ∧ -18446744073709551616 < i ∧ i < 18446744073709551616 then some (i ^ j.toNat) else none) = some k := e
    split at e
    · rename_i hc
      cases e
      exact op_pow pins s σ H _ _ v u Q I rx ry ⟨i, j, rfl, rfl, ⟨hc.1, hc.2.1, nt64 hc.2.2.1 hc.2.2.2⟩, q⟩
    · cases e
/-- the rule of a comparison -/
def rCmp (c : Ct) (o : COp) : R2 := fun x y H Q => ∃ (w : Wd) (d e : D) (b : Bool), Ex w.I H ∧ Rep c w d x ∧ Rep c w e y ∧ cmpV o d e = some b ∧ Q (.bl b) H
def copOf : COp → CmpOp
  | .eq => .Eq | .ne => .NotEq | .lt => .Lt | .le => .LtE | .gt => .Gt | .ge => .GtE | .isN => .Is | .notN => .IsNot | .mem => .In | .nmem => .NotIn
theorem copB_eq {o : COp} {op : CmpOp} (h : copB o op = true) : op = copOf o := by
  cases o <;> cases op <;> first | rfl | cases h
theorem isN_rep {d : D} {v : V} (r : Rep c w d v) : decide (v = V.non) = isN d := by
  cases d with
  | non => rw [rep_non r]; rfl
  | bl b => rw [rep_bl r]; rfl
  | int b => rw [rep_int r]; rfl
  | str b => rw [rep_str r]; rfl
  | lst _ =>
    obtain ⟨a, vs, rfl, _, _⟩ := rep_lst r
    rfl
  | tup _ =>
    obtain ⟨a, vs, rfl, _, _⟩ := rep_tup r
    rfl
  | obj _ _ =>
    obtain ⟨a, dx, vs, rfl, _, _⟩ := rep_obj r
    rfl
  | ref _ =>
    obtain ⟨_, rfl⟩ := rep_ref r
    rfl
theorem eqS_rep {d e : D} {x y : V} {b : Bool} (rx : Rep c w d x) (ry : Rep c w e y) (h : eqS d e = some b) : scal x y = true ∧ decide (x = y) = b := by
  cases d with
  | int i =>
    cases e with
    | int j =>
      rw [rep_int rx, rep_int ry]
      refine ⟨rfl, ?_⟩
      have e1 : decide (i = j) = b := Option.some.inj h
      rw [dec_int, ← e1, Bool.beq_eq_decide_eq]
    | _ => cases h
  | str i =>
    cases e with
    | str j =>
      rw [rep_str rx, rep_str ry]
      refine ⟨rfl, ?_⟩
      have e1 : decide (i = j) = b := Option.some.inj h
      rw [dec_str, ← e1, Bool.beq_eq_decide_eq]
    | _ => cases h
  | bl i =>
    cases e with
    | bl j =>
      rw [rep_bl rx, rep_bl ry]
      refine ⟨rfl, ?_⟩
      have e1 : decide (i = j) = b := Option.some.inj h
      rw [dec_bl, ← e1, Bool.beq_eq_decide_eq]
    | _ => cases h
  | non =>
    cases e with
    | non =>
      rw [rep_non rx, rep_non ry]
      refine ⟨rfl, ?_⟩
      have e1 : true = b := Option.some.inj h
      rw [← e1]
      rfl
    | _ => cases h
  | _ => cases h
theorem memV_cases {d e : D} {b : Bool} (h : memV d e = some b) : ∃ xs, (e = .lst xs ∨ e = .tup xs) ∧ flatD d = true ∧ xs.all flatD = true ∧ b = xs.any fun y => eqD y d := by
  cases e with
  | lst xs =>
    have h : (if (flatD d && xs.all flatD) = true then some (xs.any fun y => eqD y d) else none) = some b := h
    split at h
    · rename_i hc
      obtain ⟨h1, h2⟩ := Bool.and_eq_true_iff.mp hc
      exact ⟨xs, .inl rfl, h1, h2, (Option.some.inj h).symm⟩
    · cases h
  | tup xs =>
    have h : (if (flatD d && xs.all flatD) = true then some (xs.any fun y => eqD y d) else none) = some b := h
    split at h
    · rename_i hc
      obtain ⟨h1, h2⟩ := Bool.and_eq_true_iff.mp hc
      exact ⟨xs, .inr rfl, h1, h2, (Option.some.inj h).symm⟩
    · cases h
  | _ => cases h
theorem mem_ask {d e : D} {x y : V} {b : Bool} (ex : Ex w.I H) (rx : Rep c w d x) (ry : Rep c w e y) (h : memV d e = some b) :
    ∃ p xs, y = .ref p ∧ (SqL c.K H p xs ∨ SqT c.K H p xs) ∧ flatV x = true ∧ xs.all flatV = true ∧ inV x xs = b := by
  obtain ⟨ds, hk, h1, h2, rfl⟩ := memV_cases h
  rcases hk with rfl | rfl
  · obtain ⟨a, vs, rfl, s, t⟩ := rep_lst ry
    exact ⟨a, vs, rfl, .inl (ex.l s), flat_rep h1 rx, flats_rep h2 t, mem_rep h1 rx h2 t⟩
  · obtain ⟨a, vs, rfl, s, t⟩ := rep_tup ry
    exact ⟨a, vs, rfl, .inr (ex.t s), flat_rep h1 rx, flats_rep h2 t, mem_rep h1 rx h2 t⟩
theorem eqV_cases {d e : D} {b : Bool} (h : eqV d e = some b) : eqS d e = some b ∨ (okEq 20 d = true ∧ okEq 20 e = true ∧ eqD d e = b) := by
  unfold eqV at h
  cases q : eqS d e with
  | some b' =>
    rw [q] at h
    exact .inl (by rw [← h])
  | none =>
    rw [q] at h
    have h2 : (if (okEq 20 d && okEq 20 e) = true then some (eqD d e) else none) = some b := h
    split at h2
    · rename_i hc
      obtain ⟨h3, h4⟩ := Bool.and_eq_true_iff.mp hc
      exact .inr ⟨h3, h4, Option.some.inj h2⟩
    · cases h2
theorem int2_some {f : Int → Int → Bool} {d e : D} {b : Bool} (h : int2 f d e = some b) : ∃ i j, d = .int i ∧ e = .int j ∧ b = f i j := by
  cases d with
  | int i =>
    cases e with
    | int j => exact ⟨i, j, rfl, rfl, (Option.some.inj h).symm⟩
    | _ => cases h
  | _ => cases h
theorem ifN_some {e : D} {b b' : Bool} (h : (if isN e = true then some b else none) = some b') : isN e = true ∧ b = b' := by
  split at h
  · rename_i hc
    exact ⟨hc, Option.some.inj h⟩
  · cases h
theorem op_cmp (hK : X.K = c.K) (hu : X.A.units + 64 < cLine) (o : COp) : OpR X (compareOp (copOf o)) (rCmp c o) := by
  intro pins s σ H x y v u Q I rx ry h
  obtain ⟨w, d, e, b, ex, r1, r2, hv, q⟩ := h
  cases o with
  | eq =>
    rcases eqV_cases hv with h | ⟨h1, h2, h3⟩
    · obtain ⟨a1, a2⟩ := eqS_rep r1 r2 h
      exact op_eq pins s σ H x y v u Q I rx ry ⟨a1, by rw [a2]; exact q⟩
    · refine op_eqD hu pins s σ H x y v u Q I rx ry ⟨_, _, hK ▸ rep_dp ex 20 d x h1 r1, hK ▸ rep_dp ex 20 e y h2 r2, okEq_shaped h1, okEq_shaped h2, ?_⟩
      rw [eqv_toP 20 20 d e h1 h2, h3]
      exact q
  | ne =>
    obtain ⟨b', hv', rfl⟩ := Option.map_eq_some_iff.mp hv
    rcases eqV_cases hv' with h | ⟨h1, h2, h3⟩
    · obtain ⟨a1, a2⟩ := eqS_rep r1 r2 h
      exact op_ne pins s σ H x y v u Q I rx ry ⟨a1, by rw [a2]; exact q⟩
    · refine op_neD hu pins s σ H x y v u Q I rx ry ⟨_, _, hK ▸ rep_dp ex 20 d x h1 r1, hK ▸ rep_dp ex 20 e y h2 r2, okEq_shaped h1, okEq_shaped h2, ?_⟩
      rw [eqv_toP 20 20 d e h1 h2, h3]
      exact q
  | lt =>
    obtain ⟨i, j, rfl, rfl, rfl⟩ := int2_some hv
    exact op_lt pins s σ H x y v u Q I rx ry ⟨i, j, rep_int r1, rep_int r2, q⟩
  | le =>
    obtain ⟨i, j, rfl, rfl, rfl⟩ := int2_some hv
    exact op_le pins s σ H x y v u Q I rx ry ⟨i, j, rep_int r1, rep_int r2, q⟩
  | gt =>
    obtain ⟨i, j, rfl, rfl, rfl⟩ := int2_some hv
    exact op_gt pins s σ H x y v u Q I rx ry ⟨i, j, rep_int r1, rep_int r2, q⟩
  | ge =>
    obtain ⟨i, j, rfl, rfl, rfl⟩ := int2_some hv
    exact op_ge pins s σ H x y v u Q I rx ry ⟨i, j, rep_int r1, rep_int r2, q⟩
  | isN =>
    obtain ⟨hn, rfl⟩ := ifN_some hv
    rw [← isN_rep r1] at q
    exact op_isN pins s σ H x y v u Q I rx ry ⟨of_decide_eq_true ((isN_rep r2).trans hn), q⟩
  | notN =>
    obtain ⟨hn, rfl⟩ := ifN_some hv
    rw [← isN_rep r1] at q
    exact op_notN pins s σ H x y v u Q I rx ry ⟨of_decide_eq_true ((isN_rep r2).trans hn), q⟩
  | mem =>
    obtain ⟨p, xs, rfl, sq, f1, f2, e1⟩ := mem_ask ex r1 r2 (show memV d e = some b from hv)
    exact op_in_seq pins s σ H x _ v u Q I rx ry ⟨p, xs, rfl, hK ▸ sq, f1, f2, by rw [e1]; exact q⟩
  | nmem =>
    have hv' : (memV d e).map (!·) = some b := hv
    obtain ⟨b', hv'', rfl⟩ := Option.map_eq_some_iff.mp hv'
    obtain ⟨p, xs, rfl, sq, f1, f2, e1⟩ := mem_ask ex r1 r2 hv''
    exact op_notIn_seq pins s σ H x _ v u Q I rx ry ⟨p, xs, rfl, hK ▸ sq, f1, f2, by rw [e1]; exact q⟩
end
end T

/-! T5: expressions: each piece's text evaluates to what the piece gives. -/
namespace T
open PySem PySem.Spec PyProof.Rows L2

/-! ### new objects -/
section
variable {c : Ct} {w w1 : Wd} {H H1 : Hp} {st st1 : Sto} {p : Addr} {o : HO}
theorem Rel.cne (r : Rel c w H st) (hp : H p = none) : ¬ isCell w st p := fun ⟨n, x, e, q⟩ => by
  obtain ⟨_, k⟩ := r.cell n x e
  rw [q] at k
  cases x with
  | lst ds =>
    obtain ⟨vs, k, _⟩ := k
    rw [hp] at k
    cases k
  | ins i fs =>
    obtain ⟨dx, fvs, k, _⟩ := k
    rw [hp] at k
    cases k
theorem Ex.none {H H' : Hp} (e : Ex H H') (hp : H' p = none) : H p = none := by
  cases q : H p with
  | none => rfl
  | some o =>
    rw [e p o q] at hp
    cases hp
/-- an object laid: nothing holds it yet -/
theorem Post.new (r : Rel c w H st) (hp : H p = none) : Post c w H st w (upd H p o) st := by
  refine ⟨.refl w, ⟨r.len, r.ex.trans (Ex.new hp), fun n x e => ?_, r.inj⟩, fun a u h k => ⟨Ex.new hp a u h, rfl, k⟩, fun a h => ?_⟩
  · obtain ⟨h1, h2⟩ := r.cell n x e
    refine ⟨h1, ?_⟩
    cases x with
    | lst ds =>
      obtain ⟨vs, k, q⟩ := h2
      exact ⟨vs, Ex.new hp _ _ k, q⟩
    | ins i fs =>
      obtain ⟨dx, fvs, k, q⟩ := h2
      exact ⟨dx, fvs, Ex.new hp _ _ k, q⟩
  · by_cases e : a = p
    · rw [e, upd_same]
      intro z
      cases z
    · rw [upd_ne e]
      exact h
/-- an object that was laid since is held for good -/
theorem Post.frz (q : Post c w H st w1 H1 st1) (hp : H p = none) (ho : H1 p = some o) (hI : w1.I p = none) (hc : ¬ isCell w1 st1 p) : Post c w H st { w1 with I := upd w1.I p o } H1 st1 := by
  have le1 : w1.le { w1 with I := upd w1.I p o } := ⟨Ex.new hI, Nat.le_refl _, fun _ _ => rfl⟩
  refine ⟨q.le.trans le1, ⟨q.rel.len, fun a u h => ?_, fun n x e => ?_, q.rel.inj⟩, fun a u h k => ?_, q.dom⟩
  · by_cases e : a = p
    · rw [e] at h ⊢
      have h2 : upd w1.I p o p = some u := h
      rw [upd_same] at h2
      rw [ho, ← h2]
    · have h2 : upd w1.I p o a = some u := h
      rw [upd_ne e] at h2
      exact q.rel.ex a u h2
  · obtain ⟨h1, h2⟩ := q.rel.cell n x e
    have ne : w1.ρ n ≠ p := fun z => hc ⟨n, x, e, z⟩
    refine ⟨by show upd w1.I p o (w1.ρ n) = none; rw [upd_ne ne]; exact h1, ?_⟩
    cases x with
    | lst ds =>
      obtain ⟨vs, k, t⟩ := h2
      exact ⟨vs, k, Reps.mono le1 t⟩
    | ins i fs =>
      obtain ⟨dx, fvs, k, t⟩ := h2
      exact ⟨dx, fvs, k, RepF.mono le1 t⟩
  · obtain ⟨a1, a2, a3⟩ := q.keep a u h k
    have ne : a ≠ p := ne_of_none h hp
    exact ⟨a1, by show upd w1.I p o a = w.I a; rw [upd_ne ne]; exact a2, a3⟩
theorem le_frz {w1 : Wd} {p : Addr} {o : HO} (hI : w1.I p = none) : w1.le { w1 with I := upd w1.I p o } := ⟨Ex.new hI, Nat.le_refl _, fun _ _ => rfl⟩
end
section
variable {c : Ct} {α γ : Type} {rep : RepT α γ} {w : Wd} {H : Hp} {st : Sto} {Q : γ → Hp → Prop} {E : Nat → Hp → Prop}
theorem of_sat {o : Option α} (h : Sat c rep w H st (.of o st) Q E) : ∃ a, o = some a ∧ Sat c rep w H st (.ok a st) Q E := by
  cases o with
  | none => exact h.elim
  | some a => exact ⟨a, rfl, h⟩
end
/-- a slot that holds a list of the frame's own -/
theorem ownSat {c : Ct} {α γ : Type} {rep : RepT α γ} {w : Wd} {H : Hp} {st : Sto} {Q : γ → Hp → Prop} {E : Nat → Hp → Prop} {o : Option Sl} {f : List D → Res α} (h : Sat c rep w H st (match o with | some (.own xs) => f xs | _ => .stk) Q E) :
    ∃ xs, o = some (.own xs) ∧ Sat c rep w H st (f xs) Q E := by
  cases o with
  | none => exact h.elim
  | some s =>
    cases s with
    | own xs => exact ⟨xs, rfl, h⟩
    | un => exact h.elim
    | val d => exact h.elim
theorem binV_some {o : BOp} {d e r : D} (h : binV o d e = some r) : ∃ i j k, d = .int i ∧ e = .int j ∧ binI o i j = some k ∧ r = .int k := by
  cases d with
  | int i =>
    cases e with
    | int j =>
      obtain ⟨k, h1, h2⟩ := Option.map_eq_some_iff.mp (show (binI o i j).map D.int = some r from h)
      exact ⟨i, j, k, rfl, rfl, h1, h2.symm⟩
    | _ => cases h
  | _ => cases h

/-! ### shapes of texts that are expressions -/
theorem embE_star {k : Eb} {e : Ep} {a : Expr} (h : embE k e a = true) : ∀ (as : List Expr) (env : Env), starEach (a :: as) env = (false, eval a env) :: starEach as env := by
  intro as env
  cases a with
  | Starred x p =>
    cases e with
    | fz f => cases f <;> exact absurd (show false = true from h) Bool.false_ne_true
    | _ => exact absurd (show false = true from h) Bool.false_ne_true
  | _ => rfl
theorem embE_mark {k : Eb} {e : Ep} {a : Expr} (h : embE k e a = true) (op : CmpOp) : behindInMarks op a = false := by
  cases a with
  | Set x y p =>
    cases e with
    | fz f => cases f <;> exact absurd (show false = true from h) Bool.false_ne_true
    | _ => exact absurd (show false = true from h) Bool.false_ne_true
  | _ => rfl
theorem embE_ix {k : Eb} {e : Ep} {a : Expr} (h : embE k e a = true) : PlainIx a := by
  cases a with
  | Slice x y z p =>
    cases e with
    | fz f => cases f <;> exact absurd (show false = true from h) Bool.false_ne_true
    | _ => exact absurd (show false = true from h) Bool.false_ne_true
  | _ => exact fun _ _ => rfl
theorem embE_set {k : Eb} {e : Ep} {a : Expr} (h : embE k e a = true) (env : Env) (x : Value) : foldedSetIterable a env x = pure x := by
  cases a with
  | Set x y p =>
    cases e with
    | fz f => cases f <;> exact absurd (show false = true from h) Bool.false_ne_true
    | _ => exact absurd (show false = true from h) Bool.false_ne_true
  | _ => rfl
theorem embE_pl {k : Eb} {e : Ep} {a : Expr} (h : embE k e a = true) (env : Env) : (backTo pos (starEach [a] env)).any (·.1) = false := by
  rw [embE_star h]
  rfl
theorem embEs_pl {k : Eb} {pos : Pos} {env : Env} : ∀ {es : Eps} {as : List Expr}, embEs k es as = true → (backTo pos (starEach as env)).any (·.1) = false
  | .nil, [], _ => rfl
  | .nil, _ :: _, h => absurd (show false = true from h) Bool.false_ne_true
  | .cons _ _, [], h => absurd (show false = true from h) Bool.false_ne_true
  | .cons e es, a :: as, h => by
    have h := Bool.and_eq_true_iff.mp (show (embE k e a && embEs k es as) = true from h)
    rw [embE_star h.1]
    have ih := embEs_pl (pos := pos) (env := env) h.2
    show (false || (backTo pos (starEach as env)).any (·.1)) = false
    rw [ih]
    rfl

/-! ### one construct after the other -/
section
variable {b : Bs} {n : Nat} {k : Eb} {X : Cx} {W : WX}
theorem s_var (hX : XOk b n k X W) {i : Nat} {x : Str} {pos : Pos} (h : k.at i x = true) : PE X (.Name x pos) (tE b n W (.var i)) := by
  obtain ⟨h1, h2⟩ := at_ok h
  have dn := hX.dbg x (List.mem_of_getElem? h1)
  refine pe_weak (pe_var (i := i) (by rw [hX.N]; exact h1) (hX.vis x h2) dn.1 dn.2) fun σ H Q q => ?_
  obtain ⟨w, st, en, hr, he, q⟩ := q
  have q : Sat b.c (rV b.c) w H st (match en[i]? with | some (.val d) => .ok d st | _ => .stk) Q fun k H' => W (.ref (b.c.cA k)) none σ H' := q
  cases e : en[i]? with
  | none =>
    rw [e] at q
    exact q.elim
  | some s =>
    rw [e] at q
    cases s with
    | val d =>
      obtain ⟨v, h1, h2⟩ := he.val i d e
      exact ⟨v, h1, Sat.ok q hr h2⟩
    | un => exact q.elim
    | own xs => exact q.elim
theorem s_cint {i : Int} {j pos} : PE X (.Constant (.int i) j pos) (tE b n W (.cint i)) :=
  pe_weak pe_int fun σ H Q ⟨w, st, en, hr, he, q⟩ => Sat.ok q hr mk_int
theorem s_cstr {i : Str} {j pos} : PE X (.Constant (.str i) j pos) (tE b n W (.cstr i)) :=
  pe_weak pe_str fun σ H Q ⟨w, st, en, hr, he, q⟩ => Sat.ok q hr mk_str
theorem s_cbl {i : Bool} {j pos} : PE X (.Constant (.bool i) j pos) (tE b n W (.cbl i)) :=
  pe_weak pe_bl fun σ H Q ⟨w, st, en, hr, he, q⟩ => Sat.ok q hr mk_bl
theorem s_cnon {j pos} : PE X (.Constant .none j pos) (tE b n W .cnon) :=
  pe_weak pe_non fun σ H Q ⟨w, st, en, hr, he, q⟩ => Sat.ok q hr mk_non
theorem s_glo (B : b.Ok) (hX : XOk b n k X W) {x : Nat} {y : Str} {pos : Pos} (h : k.gl (k.gn x) y = true) : PE X (.Name y pos) (tE b n W (.glo x)) := by
  obtain ⟨e, hg⟩ := gl_ok h
  rw [hX.gn] at e
  cases hd : b.p.glo x with
  | none =>
    refine ⟨fun pins s σ H Q I q => ?_⟩
    obtain ⟨w, st, en, hr, he, q⟩ := q
    have q : Sat b.c (rV b.c) w H st (.of (b.p.glo x) st) Q fun k H' => W (.ref (b.c.cA k)) none σ H' := q
    rw [hd] at q
    exact q.elim
  | some d =>
    obtain ⟨v, u, h1, h2, h3, h4⟩ := B.glo x d hd
    refine pe_weak (pe_glob (hX.gl y hg) (by rw [hX.mg, ← e]; exact h1) h2 (by rw [← e]; exact h4)) fun σ H Q q => ?_
    obtain ⟨w, st, en, hr, he, q⟩ := q
    have q : Sat b.c (rV b.c) w H st (.of (b.p.glo x) st) Q fun k H' => W (.ref (b.c.cA k)) none σ H' := q
    rw [hd] at q
    exact Sat.ok q hr (h3 w)
theorem s_bin {o : BOp} {a d : Ep} {e f : Expr} {pos : Pos} (ha : PE X e (tE b n W a)) (hd : PE X f (tE b n W d)) : PE X (.BinOp e (opOf o) f pos) (tE b n W (.bin o a d)) := by
  refine pe_weak (pe_op (op_bin o) ha hd) fun σ H Q q => ?_
  obtain ⟨w, st, en, hr, he, q⟩ := q
  refine tG_bind hr he q fun x d1 w1 H1 st1 e1 p1 he1 r1 q1 => ?_
  refine tG_bind p1.rel he1 q1 fun y d2 w2 H2 st2 e2 p2 he2 r2 q2 => ?_
  obtain ⟨r, hr3, q3⟩ := of_sat q2
  obtain ⟨i, j, z, rfl, rfl, hz, rfl⟩ := binV_some hr3
  exact ⟨i, j, z, rep_int r1, rep_int r2, hz, Sat.ok q3 p2.rel mk_int⟩
theorem s_neg {a : Ep} {e : Expr} {pos : Pos} (ha : PE X e (tE b n W a)) : PE X (.UnaryOp .USub e pos) (tE b n W (.neg a)) := by
  refine pe_weak (pe_un un_neg ha) fun σ H Q q => ?_
  obtain ⟨w, st, en, hr, he, q⟩ := q
  refine tG_bind hr he q fun x d1 w1 H1 st1 e1 p1 he1 r1 q1 => ?_
  cases d1 with
  | int i => exact ⟨i, rep_int r1, Sat.ok q1 p1.rel mk_int⟩
  | _ => exact q1.elim
theorem hu64 (hX : XOk b n k X W) : X.A.units + 64 < cLine := hX.room.units
theorem s_cmp (hX : XOk b n k X W) {o : COp} {a d : Ep} {e f : Expr} {pos : Pos} (ha : PE X e (tE b n W a)) (hd : PE X f (tE b n W d)) (hm : behindInMarks (copOf o) f = false) : PE X (.Compare e [copOf o] [f] pos) (tE b n W (.cmp o a d)) := by
  refine pe_weak (pe_cmpR (op_cmp hX.K (hu64 hX) o) ha hd hm) fun σ H Q q => ?_
  obtain ⟨w, st, en, hr, he, q⟩ := q
  refine tG_bind hr he q fun x d1 w1 H1 st1 e1 p1 he1 r1 q1 => ?_
  refine tG_bind p1.rel he1 q1 fun y d2 w2 H2 st2 e2 p2 he2 r2 q2 => ?_
  obtain ⟨r, hr3, q3⟩ := of_sat q2
  obtain ⟨t, ht, rfl⟩ := Option.map_eq_some_iff.mp hr3
  exact ⟨w2, d1, d2, t, p2.rel.ex, Rep.mono p2.le r1, r2, ht, Sat.ok q3 p2.rel mk_bl⟩
theorem t_cmp (hX : XOk b n k X W) {o : COp} {a d : Ep} {e f : Expr} {pos : Pos} (ha : PE X e (tE b n W a)) (hd : PE X f (tE b n W d)) (hm : behindInMarks (copOf o) f = false) : PT X (.Compare e [copOf o] [f] pos) (tT b n W (.cmp o a d)) := by
  refine pt_weak (pt_cmpR (op_cmp hX.K (hu64 hX) o) ha hd hm) fun σ H Q q => ?_
  obtain ⟨w, st, en, hr, he, q⟩ := q
  refine tG_bind hr he q fun x d1 w1 H1 st1 e1 p1 he1 r1 q1 => ?_
  refine tG_bind p1.rel he1 q1 fun y d2 w2 H2 st2 e2 p2 he2 r2 q2 => ?_
  obtain ⟨t, ht, q3⟩ := of_sat q2
  exact ⟨w2, d1, d2, t, p2.rel.ex, Rep.mono p2.le r1, r2, ht, t, rfl, Sat.ok q3 p2.rel rfl⟩
theorem mark2 {op op' : CmpOp} {f h : Expr} (hm : behindInMarks op' h = false) : lastMarks [op, op'] [f, h] = false := hm
theorem s_chn (hX : XOk b n k X W) {o o' : COp} {a d u : Ep} {e f h : Expr} {pos : Pos} (ha : PE X e (tE b n W a)) (hd : PE X f (tE b n W d)) (hu : PE X h (tE b n W u)) (hm : behindInMarks (copOf o') h = false) :
    PE X (.Compare e [copOf o, copOf o'] [f, h] pos) (tE b n W (.chn o o' a d u)) := by
  refine pe_weak (pe_chain (op_cmp hX.K (hu64 hX) o) (op_cmp hX.K (hu64 hX) o') ha hd hu (mark2 hm)) fun σ H Q q => ?_
  obtain ⟨w, st, en, hr, he, q⟩ := q
  refine tG_bind hr he q fun x d1 w1 H1 st1 e1 p1 he1 r1 q1 => ?_
  refine tG_bind p1.rel he1 q1 fun y d2 w2 H2 st2 e2 p2 he2 r2 q2 => ?_
  cases hc : cmpV o d1 d2 with
  | none =>
    rw [hc] at q2
    exact q2.elim
  | some t =>
    rw [hc] at q2
    refine ⟨w2, d1, d2, t, p2.rel.ex, Rep.mono p2.le r1, r2, hc, t, rfl, ?_⟩
    cases t with
    | false => exact Sat.ok q2 p2.rel mk_bl
    | true =>
      refine tG_bind p2.rel he2 q2 fun z d3 w3 H3 st3 e3 p3 he3 r3 q3 => ?_
      obtain ⟨r, hr3, q4⟩ := of_sat q3
      obtain ⟨t, ht, rfl⟩ := Option.map_eq_some_iff.mp hr3
      exact ⟨w3, d2, d3, t, p3.rel.ex, Rep.mono p3.le r2, r3, ht, Sat.ok q4 p3.rel mk_bl⟩
theorem t_chn (hX : XOk b n k X W) {o o' : COp} {a d u : Ep} {e f h : Expr} {pos : Pos} (ha : PE X e (tE b n W a)) (hd : PE X f (tE b n W d)) (hu : PE X h (tE b n W u)) (hm : behindInMarks (copOf o') h = false) :
    PT X (.Compare e [copOf o, copOf o'] [f, h] pos) (tT b n W (.chn o o' a d u)) := by
  refine pt_weak (pt_chain (op_cmp hX.K (hu64 hX) o) (op_cmp hX.K (hu64 hX) o') ha hd hu (mark2 hm)) fun σ H Q q => ?_
  obtain ⟨w, st, en, hr, he, q⟩ := q
  refine tG_bind hr he q fun x d1 w1 H1 st1 e1 p1 he1 r1 q1 => ?_
  refine tG_bind p1.rel he1 q1 fun y d2 w2 H2 st2 e2 p2 he2 r2 q2 => ?_
  cases hc : cmpV o d1 d2 with
  | none =>
    rw [hc] at q2
    exact q2.elim
  | some t =>
    rw [hc] at q2
    refine ⟨w2, d1, d2, t, p2.rel.ex, Rep.mono p2.le r1, r2, hc, t, rfl, ?_⟩
    cases t with
    | false => exact ⟨false, rfl, Sat.ok q2 p2.rel rfl⟩
    | true =>
      refine tG_bind p2.rel he2 q2 fun z d3 w3 H3 st3 e3 p3 he3 r3 q3 => ?_
      obtain ⟨t, ht, q4⟩ := of_sat q3
      exact ⟨w3, d2, d3, t, p3.rel.ex, Rep.mono p3.le r2, r3, ht, t, rfl, Sat.ok q4 p3.rel rfl⟩
theorem s_andE {a d : Ep} {e f : Expr} {r : List Expr} {pos : Pos} (ha : PE X e (tE b n W a)) (hd : PE X (.BoolOp .And (f :: r) pos) (tE b n W d)) : PE X (.BoolOp .And (e :: f :: r) pos) (tE b n W (.andE a d)) := by
  refine pe_weak (pe_and ha hd) fun σ H Q q => ?_
  obtain ⟨w, st, en, hr, he, q⟩ := q
  refine tG_bind hr he q fun x d1 w1 H1 st1 e1 p1 he1 r1 q1 => ?_
  cases d1 with
  | bl t =>
    refine ⟨t, rep_bl r1, ?_⟩
    cases t with
    | true => exact ⟨w1, st1, en, p1.rel, he1, q1⟩
    | false => exact Sat.ok q1 p1.rel mk_bl
  | _ => exact q1.elim
theorem s_orE {a d : Ep} {e f : Expr} {r : List Expr} {pos : Pos} (ha : PE X e (tE b n W a)) (hd : PE X (.BoolOp .Or (f :: r) pos) (tE b n W d)) : PE X (.BoolOp .Or (e :: f :: r) pos) (tE b n W (.orE a d)) := by
  refine pe_weak (pe_or ha hd) fun σ H Q q => ?_
  obtain ⟨w, st, en, hr, he, q⟩ := q
  refine tG_bind hr he q fun x d1 w1 H1 st1 e1 p1 he1 r1 q1 => ?_
  cases d1 with
  | bl t =>
    refine ⟨t, rep_bl r1, ?_⟩
    cases t with
    | false => exact ⟨w1, st1, en, p1.rel, he1, q1⟩
    | true => exact Sat.ok q1 p1.rel mk_bl
  | _ => exact q1.elim
theorem s_one {op : BoolOp} {a : Ep} {e : Expr} {pos : Pos} (ha : PE X e (tE b n W a)) : PE X (.BoolOp op [e] pos) (tE b n W (.one a)) := pe_one ha
theorem s_notE {a : Ep} {e : Expr} {pos : Pos} (ha : PE X e (tE b n W a)) : PE X (.UnaryOp .Not e pos) (tE b n W (.notE a)) := by
  refine pe_weak (pe_not ha) fun σ H Q q => ?_
  obtain ⟨w, st, en, hr, he, q⟩ := q
  refine tG_bind hr he q fun x d1 w1 H1 st1 e1 p1 he1 r1 q1 => ?_
  cases d1 with
  | bl t => exact ⟨t, rep_bl r1, Sat.ok q1 p1.rel mk_bl⟩
  | _ => exact q1.elim
theorem s_ite {t : Tx} {a d : Ep} {c e f : Expr} {pos : Pos} (ht : PT X c (tT b n W t)) (ha : PE X e (tE b n W a)) (hd : PE X f (tE b n W d)) : PE X (.IfExp c e f pos) (tE b n W (.ite t a d)) := by
  refine pe_weak (pe_ifExp ht ha hd) fun σ H Q q => ?_
  obtain ⟨w, st, en, hr, he, q⟩ := q
  refine tG_bind hr he q fun x d1 w1 H1 st1 e1 p1 he1 r1 q1 => ?_
  have r1 : x = d1 := r1
  subst r1
  cases x with
  | true => exact ⟨w1, st1, en, p1.rel, he1, q1⟩
  | false => exact ⟨w1, st1, en, p1.rel, he1, q1⟩
theorem s_nil : PA X [] (tEs b n W .nil) := pa_weak pa_nil fun σ H Q ⟨w, st, en, hr, he, q⟩ => Sat.ok q hr mk_nil
theorem s_cons {e : Ep} {es : Eps} {a : Expr} {as : List Expr} (ha : PE X a (tE b n W e)) (hs : PA X as (tEs b n W es)) (h : starEach (a :: as) X.env = (false, eval a X.env) :: starEach as X.env) : PA X (a :: as) (tEs b n W (.cons e es)) := by
  refine pa_weak (pa_cons ha hs h) fun σ H Q q => ?_
  obtain ⟨w, st, en, hr, he, q⟩ := q
  refine tG_bind hr he q fun x d1 w1 H1 st1 e1 p1 he1 r1 q1 => ?_
  refine tG_bind p1.rel he1 q1 fun y d2 w2 H2 st2 e2 p2 he2 r2 q2 => ?_
  exact Sat.ok q2 p2.rel (mk_cons (Rep.mono p2.le r1) r2)
theorem s_tup {es : Eps} {as : List Expr} {j pos} (h : PA X as (tEs b n W es)) : PE X (.Tuple as j pos) (tE b n W (.tup es)) := by
  refine pe_weak (pe_tup h) fun σ H Q q => ?_
  obtain ⟨w, st, en, hr, he, q⟩ := q
  refine tG_bind hr he q fun xs ds w1 H1 st1 e1 p1 he1 r1 q1 => ?_
  have q1 : Sat b.c (rV b.c) w1 H1 st1 (if ds.length ≤ lim then .ok (.tup ds) st1 else .stk) Q _ := q1
  have r1 : Reps b.c w1 ds xs := r1
  split at q1
  · rename_i hl
    refine ⟨by rw [r1.len]; exact hl, fun p hp => ?_⟩
    have p2 : Post b.c w1 H1 st1 w1 (upd H1 p (.tup xs)) st1 := Post.new p1.rel hp
    have hI : w1.I p = none := p1.rel.ex.none hp
    have p3 := Post.frz p2 hp upd_same hI (p1.rel.cne hp)
    refine q1 _ _ _ p3 ?_
    show Rep b.c _ (.tup ds) (.ref p)
    unfold Rep
    exact ⟨p, xs, rfl, SqT.of upd_same, Reps.mono (le_frz hI) r1⟩
  · exact q1.elim
/-- a new list, held for good from now on -/
theorem s_fz {f : Fx} {e : Expr} (h : PE X e (tF b n W f)) : PE X e (tE b n W (.fz f)) := by
  refine pe_weak (t := fun σ H Q => tF b n W f σ H fun v H' => Q v H') h fun σ H Q q => ?_
  obtain ⟨w, st, en, hr, he, q⟩ := q
  refine ⟨w, st, en, hr, he, ?_⟩
  have q : Sat b.c (rV b.c) w H st ((evF (gOf b n) f en st).bind fun xs st => .ok (.lst xs) st) Q fun k H' => W (.ref (b.c.cA k)) none σ H' := q
  cases e : evF (gOf b n) f en st with
  | stk =>
    rw [e] at q
    exact q
  | exc i s1 =>
    rw [e] at q
    exact q
  | ok xs s1 =>
    rw [e] at q
    intro x w1 H1 p1 r1
    obtain ⟨p, vs, rfl, h1, h2, h3, h4, h5⟩ := r1
    refine q _ _ _ (Post.frz p1 h1 h2 h4 h5) ?_
    show Rep b.c _ (.lst xs) (.ref p)
    unfold Rep
    exact ⟨p, vs, rfl, SqL.of upd_same, Reps.mono (le_frz h4) h3⟩
theorem subV_rep {c : Ct} {w : Wd} {H : Hp} {d e r : D} {x y : V} {Q : VK} (ex : Ex w.I H) (rx : Rep c w d x) (ry : Rep c w e y) (h : subV d e = some r) (q : ∀ v, Rep c w r v → Q v H) : rIx c.K x y H Q := by
  cases d with
  | lst xs =>
    cases e with
    | int i =>
      obtain ⟨a, vs, rfl, s, t⟩ := rep_lst rx
      obtain ⟨v, h1, h2⟩ := t.atI h
      exact .inl ⟨a, vs, i, v, rfl, rep_int ry, ex.l s, h1, q v h2⟩
    | _ => cases h
  | tup xs =>
    cases e with
    | int i =>
      obtain ⟨a, vs, rfl, s, t⟩ := rep_tup rx
      obtain ⟨v, h1, h2⟩ := t.atI h
      exact .inr (.inl ⟨a, vs, i, v, rfl, rep_int ry, ex.t s, h1, q v h2⟩)
    | _ => cases h
  | _ => cases h
theorem s_sub (hX : XOk b n k X W) {a i : Ep} {e f : Expr} {pos : Pos} (ha : PE X e (tE b n W a)) (hi : PE X f (tE b n W i)) (hp : PlainIx f) : PE X (.Subscript e f pos) (tE b n W (.sub a i)) := by
  refine pe_weak (pe_ix ix_seq ha hi hp) fun σ H Q q => ?_
  obtain ⟨w, st, en, hr, he, q⟩ := q
  refine tG_bind hr he q fun x d1 w1 H1 st1 e1 p1 he1 r1 q1 => ?_
  refine tG_bind p1.rel he1 q1 fun y d2 w2 H2 st2 e2 p2 he2 r2 q2 => ?_
  obtain ⟨r, hr3, q3⟩ := of_sat q2
  rw [hX.K]
  exact subV_rep p2.rel.ex (Rep.mono p2.le r1) r2 hr3 fun v hv => Sat.ok q3 p2.rel hv
theorem s_subO (hX : XOk b n k X W) {x : Nat} {y : Str} {i : Ep} {f : Expr} {pos pos' : Pos} (h : k.at x y = true) (hi : PE X f (tE b n W i)) (hp : PlainIx f) : PE X (.Subscript (.Name y pos') f pos) (tE b n W (.subO x i)) := by
  obtain ⟨h1, h2⟩ := at_ok h
  have dn := hX.dbg y (List.mem_of_getElem? h1)
  refine pe_weak (pe_ix ix_seq (pe_var (i := x) (by rw [hX.N]; exact h1) (hX.vis y h2) dn.1 dn.2) hi hp) fun σ H Q q => ?_
  obtain ⟨w, st, en, hr, he, q⟩ := q
  obtain ⟨xs, ho, q⟩ := ownSat (f := fun xs => (evE (gOf b n) i en st).bind fun y st => .of (subV (.lst xs) y) st) q
  obtain ⟨l, vs, g1, g2, g3, g4, g5⟩ := he.own x xs ho
  refine ⟨.ref l, g1, ?_⟩
  refine tG_bind hr he q fun y d1 w1 H1 st1 e1 p1 he1 r1 q1 => ?_
  obtain ⟨r, hr3, q3⟩ := of_sat q1
  cases d1 with
  | int i =>
    obtain ⟨k1, k2, k3⟩ := p1.keep l _ g2 g5
    obtain ⟨v, h1, h2⟩ := (Reps.mono p1.le g3).atI hr3
    exact .inl ⟨l, vs, i, v, rfl, rep_int r1, SqL.of k1, h1, Sat.ok q3 p1.rel h2⟩
  | _ => cases hr3
theorem s_lenO (B : b.Ok) (hX : XOk b n k X W) {x : Nat} {y z : Str} {pos p1 p2 : Pos} (hl : k.gl "len" y = true) (h : k.at x z = true) : PE X (.Call (.Name y p1) [.Name z p2] [] pos) (tE b n W (.lenO x)) := by
  obtain ⟨rfl, hg⟩ := gl_ok hl
  obtain ⟨h1, h2⟩ := at_ok h
  have dn := hX.dbg z (List.mem_of_getElem? h1)
  refine pe_weak (pe_callB call_len_seq (hX.gl _ hg) (by rw [hX.mg]; exact B.free _ (by decide)) PySem.boot_len (pa_cons (pe_var (i := x) (by rw [hX.N]; exact h1) (hX.vis z h2) dn.1 dn.2) pa_nil)) fun σ H Q q => ?_
  obtain ⟨w, st, en, hr, he, q⟩ := q
  obtain ⟨xs, ho, q⟩ := ownSat (f := fun xs => Res.ok (D.int xs.length) st) q
  obtain ⟨l, vs, g1, g2, g3, g4, g5⟩ := he.own x xs ho
  refine ⟨.ref l, g1, l, vs, rfl, .inl (SqL.of g2), ?_⟩
  rw [g3.len]
  exact Sat.ok q hr mk_int
end
end T

/-! T6: calls, built-ins, tests, new lists. -/
namespace T
open PySem PySem.Spec PyProof.Rows L2
section
variable {b : Bs} {n : Nat} {k : Eb} {X : Cx} {W : WX}
theorem gl_free (B : b.Ok) (hX : XOk b n k X W) {x : Str} (h : x ∈ blt) : X.mg x = none := by rw [hX.mg]; exact B.free x h

/-! ### calls of the text's own defs -/
theorem s_call (B : b.Ok) (hX : XOk b n k X W) {f sh : Nat} {e : Ep} {es : Eps} {a : Expr} {as : List Expr} {y : Str} {p pos : Pos} (hf : f < k.nf) (hg : k.gl (k.fn f) y = true) (ha : PA X (a :: as) (tEs b n W (.cons e es)))
    (hs : starEach (a :: as) X.env = (false, eval a X.env) :: starEach as X.env) (hpl : (backTo pos (starEach as X.env)).any (·.1) = false) : PE X (.Call (.Name y p) (a :: as) [] pos) (tE b n W (.call f sh e es)) := by
  obtain ⟨rfl, hg⟩ := gl_ok hg
  refine ⟨fun pins s σ H Q I q => ?_⟩
  obtain ⟨w, st, en, hr, he, q⟩ := q
  obtain ⟨g1, g2, g3⟩ := B.fmg f (by rw [← hX.nf]; exact hf)
  refine wpAny_Call_Name_kw (ld_glob I (hX.gl _ hg) (by rw [hX.mg, hX.fn]; exact g1) ?_ (by rw [hX.fn]; exact g3))
  have hk : PySem.W.keepIn X.K (.ref (b.fA f)) = true := by rw [hX.K]; exact g2
  refine PySem.W.callWith_K (h₀ := X.base) I.ok.mod.kin hk (thn (ha.run pos pins s σ H (fun vs H1 => ∃ (w1 : Wd) (st1 : Sto) (ds : List D), Post b.c w H st w1 H1 st1 ∧ Reps b.c w1 ds vs ∧
    Sat b.c (rV b.c) w H st ((gOf b n).call f sh ds st1) Q fun k H' => W (.ref (b.c.cA k)) none σ H') I ?_) fun us s1 ⟨vs, H1, I1, r, q1⟩ => ⟨I1.kIn, ?_⟩) hs hpl
  · -- the arguments
    refine ⟨w, st, en, hr, he, ?_⟩
    have q : Sat b.c (rV b.c) w H st ((evE (gOf b n) e en st).bind fun x st => (evEs (gOf b n) es en st).bind fun xs st => (gOf b n).call f sh (x :: xs) st) Q fun k H' => W (.ref (b.c.cA k)) none σ H' := q
    show Sat b.c (rVs b.c) w H st ((evE (gOf b n) e en st).bind fun x st => (evEs (gOf b n) es en st).bind fun xs st => .ok (x :: xs) st) _ _
    cases e1 : evE (gOf b n) e en st with
    | stk =>
      rw [e1] at q
      exact q
    | exc i s1 =>
      rw [e1] at q
      exact q
    | ok x s1 =>
      rw [e1] at q
      have q : Sat b.c (rV b.c) w H st ((evEs (gOf b n) es en s1).bind fun xs st => (gOf b n).call f sh (x :: xs) st) Q fun k H' => W (.ref (b.c.cA k)) none σ H' := q
      show Sat b.c (rVs b.c) w H st ((evEs (gOf b n) es en s1).bind fun xs st => .ok (x :: xs) st) _ _
      cases e2 : evEs (gOf b n) es en s1 with
      | stk =>
        rw [e2] at q
        exact q
      | exc i s2 =>
        rw [e2] at q
        exact q
      | ok xs s2 =>
        rw [e2] at q
        exact fun vs w1 H1 p1 r1 => ⟨w1, s2, x :: xs, p1, r1, q⟩
  · obtain ⟨w1, st1, ds, p1, r1, q1⟩ := q1
    have q1 : Sat b.c (rV b.c) w H st (match b.p.shp f sh ds with | some ds => callF b.p n f ds st1 | none => .stk) Q fun k H' => W (.ref (b.c.cA k)) none σ H' := q1
    cases e1 : b.p.shp f sh ds with
    | none =>
      rw [e1] at q1
      exact q1.elim
    | some ds' =>
      rw [e1] at q1
      obtain ⟨dd, dvs, dus, rfl, d1, d2, d3⟩ := B.shp f sh ds ds' e1
      have r2 : Reps b.c w1 (ds ++ dd) (vs ++ dvs) := r1.app (d1 w1)
      have hb : Binds X.K (b.fD f) (b.ps f) dus := by rw [hX.K]; exact d3
      by_cases hlen : (vs ++ dvs).length = (b.ps f).length
      · refine run_fnSD (hX.call f) hX.room hb d2 (passAt hX.tk σ) I1 r ?_
        refine ⟨w1, st1, ds ++ dd, p1.rel, r2, hlen, ?_⟩
        have q1 : Sat b.c (rV b.c) w H st (callF b.p n f (ds ++ dd) st1) Q fun k H' => W (.ref (b.c.cA k)) none σ H' := q1
        cases e3 : callF b.p n f (ds ++ dd) st1 with
        | stk =>
          rw [e3] at q1
          exact q1
        | exc i s2 =>
          rw [e3] at q1
          exact fun w2 H2 p2 => q1 w2 H2 (p1.trans p2)
        | ok x s2 =>
          rw [e3] at q1
          exact fun y w2 H2 p2 r3 => q1 y w2 H2 (p1.trans p2) r3
      · refine absurd (B.len f (ds ++ dd) st1 n fun z => ?_) (by rw [← r2.len]; exact hlen)
        have q1 : Sat b.c (rV b.c) w H st (callF b.p n f (ds ++ dd) st1) Q fun k H' => W (.ref (b.c.cA k)) none σ H' := q1
        rw [z] at q1
        exact q1
theorem s_call0 (B : b.Ok) (hX : XOk b n k X W) {f sh : Nat} {y : Str} {p pos : Pos} (hf : f < k.nf) (hg : k.gl (k.fn f) y = true) : PE X (.Call (.Name y p) [] [] pos) (tE b n W (.call0 f sh)) := by
  obtain ⟨rfl, hg⟩ := gl_ok hg
  refine ⟨fun pins s σ H Q I q => ?_⟩
  obtain ⟨w, st, en, hr, he, q⟩ := q
  obtain ⟨g1, g2, g3⟩ := B.fmg f (by rw [← hX.nf]; exact hf)
  refine wpAny_Call_Name_kw (ld_glob I (hX.gl _ hg) (by rw [hX.mg, hX.fn]; exact g1) ?_ (by rw [hX.fn]; exact g3))
  have hk : PySem.W.keepIn X.K (.ref (b.fA f)) = true := by rw [hX.K]; exact g2
  refine PySem.W.callWith_K0 I.kIn hk ?_
  have q1 : Sat b.c (rV b.c) w H st (match b.p.shp f sh [] with | some ds => callF b.p n f ds st | none => .stk) Q fun k H' => W (.ref (b.c.cA k)) none σ H' := q
  cases e1 : b.p.shp f sh [] with
  | none =>
    rw [e1] at q1
    exact q1.elim
  | some ds' =>
    rw [e1] at q1
    obtain ⟨dd, dvs, dus, e2, d1, d2, d3⟩ := B.shp f sh [] ds' e1
    have e2 : ds' = dd := e2
    subst e2
    have hb : Binds X.K (b.fD f) (b.ps f) dus := by rw [hX.K]; exact d3
    have q1 : Sat b.c (rV b.c) w H st (callF b.p n f ds' st) Q fun k H' => W (.ref (b.c.cA k)) none σ H' := q1
    have r2 : Reps b.c w ds' dvs := d1 w
    by_cases hlen : dvs.length = (b.ps f).length
    · exact run_fnSD (vs := []) (us := []) (hX.call f) hX.room hb d2 (passAt hX.tk σ) I .nil ⟨w, st, ds', hr, r2, hlen, q1⟩
    · refine absurd (B.len f ds' st n fun z => ?_) (by rw [← r2.len]; exact hlen)
      rw [z] at q1
      exact q1

/-! ### built-ins -/
theorem s_b1 (B : b.Ok) (hX : XOk b n k X W) {o : B1} {a : Ep} {e : Expr} {y : Str} {p pos : Pos} (hg : k.gl (b1N o) y = true) (ha : PE X e (tE b n W a)) (hs : ∀ (as : List Expr) (env : Env), starEach (e :: as) env = (false, eval e env) :: starEach as env) :
    PE X (.Call (.Name y p) [e] [] pos) (tE b n W (.b1 o a)) := by
  obtain ⟨rfl, hg⟩ := gl_ok hg
  have hpa : PA X [e] (tCons (tE b n W a) tNil) := pa_cons ha pa_nil (hs _ _)
  cases o with
  | len =>
    refine pe_weak (pe_callB call_len_seq (hX.gl _ hg) (gl_free B hX (by decide)) PySem.boot_len hpa (by decide) (by decide) (hs _ _) rfl) fun σ H Q q => ?_
    obtain ⟨w, st, en, hr, he, q⟩ := q
    refine tG_bind hr he q fun x d1 w1 H1 st1 e1 p1 he1 r1 q1 => ?_
    obtain ⟨r, hr3, q3⟩ := of_sat q1
    rw [hX.K]
    cases d1 with
    | lst xs =>
      cases hr3
      obtain ⟨l, vs, rfl, s, t⟩ := rep_lst r1
      refine ⟨l, vs, rfl, .inl (p1.rel.ex.l s), ?_⟩
      rw [t.len]
      exact Sat.ok q3 p1.rel mk_int
    | tup xs =>
      cases hr3
      obtain ⟨l, vs, rfl, s, t⟩ := rep_tup r1
      refine ⟨l, vs, rfl, .inr (p1.rel.ex.t s), ?_⟩
      rw [t.len]
      exact Sat.ok q3 p1.rel mk_int
    | _ => cases hr3
  | abs =>
    refine pe_weak (pe_callB call_abs (hX.gl _ hg) (gl_free B hX (by decide)) (by decide +kernel) hpa (by decide) (by decide) (hs _ _) rfl) fun σ H Q q => ?_
    obtain ⟨w, st, en, hr, he, q⟩ := q
    refine tG_bind hr he q fun x d1 w1 H1 st1 e1 p1 he1 r1 q1 => ?_
    obtain ⟨r, hr3, q3⟩ := of_sat q1
    cases d1 with
    | int i =>
      cases hr3
      exact ⟨i, by rw [rep_int r1], Sat.ok q3 p1.rel mk_int⟩
    | _ => cases hr3
  | int =>
    refine pe_weak (pe_callTy call_int1 (hX.gl _ hg) (gl_free B hX (by decide)) (by decide +kernel) hpa (by decide) (by decide) (hs _ _) rfl) fun σ H Q q => ?_
    obtain ⟨w, st, en, hr, he, q⟩ := q
    refine tG_bind hr he q fun x d1 w1 H1 st1 e1 p1 he1 r1 q1 => ?_
    obtain ⟨r, hr3, q3⟩ := of_sat q1
    cases d1 with
    | int i =>
      cases hr3
      exact .inl ⟨i, by rw [rep_int r1], Sat.ok q3 p1.rel mk_int⟩
    | bl i =>
      cases hr3
      exact .inr ⟨i, by rw [rep_bl r1], Sat.ok q3 p1.rel mk_int⟩
    | _ => cases hr3
  | sum =>
    refine pe_weak (pe_callB (cr_sum hX.calm) (hX.gl _ hg) (gl_free B hX (by decide)) (by decide +kernel) hpa (by decide) (by decide) (hs _ _) rfl) fun σ H Q q => ?_
    obtain ⟨w, st, en, hr, he, q⟩ := q
    refine tG_bind hr he q fun x d1 w1 H1 st1 e1 p1 he1 r1 q1 => ?_
    obtain ⟨r, hr3, q3⟩ := of_sat q1
    rw [hX.K]
    cases d1 with
    | lst xs =>
      obtain ⟨ns, h1, rfl⟩ := Option.map_eq_some_iff.mp (show (intsOf xs).map (fun ns => D.int ns.sum) = some r from hr3)
      obtain ⟨l, vs, rfl, s, t⟩ := rep_lst r1
      have e2 := t.ints h1
      subst e2
      exact ⟨l, ns, rfl, p1.rel.ex.l s, Sat.ok q3 p1.rel mk_int⟩
    | _ => cases hr3
  | any =>
    refine pe_weak (pe_callB (cr_any hX.calm) (hX.gl _ hg) (gl_free B hX (by decide)) (by decide +kernel) hpa (by decide) (by decide) (hs _ _) rfl) fun σ H Q q => ?_
    obtain ⟨w, st, en, hr, he, q⟩ := q
    refine tG_bind hr he q fun x d1 w1 H1 st1 e1 p1 he1 r1 q1 => ?_
    obtain ⟨r, hr3, q3⟩ := of_sat q1
    rw [hX.K]
    cases d1 with
    | lst xs =>
      obtain ⟨ns, h1, rfl⟩ := Option.map_eq_some_iff.mp (show (blsOf xs).map (fun ns => D.bl (ns.any id)) = some r from hr3)
      obtain ⟨l, vs, rfl, s, t⟩ := rep_lst r1
      have e2 := t.bls h1
      subst e2
      exact ⟨l, ns, rfl, p1.rel.ex.l s, Sat.ok q3 p1.rel mk_bl⟩
    | _ => cases hr3
  | all =>
    refine pe_weak (pe_callB (cr_all hX.calm) (hX.gl _ hg) (gl_free B hX (by decide)) (by decide +kernel) hpa (by decide) (by decide) (hs _ _) rfl) fun σ H Q q => ?_
    obtain ⟨w, st, en, hr, he, q⟩ := q
    refine tG_bind hr he q fun x d1 w1 H1 st1 e1 p1 he1 r1 q1 => ?_
    obtain ⟨r, hr3, q3⟩ := of_sat q1
    rw [hX.K]
    cases d1 with
    | lst xs =>
      obtain ⟨ns, h1, rfl⟩ := Option.map_eq_some_iff.mp (show (blsOf xs).map (fun ns => D.bl (ns.all id)) = some r from hr3)
      obtain ⟨l, vs, rfl, s, t⟩ := rep_lst r1
      have e2 := t.bls h1
      subst e2
      exact ⟨l, ns, rfl, p1.rel.ex.l s, Sat.ok q3 p1.rel mk_bl⟩
    | _ => cases hr3
theorem s_b2 (B : b.Ok) (hX : XOk b n k X W) {o : B2} {a d : Ep} {e f : Expr} {y : Str} {p pos : Pos} (hg : k.gl (b2N o) y = true) (ha : PE X e (tE b n W a)) (hd : PE X f (tE b n W d)) (hs : ∀ (as : List Expr) (env : Env), starEach (e :: as) env = (false, eval e env) :: starEach as env)
    (hs2 : ∀ (as : List Expr) (env : Env), starEach (f :: as) env = (false, eval f env) :: starEach as env) : PE X (.Call (.Name y p) [e, f] [] pos) (tE b n W (.b2 o a d)) := by
  obtain ⟨rfl, hg⟩ := gl_ok hg
  have hpa : PA X [e, f] (tCons (tE b n W a) (tCons (tE b n W d) tNil)) := pa_cons ha (pa_cons hd pa_nil (hs2 _ _)) (hs _ _)
  have hpl : (backTo pos (starEach [f] X.env)).any (·.1) = false := by
    rw [hs2]
    rfl
  cases o with
  | min =>
    refine pe_weak (pe_callB (call_min2 hX.calm) (hX.gl _ hg) (gl_free B hX (by decide)) (by decide +kernel) hpa (by decide) (by decide) (hs _ _) hpl) fun σ H Q q => ?_
    obtain ⟨w, st, en, hr, he, q⟩ := q
    refine tG_bind hr he q fun x d1 w1 H1 st1 e1 p1 he1 r1 q1 => ?_
    refine tG_bind p1.rel he1 q1 fun y d2 w2 H2 st2 e2 p2 he2 r2 q2 => ?_
    obtain ⟨r, hr3, q3⟩ := of_sat q2
    cases d1 with
    | int i =>
      cases d2 with
      | int j =>
        cases hr3
        exact ⟨i, j, by rw [rep_int r1, rep_int r2], Sat.ok q3 p2.rel mk_int⟩
      | _ => cases hr3
    | _ => cases hr3
  | max =>
    refine pe_weak (pe_callB (call_max2 hX.calm) (hX.gl _ hg) (gl_free B hX (by decide)) (by decide +kernel) hpa (by decide) (by decide) (hs _ _) hpl) fun σ H Q q => ?_
    obtain ⟨w, st, en, hr, he, q⟩ := q
    refine tG_bind hr he q fun x d1 w1 H1 st1 e1 p1 he1 r1 q1 => ?_
    refine tG_bind p1.rel he1 q1 fun y d2 w2 H2 st2 e2 p2 he2 r2 q2 => ?_
    obtain ⟨r, hr3, q3⟩ := of_sat q2
    cases d1 with
    | int i =>
      cases d2 with
      | int j =>
        cases hr3
        exact ⟨i, j, by rw [rep_int r1, rep_int r2], Sat.ok q3 p2.rel mk_int⟩
      | _ => cases hr3
    | _ => cases hr3
theorem plainA_ok {o : Expr} {m : Str} {env : Env} {t : Sem Value} (h : plainA o = true) : attributeBase o m env t = t := by
  unfold attributeBase
  split
  · rename_i id p pos
    cases h
  · rfl
theorem s_bits {a : Ep} {e : Expr} {apos pos : Pos} (ha : PE X e (tE b n W a)) (hp : plainA e = true) (hl : (apos.endLine == pos.line) = true) : PE X (.Call (.Attribute e "bit_length" apos) [] [] pos) (tE b n W (.bits a)) := by
  refine pe_weak (pe_bits ha (plainA_ok hp) hl) fun σ H Q q => ?_
  obtain ⟨w, st, en, hr, he, q⟩ := q
  refine tG_bind hr he q fun x d1 w1 H1 st1 e1 p1 he1 r1 q1 => ?_
  cases d1 with
  | int i => exact ⟨i, rep_int r1, Sat.ok q1 p1.rel mk_int⟩
  | _ => exact q1.elim

/-! ### tests -/
theorem truV_rep {c : Ct} {w : Wd} {H : Hp} {d : D} {x : V} {t : Bool} (ex : Ex w.I H) (r : Rep c w d x) (h : truV d = some t) : TruV c.K x H t := by
  cases d with
  | non =>
    rw [rep_non r]
    exact (Option.some.inj h).symm
  | bl i =>
    rw [rep_bl r]
    exact (Option.some.inj h).symm
  | int i =>
    rw [rep_int r]
    exact (Option.some.inj h).symm
  | lst xs =>
    obtain ⟨l, vs, rfl, s, q⟩ := rep_lst r
    refine .inl ⟨vs, ex.l s, ?_⟩
    rw [← Option.some.inj h, q.emp]
  | tup xs =>
    obtain ⟨l, vs, rfl, s, q⟩ := rep_tup r
    refine .inr (.inl ⟨vs, ex.t s, ?_⟩)
    rw [← Option.some.inj h, q.emp]
  | _ => cases h
theorem plainT_ok {e : Expr} {env : Env} (h : plainT e = true) : ∀ whole, PySem.isTrue e env whole = (do let v ← whole; standAt e.pos; holding [v] (truthy v)) := by
  intro whole
  unfold PySem.isTrue
  split
  · cases h
  · cases h
  · cases h
  · cases h
  · rfl
theorem t_tru (hX : XOk b n k X W) {a : Ep} {e : Expr} (ha : PE X e (tE b n W a)) (hp : plainT e = true) : PT X e (tT b n W (.tru a)) := by
  refine pt_weak (pt_truth ha (plainT_ok hp)) fun σ H Q q => ?_
  obtain ⟨w, st, en, hr, he, q⟩ := q
  refine tG_bind hr he q fun x d1 w1 H1 st1 e1 p1 he1 r1 q1 => ?_
  obtain ⟨t, ht, q3⟩ := of_sat q1
  exact ⟨t, by rw [hX.K]; exact truV_rep p1.rel.ex r1 ht, Sat.ok q3 p1.rel rfl⟩
theorem t_truO (hX : XOk b n k X W) {x : Nat} {y : Str} {pos : Pos} (h : k.at x y = true) : PT X (.Name y pos) (tT b n W (.truO x)) := by
  obtain ⟨h1, h2⟩ := at_ok h
  have dn := hX.dbg y (List.mem_of_getElem? h1)
  refine pt_weak (pt_truth (pe_var (i := x) (by rw [hX.N]; exact h1) (hX.vis y h2) dn.1 dn.2) (plainT_ok rfl)) fun σ H Q q => ?_
  obtain ⟨w, st, en, hr, he, q⟩ := q
  obtain ⟨xs, ho, q⟩ := ownSat (f := fun xs => Res.ok (!xs.isEmpty) st) q
  obtain ⟨l, vs, g1, g2, g3, g4, g5⟩ := he.own x xs ho
  refine ⟨.ref l, g1, !vs.isEmpty, .inl ⟨vs, SqL.of g2, rfl⟩, ?_⟩
  rw [g3.emp]
  exact Sat.ok q hr rfl
theorem t_notT {a : Tx} {e : Expr} {pos : Pos} (ha : PT X e (tT b n W a)) : PT X (.UnaryOp .Not e pos) (tT b n W (.notT a)) := by
  refine pt_weak (pt_not ha) fun σ H Q q => ?_
  obtain ⟨w, st, en, hr, he, q⟩ := q
  refine tG_bind hr he q fun x d1 w1 H1 st1 e1 p1 he1 r1 q1 => ?_
  have r1 : x = d1 := r1
  subst r1
  exact Sat.ok q1 p1.rel rfl
theorem w_one {op : BoolOp} {a : Tx} {e : Expr} {pos : Pos} (ha : PT X e (tT b n W a)) : PW X (.BoolOp op [e] pos) (tT b n W (.one a)) := by
  cases op with
  | And => exact pw_and1 ha
  | Or => exact pw_or1 ha
theorem w_and {a d : Tx} {e f : Expr} {r : List Expr} {pos : Pos} (ha : PT X e (tT b n W a)) (hd : PW X (.BoolOp .And (f :: r) pos) (tT b n W d)) : PW X (.BoolOp .And (e :: f :: r) pos) (tT b n W (.andT a d)) := by
  refine pw_weak (pw_and ha hd) fun σ H Q q => ?_
  obtain ⟨w, st, en, hr, he, q⟩ := q
  refine tG_bind hr he q fun x d1 w1 H1 st1 e1 p1 he1 r1 q1 => ?_
  have r1 : x = d1 := r1
  subst r1
  cases x with
  | true => exact ⟨w1, st1, en, p1.rel, he1, q1⟩
  | false => exact Sat.ok q1 p1.rel rfl
theorem w_or {a d : Tx} {e f : Expr} {r : List Expr} {pos : Pos} (ha : PT X e (tT b n W a)) (hd : PW X (.BoolOp .Or (f :: r) pos) (tT b n W d)) : PW X (.BoolOp .Or (e :: f :: r) pos) (tT b n W (.orT a d)) := by
  refine pw_weak (pw_or ha hd) fun σ H Q q => ?_
  obtain ⟨w, st, en, hr, he, q⟩ := q
  refine tG_bind hr he q fun x d1 w1 H1 st1 e1 p1 he1 r1 q1 => ?_
  have r1 : x = d1 := r1
  subst r1
  cases x with
  | false => exact ⟨w1, st1, en, p1.rel, he1, q1⟩
  | true => exact Sat.ok q1 p1.rel rfl

/-! ### new lists -/
theorem f_mk {c : Ct} {W : WX} {w : Wd} {H H0 : Hp} {st : Sto} {ds : List D} {vs : List V} {p : Addr} {Q : VK} {E : Nat → Hp → Prop} (hr : Rel c w H st) (hd : ∀ a, H0 a ≠ none → H a ≠ none) (q : Sat c (fun _ => rF c H0) w H st (.ok ds st) Q E) (r : Reps c w ds vs) (hp : H p = none) : Q (.ref p) (upd H p (.lst vs)) := by
  refine q _ _ _ (Post.new hr hp) ⟨p, vs, rfl, ?_, upd_same, r, hr.ex.none hp, hr.cne hp⟩
  cases e : H0 p with
  | none => rfl
  | some o => exact absurd hp (hd p (by rw [e]; intro z; cases z))
theorem f_lst {es : Eps} {as : List Expr} {pos} (h : PA X as (tEs b n W es)) : PE X (.List as pos) (tF b n W (.lst es)) := by
  refine pe_weak (pe_lst h) fun σ H Q q => ?_
  obtain ⟨w, st, en, hr, he, q⟩ := q
  refine tG_bind hr he q fun xs ds w1 H1 st1 e1 p1 he1 r1 q1 => ?_
  have q1 : Sat b.c (fun _ => rF b.c H) w1 H1 st1 (if ds.length ≤ lim then .ok ds st1 else .stk) Q _ := q1
  have r1 : Reps b.c w1 ds xs := r1
  split at q1
  · rename_i hl
    exact ⟨by rw [r1.len]; exact hl, fun p hp => f_mk (W := W) p1.rel p1.dom q1 r1 hp⟩
  · exact q1.elim
/-- a list that is read is a plain object -/
theorem Inv.lexact {c : Ct} (hK : X.K = c.K) {pins : List (Addr × Obj)} {σ : L2.St} {H : Hp} {s : Shared} {a : Addr} {xs : List V} (I : Inv X pins σ H s) (h : SqL X.K H a xs) :
    ∃ (its : List Value) (n : Nat), Vals xs its ∧ xs.length ≤ sizeLine ∧ s.heap.get? a = some { cls := .type "list", data := .seq its.toArray n } := by
  rcases h with h | ⟨o, its, n, hk, hc, hd, hs, hz, r⟩
  · obtain ⟨z, its, n, r, e⟩ := h.ok I.hok
    exact ⟨its, n, r, z, e⟩
  · have e2 := r.length
    simp only [Array.length_toList] at e2
    refine ⟨its.toList, n, r, by omega, ?_⟩
    have e := I.kIn a o hk
    have hsl := c.sl a o (by rw [← hK]; exact hk) hc
    obtain ⟨oc, od, dt, osl⟩ := o
    simp only at hc hd hs hsl
    subst hc hd hs hsl
    rw [e]
/-- list + list, any list that is read -/
def rCatA (K : PySem.W.Frag) : R2 := fun x y H Q => ∃ l b xs zs, x = .ref l ∧ y = .ref b ∧ SqL K H l xs ∧ SqL K H b zs ∧ xs.length + zs.length ≤ sizeLine ∧ ∀ p, H p = none → Q (.ref p) (upd H p (.lst (xs ++ zs)))
theorem op_catA {c : Ct} (hK : X.K = c.K) : OpR X (binaryOp .Add) (rCatA X.K) := by
  intro pins s σ H x y v u Q I rx ry h
  obtain ⟨l, b, xs, zs, rfl, rfl, hH, hB, hz, q⟩ := h
  cases rx
  cases ry
  obtain ⟨its, n, r, z, e⟩ := Inv.lexact hK I hH
  obtain ⟨its2, n2, r2, z2, e2⟩ := Inv.lexact hK I hB
  have hl := r.length
  have hl2 := r2.length
  refine PySem.P.add_list e e2 ?_ (by rw [List.size_toArray, List.size_toArray]; omega)
  have ea : its.toArray ++ its2.toArray = (its ++ its2).toArray := by simp
  rw [ea]
  exact ⟨.ref _, _, I.lnew (t' := s.toks) (r.append r2) (by rw [List.length_append]; omega), rfl, q _ I.fresh⟩
theorem f_cat (hX : XOk b n k X W) {a d : Ep} {e f : Expr} {pos : Pos} (ha : PE X e (tE b n W a)) (hd : PE X f (tE b n W d)) : PE X (.BinOp e .Add f pos) (tF b n W (.cat a d)) := by
  refine pe_weak (pe_op (op_catA hX.K) ha hd) fun σ H Q q => ?_
  obtain ⟨w, st, en, hr, he, q⟩ := q
  refine tG_bind hr he q fun x d1 w1 H1 st1 e1 p1 he1 r1 q1 => ?_
  refine tG_bind p1.rel he1 q1 fun y d2 w2 H2 st2 e2 p2 he2 r2 q2 => ?_
  cases d1 with
  | lst xs =>
    cases d2 with
    | lst ys =>
      have q2 : Sat b.c (fun _ => rF b.c H) w2 H2 st2 (if xs.length + ys.length ≤ lim then .ok (xs ++ ys) st2 else .stk) Q _ := q2
      split at q2
      · rename_i hl
        obtain ⟨l, vs, rfl, s1, t1⟩ := rep_lst (Rep.mono p2.le r1)
        obtain ⟨l2, us, rfl, s2, t2⟩ := rep_lst r2
        rw [hX.K]
        exact ⟨l, l2, vs, us, rfl, rfl, p2.rel.ex.l s1, p2.rel.ex.l s2, by rw [t1.len, t2.len]; exact hl, fun p hp => f_mk (W := W) p2.rel (fun a h => p2.dom a (p1.dom a h)) q2 (t1.app t2) hp⟩
      · exact q2.elim
    | _ => exact q2.elim
  | _ => exact q2.elim
theorem f_rep {f : Fx} {m : Ep} {e h : Expr} {pos : Pos} (ha : PE X e (tF b n W f)) (hd : PE X h (tE b n W m)) : PE X (.BinOp e .Mult h pos) (tF b n W (.rep f m)) := by
  refine pe_weak (pe_op op_rep ha hd) fun σ H Q q => ?_
  obtain ⟨w, st, en, hr, he, q⟩ := q
  refine tG_bind hr he q fun x xs w1 H1 st1 e1 p1 he1 r1 q1 => ?_
  obtain ⟨l, vs, rfl, g1, g2, g3, g4, g5⟩ := r1
  refine tG_bind p1.rel he1 q1 fun y d2 w2 H2 st2 e2 p2 he2 r2 q2 => ?_
  cases d2 with
  | int j =>
    have q2 : Sat b.c (fun _ => rF b.c H) w2 H2 st2 (if j < 9223372036854775808 ∧ -9223372036854775808 ≤ j ∧ xs.length * j.toNat ≤ lim then .ok (List.replicate j.toNat xs).flatten st2 else .stk) Q _ := q2
    split at q2
    · rename_i hl
      obtain ⟨k1, k2, k3⟩ := p2.keep l _ g2 g5
      have t := Reps.mono p2.le g3
      have p63 : (2 : Int) ^ 63 = 9223372036854775808 := by decide
      exact ⟨l, j, vs, rfl, rep_int r2, k1, by rw [p63]; exact hl.2.1, by rw [p63]; exact hl.1, by rw [t.len]; exact hl.2.2, fun p hp => f_mk (W := W) p2.rel (fun a h => p2.dom a (p1.dom a h)) q2 (t.repl _) hp⟩
    · exact q2.elim
  | _ => exact q2.elim
theorem o_none : PO X none (tO b n W .none) := po_weak po_none fun σ H Q ⟨w, st, en, hr, he, q⟩ => Sat.ok q hr rfl
theorem o_some {a : Ep} {e : Expr} (ha : PE X e (tE b n W a)) : PO X (some e) (tO b n W (.some a)) := by
  refine po_weak (po_some ha) fun σ H Q q => ?_
  obtain ⟨w, st, en, hr, he, q⟩ := q
  refine tG_bind hr he q fun x d1 w1 H1 st1 e1 p1 he1 r1 q1 => ?_
  cases d1 with
  | int i => exact ⟨i, rep_int r1, Sat.ok q1 p1.rel rfl⟩
  | _ => exact q1.elim
theorem f_sli (hX : XOk b n k X W) {a : Ep} {lo hi : Ox} {e : Expr} {l h : Option Expr} {p2 pos : Pos} (ha : PE X e (tE b n W a)) (hl : PO X l (tO b n W lo)) (hh : PO X h (tO b n W hi)) : PE X (.Subscript e (.Slice l h none p2) pos) (tF b n W (.sli a lo hi)) := by
  refine pe_weak (pe_slice sl_list ha hl hh) fun σ H Q q => ?_
  obtain ⟨w, st, en, hr, he, q⟩ := q
  refine tG_bind hr he q fun x d1 w1 H1 st1 e1 p1 he1 r1 q1 => ?_
  refine tG_bind p1.rel he1 q1 fun y o1 w2 H2 st2 e2 p2 he2 r2 q2 => ?_
  refine tG_bind p2.rel he2 q2 fun z o2 w3 H3 st3 e3 p3 he3 r3 q3 => ?_
  have r2 : y = o1 := r2
  have r3 : z = o2 := r3
  subst r2 r3
  cases d1 with
  | lst xs =>
    obtain ⟨l, vs, rfl, s1, t1⟩ := rep_lst (Rep.mono p3.le (Rep.mono p2.le r1))
    rw [hX.K]
    exact ⟨l, vs, rfl, p3.rel.ex.l s1, fun p hp => f_mk (W := W) p3.rel (fun a h => p3.dom a (p2.dom a (p1.dom a h))) q3 (t1.cut _ _) hp⟩
  | _ => exact q3.elim
theorem f_lof (B : b.Ok) (hX : XOk b n k X W) {a : Ep} {e : Expr} {y : Str} {p pos : Pos} (hg : k.gl "list" y = true) (ha : PE X e (tE b n W a)) (hs : ∀ (as : List Expr) (env : Env), starEach (e :: as) env = (false, eval e env) :: starEach as env) : PE X (.Call (.Name y p) [e] [] pos) (tF b n W (.lof a)) := by
  obtain ⟨rfl, hg⟩ := gl_ok hg
  refine pe_weak (pe_callTy call_list_of (hX.gl _ hg) (gl_free B hX (by decide)) (by decide +kernel) (pa_cons ha pa_nil (hs _ _)) (by decide) (by decide) (hs _ _) rfl) fun σ H Q q => ?_
  obtain ⟨w, st, en, hr, he, q⟩ := q
  refine tG_bind hr he q fun x d1 w1 H1 st1 e1 p1 he1 r1 q1 => ?_
  rw [hX.K]
  cases d1 with
  | lst xs =>
    obtain ⟨l, vs, rfl, s1, t1⟩ := rep_lst r1
    exact ⟨l, vs, rfl, .inl (p1.rel.ex.l s1), fun p hp => f_mk (W := W) p1.rel p1.dom q1 t1 hp⟩
  | tup xs =>
    obtain ⟨l, vs, rfl, s1, t1⟩ := rep_tup r1
    exact ⟨l, vs, rfl, .inr (p1.rel.ex.t s1), fun p hp => f_mk (W := W) p1.rel p1.dom q1 t1 hp⟩
  | _ => exact q1.elim
end
end T

/-! T7: targets, what is walked, comprehensions. -/
namespace T
open PySem PySem.Spec PyProof.Rows L2
/-! ### targets -/
theorem EnOk.set {c : Ct} {w : Wd} {H : Hp} {st : Sto} {en : En} {σ : L2.St} (e : EnOk c w H st en σ) (i : Nat) {d : D} {v : V} (r : Rep c w d v) : EnOk c w H st (en.set i (.val d)) (σ.set i (some v)) := by
  refine ⟨by rw [List.length_set, List.length_set]; exact e.len, fun j x h => ?_, fun j xs h => ?_, fun j j' xs ys l h h' g g' => ?_⟩
  · by_cases q : i = j
    · subst q
      by_cases hl : i < en.length
      · rw [List.getElem?_set_self hl] at h
        cases h
        exact ⟨v, List.getElem?_set_self (by rw [e.len]; exact hl), r⟩
      · rw [List.getElem?_eq_none (by rw [List.length_set]; omega)] at h
        cases h
    · rw [List.getElem?_set_ne q] at h
      obtain ⟨u, h1, h2⟩ := e.val j x h
      exact ⟨u, by rw [List.getElem?_set_ne q]; exact h1, h2⟩
  · by_cases q : i = j
    · subst q
      by_cases hl : i < en.length
      · rw [List.getElem?_set_self hl] at h
        cases h
      · rw [List.getElem?_eq_none (by rw [List.length_set]; omega)] at h
        cases h
    · rw [List.getElem?_set_ne q] at h
      obtain ⟨l, vs, h1, h2⟩ := e.own j xs h
      exact ⟨l, vs, by rw [List.getElem?_set_ne q]; exact h1, h2⟩
  · have ne : ∀ {j : Nat} {xs : List D}, (en.set i (.val d))[j]? = some (.own xs) → i ≠ j := fun {j xs} h q => by
      subst q
      by_cases hl : i < en.length
      · rw [List.getElem?_set_self hl] at h
        cases h
      · rw [List.getElem?_eq_none (by rw [List.length_set]; omega)] at h
        cases h
    have n1 := ne h
    have n2 := ne h'
    rw [List.getElem?_set_ne n1] at h g
    rw [List.getElem?_set_ne n2] at h' g'
    exact e.sep j j' xs ys l h h' g g'
/-- the frame's own lists after a target took its value: those that were there -/
def OwnSub (en en' : En) : Prop := ∀ (i : Nat) (xs : List D), en'[i]? = some (Sl.own xs) → en[i]? = some (Sl.own xs)
theorem OwnSub.refl (en : En) : OwnSub en en := fun _ _ h => h
theorem OwnSub.trans {a b d : En} (x : OwnSub a b) (y : OwnSub b d) : OwnSub a d := fun i xs h => x i xs (y i xs h)
theorem ownSub_set {en : En} {i : Nat} {d : D} : OwnSub en (en.set i (.val d)) := fun j xs h => by
  by_cases q : i = j
  · subst q
    by_cases hl : i < en.length
    · rw [List.getElem?_set_self hl] at h
      cases h
    · rw [List.getElem?_eq_none (by rw [List.length_set]; omega)] at h
      cases h
  · rw [List.getElem?_set_ne q] at h
    exact h
/-- slots that a target does not name stay -/
def Kept (own : List Nat) (σ σ' : L2.St) : Prop := σ'.length = σ.length ∧ ∀ i, i ∉ own → σ'[i]? = σ[i]?
theorem Kept.refl (own : List Nat) (σ : L2.St) : Kept own σ σ := ⟨rfl, fun _ _ => rfl⟩
theorem Kept.trans {own : List Nat} {a b d : L2.St} (x : Kept own a b) (y : Kept own b d) : Kept own a d := ⟨y.1.trans x.1, fun i h => (y.2 i h).trans (x.2 i h)⟩
theorem Kept.set {own : List Nat} {σ : L2.St} {i : Nat} {x : Option V} (h : i ∈ own) : Kept own σ (σ.set i x) := ⟨List.length_set, fun j hj => List.getElem?_set_ne (fun q : i = j => hj (by rw [← q]; exact h))⟩
theorem wipe_get {σ : L2.St} {i : Nat} : ∀ {vs : List Nat}, i ∈ vs → i < σ.length → (wipe σ vs)[i]? = some none
  | [], h, _ => by cases h
  | v :: vs, h, hl => by
    unfold wipe
    by_cases q : v = i
    · subst q
      exact List.getElem?_set_self (by rw [wipe_length]; exact hl)
    · rw [List.getElem?_set_ne q]
      rcases List.mem_cons.mp h with e | e
      · exact absurd e.symm q
      · exact wipe_get e hl
theorem wipe_kept {σ σ' : L2.St} {vs : List Nat} (h : Kept vs σ σ') : wipe σ' vs = wipe σ vs := by
  apply List.ext_getElem?
  intro i
  by_cases hi : i ∈ vs
  · by_cases hl : i < σ.length
    · rw [wipe_get hi hl, wipe_get hi (by rw [h.1]; exact hl)]
    · rw [List.getElem?_eq_none (by rw [wipe_length, h.1]; omega), List.getElem?_eq_none (by rw [wipe_length]; omega)]
  · rw [wipe_out hi, wipe_out hi]
    exact h.2 i hi
theorem wipe_wipe {σ : L2.St} {vs : List Nat} : wipe (wipe σ vs) vs = wipe σ vs := wipe_kept ⟨wipe_length σ vs, fun i h => wipe_out h⟩
theorem wipeEn_len (en : En) : ∀ vs : List Nat, (wipeEn en vs).length = en.length
  | [] => rfl
  | v :: vs => by
    unfold wipeEn
    rw [List.length_set, wipeEn_len en vs]
theorem wipeEn_some {en : En} {i : Nat} {s : Sl} (hs : s ≠ .un) : ∀ {vs : List Nat}, (wipeEn en vs)[i]? = some s → en[i]? = some s ∧ i ∉ vs
  | [], h => ⟨h, by simp⟩
  | v :: vs, h => by
    unfold wipeEn at h
    by_cases q : v = i
    · subst q
      by_cases hl : v < (wipeEn en vs).length
      · rw [List.getElem?_set_self hl] at h
        cases h
        exact absurd rfl hs
      · rw [List.getElem?_eq_none (by rw [List.length_set]; omega)] at h
        cases h
    · rw [List.getElem?_set_ne q] at h
      obtain ⟨h1, h2⟩ := wipeEn_some hs h
      exact ⟨h1, fun z => (List.mem_cons.mp z).elim (fun e => q e.symm) h2⟩
theorem EnOk.wipe {c : Ct} {w : Wd} {H : Hp} {st : Sto} {en : En} {σ : L2.St} (e : EnOk c w H st en σ) (vs : List Nat) : EnOk c w H st (wipeEn en vs) (wipe σ vs) := by
  refine ⟨by rw [wipe_length, wipeEn_len]; exact e.len, fun i d h => ?_, fun i xs h => ?_, fun i j xs ys l h h' g g' => ?_⟩
  · obtain ⟨h1, h2⟩ := wipeEn_some (s := .val d) (fun z => nomatch z) h
    rw [wipe_out h2]
    exact e.val i d h1
  · obtain ⟨h1, h2⟩ := wipeEn_some (s := .own xs) (fun z => nomatch z) h
    rw [wipe_out h2]
    exact e.own i xs h1
  · obtain ⟨h1, h2⟩ := wipeEn_some (s := .own xs) (fun z => nomatch z) h
    obtain ⟨h1', h2'⟩ := wipeEn_some (s := .own ys) (fun z => nomatch z) h'
    rw [wipe_out h2] at g
    rw [wipe_out h2'] at g'
    exact e.sep i j xs ys l h1 h1' g g'
section
variable {b : Bs} {n : Nat} {k : Eb} {X : Cx} {W : WX}
/-- what a target's reading is given -/
def gP (c : Ct) (p : Pt) : TG := fun v σ H Q => ∃ (w : Wd) (st : Sto) (en : En) (d : D) (en1 : En), Rel c w H st ∧ EnOk c w H st en σ ∧ Rep c w d v ∧ takeP p d en = some en1 ∧
  ∀ σ', EnOk c w H st en1 σ' → OwnSub en en1 → (∀ (i : Nat) (xs : List D), en1[i]? = some (Sl.own xs) → σ'[i]? = σ[i]?) → (∀ own, p.in own = true → Kept own σ σ') → Q σ' H
theorem pg_weak {tg : Expr} {t t' : TG} (h : PG X tg t) (i : ∀ v σ H Q, t' v σ H Q → t v σ H Q) : PG X tg t' := ⟨fun pins s σ H v u Q I r q => h.run pins s σ H v u Q I r (i v σ H Q q)⟩
theorem embP_form {p : Pt} {e : Expr} (h : embP k p e = true) : (∃ x q, e = .Name x q) ∨ ∃ es j q, e = .Tuple es j q := by
  cases e with
  | Name x q => exact .inl ⟨x, q, rfl⟩
  | Tuple es j q => exact .inr ⟨es, j, q, rfl⟩
  | _ => cases p <;> simp [embP] at h
theorem embP_each {p : Pt} {e : Expr} (h : embP k p e = true) (es : List Expr) (env : Env) : assignEach (e :: es) env = (false, assign e env) :: assignEach es env := by
  rcases embP_form h with ⟨x, q, rfl⟩ | ⟨as, j, q, rfl⟩ <;> rfl
theorem own_set_get {en : En} {i : Nat} {d : D} {σ : L2.St} {v : V} {j : Nat} {xs : List D} (h : (en.set i (.val d))[j]? = some (.own xs)) : (σ.set i (some v))[j]? = σ[j]? := by
  by_cases q : i = j
  · subst q
    by_cases hl : i < en.length
    · rw [List.getElem?_set_self hl] at h
      cases h
    · rw [List.getElem?_eq_none (by rw [List.length_set]; omega)] at h
      cases h
  · rw [List.getElem?_set_ne q]
/-- two parts of a target, one behind the other -/
theorem gP_two {c : Ct} {p : Pt} {w : Wd} {H : Hp} {st : Sto} {en en2 : En} {σ : L2.St} {x y : D} {v u : V} {Q : L2.St → Hp → Prop} (hr : Rel c w H st) (he : EnOk c w H st en σ) (rx : Rep c w x v) (ry : Rep c w y u) {f : En → Option En}
    (ht : ((takeP p x en).bind f) = some en2)
    (k : ∀ en1 σ', takeP p x en = some en1 → f en1 = some en2 → EnOk c w H st en1 σ' → OwnSub en en1 → (∀ (i : Nat) (xs : List D), en1[i]? = some (Sl.own xs) → σ'[i]? = σ[i]?) → (∀ own, p.in own = true → Kept own σ σ') → Q σ' H) : gP c p v σ H Q := by
  obtain ⟨en1, h1, h2⟩ := Option.bind_eq_some_iff.mp ht
  exact ⟨w, st, en, x, en1, hr, he, rx, h1, fun σ' a b d e => k en1 σ' h1 h2 a b d e⟩
theorem g_ok (hX : XOk b n k X W) : ∀ {p : Pt} {e : Expr}, embP k p e = true → PG X e (gP b.c p)
  | .nm i, .Name x q, h => by
    obtain ⟨h1, h2⟩ := to_ok (show k.to i x = true from h)
    obtain ⟨l1, l2⟩ := hX.loc x h2
    refine pg_weak (pg_name (i := i) hX.nd (by rw [hX.N]; exact h1) l1 l2) fun v σ H Q q => ?_
    obtain ⟨w, st, en, d, en1, hr, he, r, ht, q⟩ := q
    have e1 : en.set i (.val d) = en1 := Option.some.inj ht
    subst e1
    exact q _ (he.set i r) ownSub_set (fun j xs hj => own_set_get hj) fun own ho => Kept.set (List.contains_iff_mem.mp ho)
  | .tp p1 p2, .Tuple [e, f] j q, h => by
    obtain ⟨h1, h2⟩ := Bool.and_eq_true_iff.mp (show (embP k p1 e && embP k p2 f) = true from h)
    have g1 := g_ok hX h1
    have g2 := g_ok hX h2
    have a1 : assignEach [e, f] X.env = (false, assign e X.env) :: (false, assign f X.env) :: [] := by rw [embP_each h1, embP_each h2]; rfl
    have a2 : assignEach [f] X.env = (false, assign f X.env) :: [] := by rw [embP_each h2]; rfl
    refine pg_weak (pg_tup (n := 2) hX.calm (pgs_cons g1 (pgs_cons g2 pgs_nil (by rw [a2]; rfl)) (by rw [a1, a2]; rfl)) (by rw [a1]; rfl) (by rw [a1]; rfl)) fun v σ H Q q => ?_
    obtain ⟨w, st, en, d, en2, hr, he, r, ht, q⟩ := q
    obtain ⟨x, y, rfl, ht⟩ : ∃ x y, d = .tup [x, y] ∧ ((takeP p1 x en).bind (takeP p2 y)) = some en2 := by
      cases d with
      | tup xs =>
        match xs, ht with
        | [x, y], ht => exact ⟨x, y, rfl, ht⟩
        | [], ht => cases ht
        | [_], ht => cases ht
        | _ :: _ :: _ :: _, ht => cases ht
      | _ => cases ht
    obtain ⟨a, vs, rfl, s, t⟩ := rep_tup r
    obtain ⟨v1, r1, rfl, t1, t⟩ := reps_cons t
    obtain ⟨v2, r2, rfl, t2, t⟩ := reps_cons t
    have e3 := reps_nil t
    subst e3
    rw [hX.K]
    refine ⟨a, [v1, v2], rfl, hr.ex.t s, rfl, v1, [v2], rfl, gP_two hr he t1 t2 ht fun en1 σ1 q1 q2 he1 os1 sl1 kp1 => ?_⟩
    refine ⟨v2, [], rfl, w, st, en1, y, en2, hr, he1, t2, q2, fun σ2 he2 os2 sl2 kp2 => ⟨rfl, ?_⟩⟩
    refine q σ2 he2 (os1.trans os2) (fun i xs hi => (sl2 i xs hi).trans (sl1 i xs (os2 i xs hi))) fun own ho => ?_
    obtain ⟨o1, o2⟩ := Bool.and_eq_true_iff.mp (show (p1.in own && p2.in own) = true from ho)
    exact (kp1 own o1).trans (kp2 own o2)
  | .tp3 p1 p2 p3, .Tuple [e, f, g] j q, h => by
    obtain ⟨h1, h'⟩ := Bool.and_eq_true_iff.mp (show (embP k p1 e && (embP k p2 f && embP k p3 g)) = true from h)
    obtain ⟨h2, h3⟩ := Bool.and_eq_true_iff.mp h'
    have g1 := g_ok hX h1
    have g2 := g_ok hX h2
    have g3 := g_ok hX h3
    have a1 : assignEach [e, f, g] X.env = (false, assign e X.env) :: (false, assign f X.env) :: (false, assign g X.env) :: [] := by rw [embP_each h1, embP_each h2, embP_each h3]; rfl
    have a2 : assignEach [f, g] X.env = (false, assign f X.env) :: (false, assign g X.env) :: [] := by rw [embP_each h2, embP_each h3]; rfl
    have a3 : assignEach [g] X.env = (false, assign g X.env) :: [] := by rw [embP_each h3]; rfl
    refine pg_weak (pg_tup (n := 3) hX.calm (pgs_cons g1 (pgs_cons g2 (pgs_cons g3 pgs_nil (by rw [a3]; rfl)) (by rw [a2, a3]; rfl)) (by rw [a1, a2]; rfl)) (by rw [a1]; rfl) (by rw [a1]; rfl)) fun v σ H Q q => ?_
    obtain ⟨w, st, en, d, en3, hr, he, r, ht, q⟩ := q
    obtain ⟨x, y, z, rfl, ht⟩ : ∃ x y z, d = .tup [x, y, z] ∧ (((takeP p1 x en).bind (takeP p2 y)).bind (takeP p3 z)) = some en3 := by
      cases d with
      | tup xs =>
        match xs, ht with
        | [x, y, z], ht => exact ⟨x, y, z, rfl, ht⟩
        | [], ht => cases ht
        | [_], ht => cases ht
        | [_, _], ht => cases ht
        | _ :: _ :: _ :: _ :: _, ht => cases ht
      | _ => cases ht
    obtain ⟨en2, ht, q3⟩ := Option.bind_eq_some_iff.mp ht
    obtain ⟨a, vs, rfl, s, t⟩ := rep_tup r
    obtain ⟨v1, r1, rfl, t1, t⟩ := reps_cons t
    obtain ⟨v2, r2, rfl, t2, t⟩ := reps_cons t
    obtain ⟨v3, r3, rfl, t3, t⟩ := reps_cons t
    have e3 := reps_nil t
    subst e3
    rw [hX.K]
    refine ⟨a, [v1, v2, v3], rfl, hr.ex.t s, rfl, v1, [v2, v3], rfl, gP_two hr he t1 t2 ht fun en1 σ1 q1 q2 he1 os1 sl1 kp1 => ?_⟩
    refine ⟨v2, [v3], rfl, w, st, en1, y, en2, hr, he1, t2, q2, fun σ2 he2 os2 sl2 kp2 => ?_⟩
    refine ⟨v3, [], rfl, w, st, en2, z, en3, hr, he2, t3, q3, fun σ3 he3 os3 sl3 kp3 => ⟨rfl, ?_⟩⟩
    refine q σ3 he3 ((os1.trans os2).trans os3) (fun i xs hi => (sl3 i xs hi).trans ((sl2 i xs (os3 i xs hi)).trans (sl1 i xs (os2 i xs (os3 i xs hi))))) fun own ho => ?_
    obtain ⟨o1, o'⟩ := Bool.and_eq_true_iff.mp (show (p1.in own && (p2.in own && p3.in own)) = true from ho)
    obtain ⟨o2, o3⟩ := Bool.and_eq_true_iff.mp o'
    exact ((kp1 own o1).trans (kp2 own o2)).trans (kp3 own o3)
  | .tp4 p1 p2 p3 p4, .Tuple [e, f, g, g'] j q, h => by
    obtain ⟨h1, h'⟩ := Bool.and_eq_true_iff.mp (show (embP k p1 e && (embP k p2 f && (embP k p3 g && embP k p4 g'))) = true from h)
    obtain ⟨h2, h'⟩ := Bool.and_eq_true_iff.mp h'
    obtain ⟨h3, h4⟩ := Bool.and_eq_true_iff.mp h'
    have g1 := g_ok hX h1
    have g2 := g_ok hX h2
    have g3 := g_ok hX h3
    have g4 := g_ok hX h4
    have a1 : assignEach [e, f, g, g'] X.env = (false, assign e X.env) :: (false, assign f X.env) :: (false, assign g X.env) :: (false, assign g' X.env) :: [] := by rw [embP_each h1, embP_each h2, embP_each h3, embP_each h4]; rfl
    have a2 : assignEach [f, g, g'] X.env = (false, assign f X.env) :: (false, assign g X.env) :: (false, assign g' X.env) :: [] := by rw [embP_each h2, embP_each h3, embP_each h4]; rfl
    have a3 : assignEach [g, g'] X.env = (false, assign g X.env) :: (false, assign g' X.env) :: [] := by rw [embP_each h3, embP_each h4]; rfl
    have a4 : assignEach [g'] X.env = (false, assign g' X.env) :: [] := by rw [embP_each h4]; rfl
    refine pg_weak (pg_tup (n := 4) hX.calm (pgs_cons g1 (pgs_cons g2 (pgs_cons g3 (pgs_cons g4 pgs_nil (by rw [a4]; rfl)) (by rw [a3, a4]; rfl)) (by rw [a2, a3]; rfl)) (by rw [a1, a2]; rfl)) (by rw [a1]; rfl) (by rw [a1]; rfl)) fun v σ H Q q => ?_
    obtain ⟨w, st, en, d, en4, hr, he, r, ht, q⟩ := q
    obtain ⟨x, y, z, u, rfl, ht⟩ : ∃ x y z u, d = .tup [x, y, z, u] ∧ ((((takeP p1 x en).bind (takeP p2 y)).bind (takeP p3 z)).bind (takeP p4 u)) = some en4 := by
      cases d with
      | tup xs =>
        match xs, ht with
        | [x, y, z, u], ht => exact ⟨x, y, z, u, rfl, ht⟩
        | [], ht => cases ht
        | [_], ht => cases ht
        | [_, _], ht => cases ht
        | [_, _, _], ht => cases ht
        | _ :: _ :: _ :: _ :: _ :: _, ht => cases ht
      | _ => cases ht
    obtain ⟨en3, ht, q4⟩ := Option.bind_eq_some_iff.mp ht
    obtain ⟨en2, ht, q3⟩ := Option.bind_eq_some_iff.mp ht
    obtain ⟨a, vs, rfl, s, t⟩ := rep_tup r
    obtain ⟨v1, r1, rfl, t1, t⟩ := reps_cons t
    obtain ⟨v2, r2, rfl, t2, t⟩ := reps_cons t
    obtain ⟨v3, r3, rfl, t3, t⟩ := reps_cons t
    obtain ⟨v4, r4, rfl, t4, t⟩ := reps_cons t
    have e3 := reps_nil t
    subst e3
    rw [hX.K]
    refine ⟨a, [v1, v2, v3, v4], rfl, hr.ex.t s, rfl, v1, [v2, v3, v4], rfl, gP_two hr he t1 t2 ht fun en1 σ1 q1 q2 he1 os1 sl1 kp1 => ?_⟩
    refine ⟨v2, [v3, v4], rfl, w, st, en1, y, en2, hr, he1, t2, q2, fun σ2 he2 os2 sl2 kp2 => ?_⟩
    refine ⟨v3, [v4], rfl, w, st, en2, z, en3, hr, he2, t3, q3, fun σ3 he3 os3 sl3 kp3 => ?_⟩
    refine ⟨v4, [], rfl, w, st, en3, u, en4, hr, he3, t4, q4, fun σ4 he4 os4 sl4 kp4 => ⟨rfl, ?_⟩⟩
    refine q σ4 he4 (((os1.trans os2).trans os3).trans os4) (fun i xs hi => (sl4 i xs hi).trans ((sl3 i xs (os4 i xs hi)).trans ((sl2 i xs (os3 i xs (os4 i xs hi))).trans (sl1 i xs (os2 i xs (os3 i xs (os4 i xs hi))))))) fun own ho => ?_
    obtain ⟨o1, o'⟩ := Bool.and_eq_true_iff.mp (show (p1.in own && (p2.in own && (p3.in own && p4.in own))) = true from ho)
    obtain ⟨o2, o'⟩ := Bool.and_eq_true_iff.mp o'
    obtain ⟨o3, o4⟩ := Bool.and_eq_true_iff.mp o'
    exact (((kp1 own o1).trans (kp2 own o2)).trans (kp3 own o3)).trans (kp4 own o4)
end
end T

/-! T8: what is walked; comprehensions. -/
namespace T
open PySem PySem.Spec PyProof.Rows L2
/-- the items of a walk are these, as long as what is frozen at w1 is so -/
structure Wk (c : Ct) (w1 : Wd) (xs : List D) (J : L2.It) : Prop where
  go : ∀ (w : Wd) (H : Hp) (st : Sto) (i : Nat), w1.le w → Rel c w H st → i < xs.length → J.go i H
  stop : ∀ (w : Wd) (H : Hp) (st : Sto) (i : Nat), w1.le w → Rel c w H st → xs.length ≤ i → J.stop i H
  yld : ∀ (w : Wd) (H : Hp) (st : Sto) (i : Nat) (x : V) (H' : Hp) (d : D), w1.le w → Rel c w H st → xs[i]? = some d → J.yld i H x H' → ∃ w', Post c w H st w' H' st ∧ Rep c w' d x
def rI (c : Ct) : RepT (List D) L2.It := fun _ w' _ _ xs J => Wk c w' xs J
abbrev tI (b : Bs) (n : Nat) (W : WX) (e : It) : TI := tG b.c W (rI b.c) (evI (gOf b n) e)
theorem pi_weak {X : Cx} {tg e : Expr} {t t' : TI} (h : PI X tg e t) (i : ∀ σ H Q, t' σ H Q → t σ H Q) : PI X tg e t' := ⟨fun pins s σ H Q I q => h.run pins s σ H Q I (i σ H Q q)⟩
theorem pi_or {X : Cx} {tg e : Expr} {t t' : TI} (h : PI X tg e t) (h' : PI X tg e t') : PI X tg e (fun σ H R => t σ H R ∨ t' σ H R) := ⟨fun pins s σ H Q I q => q.elim (h.run pins s σ H Q I) (h'.run pins s σ H Q I)⟩
theorem reps_lt {c : Ct} {w : Wd} {ds : List D} {vs : List V} (t : Reps c w ds vs) {i : Nat} (h : i < ds.length) : ∃ v, vs[i]? = some v := ⟨_, List.getElem?_eq_getElem (by rw [t.len]; exact h)⟩
theorem wk_list {c : Ct} {w1 : Wd} {ds : List D} {vs : List V} {a : Addr} (s : SqL c.K w1.I a vs) (t : Reps c w1 ds vs) : Wk c w1 ds (Itl c.K a) where
  go := fun w H st i l r h => by
    obtain ⟨v, hv⟩ := reps_lt t h
    exact ⟨vs, v, r.ex.l (l.ex.l s), hv⟩
  stop := fun w H st i l r h => ⟨vs, r.ex.l (l.ex.l s), by rw [t.len]; exact h⟩
  yld := fun w H st i x H' d l r h y => by
    obtain ⟨rfl, y⟩ := y
    obtain ⟨v, h1, h2⟩ := t.get h
    have e := (y vs (r.ex.l (l.ex.l s))).symm.trans h1
    cases e
    exact ⟨w, .refl r, Rep.mono l h2⟩
theorem wk_tup {c : Ct} {w1 : Wd} {ds : List D} {vs : List V} {a : Addr} (s : SqT c.K w1.I a vs) (t : Reps c w1 ds vs) : Wk c w1 ds (Itt c.K a) where
  go := fun w H st i l r h => by
    obtain ⟨v, hv⟩ := reps_lt t h
    exact ⟨vs, v, r.ex.t (l.ex.t s), hv⟩
  stop := fun w H st i l r h => ⟨vs, r.ex.t (l.ex.t s), by rw [t.len]; exact h⟩
  yld := fun w H st i x H' d l r h y => by
    obtain ⟨rfl, y⟩ := y
    obtain ⟨v, h1, h2⟩ := t.get h
    have e := (y vs (r.ex.t (l.ex.t s))).symm.trans h1
    cases e
    exact ⟨w, .refl r, Rep.mono l h2⟩
theorem range_get {α : Type} {m i : Nat} {f : Nat → α} {d : α} (h : ((List.range m).map f)[i]? = some d) : i < m ∧ d = f i := by
  rw [List.getElem?_map] at h
  obtain ⟨j, h1, h2⟩ := Option.map_eq_some_iff.mp h
  obtain ⟨h3, h4⟩ := List.getElem?_eq_some_iff.mp h1
  rw [List.length_range] at h3
  rw [List.getElem_range] at h4
  exact ⟨h3, by rw [← h2, h4]⟩
theorem wk_range {c : Ct} {w1 : Wd} {lo : Int} {m : Nat} : Wk c w1 ((List.range m).map fun (k : Nat) => .int (lo + k)) (Itr lo m) where
  go := fun w H st i l r h => by
    rw [List.length_map, List.length_range] at h
    exact h
  stop := fun w H st i l r h => by
    rw [List.length_map, List.length_range] at h
    exact h
  yld := fun w H st i x H' d l r h y => by
    obtain ⟨rfl, rfl⟩ := y
    obtain ⟨_, rfl⟩ := range_get h
    exact ⟨w, .refl r, mk_int⟩
theorem wk_enum {c : Ct} {w1 : Wd} {ds : List D} {vs : List V} {a : Addr} (s : SqL c.K w1.I a vs) (t : Reps c w1 ds vs) : Wk c w1 (ds.mapIdx fun k d => .tup [.int (k : Nat), d]) (Ite c.K a) where
  go := fun w H st i l r h => by
    rw [List.length_mapIdx] at h
    obtain ⟨v, hv⟩ := reps_lt t h
    exact ⟨vs, v, r.ex.l (l.ex.l s), hv⟩
  stop := fun w H st i l r h => by
    rw [List.length_mapIdx] at h
    exact ⟨vs, r.ex.l (l.ex.l s), by rw [t.len]; exact h⟩
  yld := fun w H st i x H' d l r h y => by
    obtain ⟨T, u, rfl, hT, rfl, y⟩ := y
    rw [List.getElem?_mapIdx] at h
    obtain ⟨d', h0, rfl⟩ := Option.map_eq_some_iff.mp h
    obtain ⟨v, h1, h2⟩ := t.get h0
    have e := (y vs (r.ex.l (l.ex.l s))).symm.trans h1
    cases e
    have hI : w.I T = none := r.ex.none hT
    refine ⟨_, Post.frz (Post.new r hT) hT upd_same hI (r.cne hT), ?_⟩
    unfold Rep
    exact ⟨T, _, rfl, SqT.of upd_same, mk_cons mk_int (mk_cons (Rep.mono (l.trans (le_frz hI)) h2) mk_nil)⟩
section
variable {b : Bs} {n : Nat} {k : Eb} {X : Cx} {W : WX} {tg : Expr}
theorem i_rng1 (B : b.Ok) (hX : XOk b n k X W) {a : Ep} {e : Expr} {y : Str} {p pos : Pos} (hg : k.gl "range" y = true) (ha : PE X e (tE b n W a)) (hs : ∀ (as : List Expr) (env : Env), starEach (e :: as) env = (false, eval e env) :: starEach as env) :
    PI X tg (.Call (.Name y p) [e] [] pos) (tI b n W (.rng1 a)) := by
  obtain ⟨rfl, hg⟩ := gl_ok hg
  refine pi_weak (pi_range1 (hX.gl _ hg) (gl_free B hX (by decide)) (pa_cons ha pa_nil (hs _ _)) (hs _ _)) fun σ H Q q => ?_
  obtain ⟨w, st, en, hr, he, q⟩ := q
  refine tG_bind hr he q fun x d1 w1 H1 st1 e1 p1 he1 r1 q1 => ?_
  cases d1 with
  | int j =>
    have q1 : Sat b.c (fun _ => rI b.c H) w1 H1 st1 (if -4611686018427387904 ≤ j ∧ j < 4611686018427387904 then .ok ((List.range j.toNat).map fun (k : Nat) => .int k) st1 else .stk) Q _ := q1
    split at q1
    · rename_i hl
      have p62 : (2 : Int) ^ 62 = 4611686018427387904 := by decide
      refine ⟨j, by rw [rep_int r1], by rw [p62]; exact hl.1, by rw [p62]; exact hl.2, Sat.ok q1 p1.rel ?_⟩
      show Wk b.c w1 _ _
      have e : ((List.range j.toNat).map fun (k : Nat) => D.int k) = ((List.range j.toNat).map fun (k : Nat) => D.int (0 + (k : Int))) := by simp
      rw [e]
      exact wk_range
    · exact q1.elim
  | _ => exact q1.elim
theorem i_rng2 (B : b.Ok) (hX : XOk b n k X W) {a d : Ep} {e f : Expr} {y : Str} {p pos : Pos} (hg : k.gl "range" y = true) (ha : PE X e (tE b n W a)) (hd : PE X f (tE b n W d)) (hs : ∀ (as : List Expr) (env : Env), starEach (e :: as) env = (false, eval e env) :: starEach as env)
    (hs2 : ∀ (as : List Expr) (env : Env), starEach (f :: as) env = (false, eval f env) :: starEach as env) : PI X tg (.Call (.Name y p) [e, f] [] pos) (tI b n W (.rng2 a d)) := by
  obtain ⟨rfl, hg⟩ := gl_ok hg
  refine pi_weak (pi_range2 (hX.gl _ hg) (gl_free B hX (by decide)) (pa_cons ha (pa_cons hd pa_nil (hs2 _ _)) (hs _ _)) (by rw [hs, hs2]; rfl) (hs2 _ _)) fun σ H Q q => ?_
  obtain ⟨w, st, en, hr, he, q⟩ := q
  refine tG_bind hr he q fun x d1 w1 H1 st1 e1 p1 he1 r1 q1 => ?_
  refine tG_bind p1.rel he1 q1 fun y d2 w2 H2 st2 e2 p2 he2 r2 q2 => ?_
  cases d1 with
  | int i =>
    cases d2 with
    | int j =>
      have q2 : Sat b.c (fun _ => rI b.c H) w2 H2 st2 (if -4611686018427387904 ≤ i ∧ i < 4611686018427387904 ∧ -4611686018427387904 ≤ j ∧ j < 4611686018427387904 then .ok ((List.range (j - i).toNat).map fun (k : Nat) => .int (i + k)) st2 else .stk) Q _ := q2
      split at q2
      · rename_i hl
        have p62 : (2 : Int) ^ 62 = 4611686018427387904 := by decide
        exact ⟨i, j, by rw [rep_int r1, rep_int r2], by rw [p62]; exact hl, Sat.ok q2 p2.rel wk_range⟩
      · exact q2.elim
    | _ => exact q2.elim
  | _ => exact q2.elim
theorem i_seq (hX : XOk b n k X W) {a : Ep} {e : Expr} (ha : PE X e (tE b n W a)) : PI X tg e (tI b n W (.seq a)) := by
  refine pi_weak (pi_or (pi_list ha) (pi_tup ha)) fun σ H Q q => ?_
  obtain ⟨w, st, en, hr, he, q⟩ := q
  have q : Sat b.c (rI b.c) w H st ((evE (gOf b n) a en st).bind fun x st => match x with
    | .lst xs => .ok xs st
    | .tup xs => .ok xs st
    | _ => .stk) Q fun k H' => W (.ref (b.c.cA k)) none σ H' := q
  cases e1 : evE (gOf b n) a en st with
  | stk =>
    rw [e1] at q
    exact q.elim
  | exc i s1 =>
    refine .inl ⟨w, st, en, hr, he, ?_⟩
    rw [e1] at q ⊢
    exact q
  | ok d s1 =>
    rw [e1] at q
    cases d with
    | lst xs =>
      refine .inl ⟨w, st, en, hr, he, ?_⟩
      rw [e1]
      intro x w1 H1 p1 r1
      obtain ⟨l, vs, rfl, s, t⟩ := rep_lst r1
      exact ⟨l, rfl, ⟨vs, by rw [hX.K]; exact p1.rel.ex.l s⟩, by rw [hX.K]; exact q _ w1 H1 p1 (wk_list s t)⟩
    | tup xs =>
      refine .inr ⟨w, st, en, hr, he, ?_⟩
      rw [e1]
      intro x w1 H1 p1 r1
      obtain ⟨l, vs, rfl, s, t⟩ := rep_tup r1
      exact ⟨l, rfl, ⟨vs, by rw [hX.K]; exact p1.rel.ex.t s⟩, by rw [hX.K]; exact q _ w1 H1 p1 (wk_tup s t)⟩
    | _ => exact q.elim
theorem i_enu (B : b.Ok) (hX : XOk b n k X W) {a : Ep} {e : Expr} {y : Str} {p pos tpos : Pos} {elts : List Expr} {kk : Nat} (hg : k.gl "enumerate" y = true) (ha : PE X e (tE b n W a)) (hs : ∀ (as : List Expr) (env : Env), starEach (e :: as) env = (false, eval e env) :: starEach as env) :
    PI X (.Tuple elts kk tpos) (.Call (.Name y p) [e] [] pos) (tI b n W (.enu a)) := by
  obtain ⟨rfl, hg⟩ := gl_ok hg
  refine pi_weak (pi_enum (hX.gl _ hg) (gl_free B hX (by decide)) (pa_cons ha pa_nil (hs _ _)) (hs _ _)) fun σ H Q q => ?_
  obtain ⟨w, st, en, hr, he, q⟩ := q
  refine tG_bind hr he q fun x d1 w1 H1 st1 e1 p1 he1 r1 q1 => ?_
  cases d1 with
  | lst xs =>
    obtain ⟨l, vs, rfl, s, t⟩ := rep_lst r1
    rw [hX.K]
    exact ⟨l, vs, rfl, p1.rel.ex.l s, Sat.ok q1 p1.rel (wk_enum s t)⟩
  | _ => exact q1.elim

/-! ### comprehensions -/
abbrev W0 : WX := fun _ _ _ _ => False
theorem Post.mut {c : Ct} {w1 w : Wd} {H1 H : Hp} {st1 st : Sto} {p : Addr} {o : HO} (q : Post c w1 H1 st1 w H st) (hp : H1 p = none) (hI : w.I p = none) (hc : ¬ isCell w st p) : Post c w1 H1 st1 w (upd H p o) st := by
  refine ⟨q.le, ⟨q.rel.len, fun a u h => ?_, fun m x e => ?_, q.rel.inj⟩, fun a u h k => ?_, fun a h => ?_⟩
  · by_cases e : a = p
    · rw [e, hI] at h
      cases h
    · rw [upd_ne e]
      exact q.rel.ex a u h
  · obtain ⟨h1, h2⟩ := q.rel.cell m x e
    have ne : w.ρ m ≠ p := fun z => hc ⟨m, x, e, z⟩
    refine ⟨h1, ?_⟩
    cases x with
    | lst ds =>
      obtain ⟨vs, k, t⟩ := h2
      exact ⟨vs, by rw [upd_ne ne]; exact k, t⟩
    | ins i fs =>
      obtain ⟨dx, fvs, k, t⟩ := h2
      exact ⟨dx, fvs, by rw [upd_ne ne]; exact k, t⟩
  · obtain ⟨a1, a2, a3⟩ := q.keep a u h k
    exact ⟨by rw [upd_ne (ne_of_none h hp)]; exact a1, a2, a3⟩
  · by_cases e : a = p
    · rw [e, upd_same]
      intro z
      cases z
    · rw [upd_ne e]
      exact q.dom a h
end
/-! the context of a comprehension's block -/
theorem lookup_map2 {g : Str → NameKind → NameKind} {x : Str} : ∀ l : List (Str × NameKind), List.lookup x (l.map fun y => (y.1, g y.1 y.2)) = (List.lookup x l).map (g x)
  | [] => rfl
  | (m, q) :: r => by
    rw [List.map_cons, List.lookup_cons, List.lookup_cons]
    cases hx : (x == m) with
    | true =>
      have hm : x = m := beq_iff_eq.mp hx
      subst hm
      rfl
    | false => exact lookup_map2 r
def relK (env : Env) (n : Str) (k : NameKind) : NameKind := if (k == .free && env.scope.kind == .function && env.kindOf n == some .cell) = true then .cell else k
theorem relabel_get {scope : Scope} {env : Env} {x : Str} : (relabel scope env).names.lookup x = (scope.names.lookup x).map (relK env x) := by
  unfold relabel
  show List.lookup x (scope.names.map fun (n, k) => if (k == .free && env.scope.kind == .function && env.kindOf n == some .cell) = true then (n, NameKind.cell) else (n, k)) = _
  rw [← lookup_map2]
  congr 1
  apply List.map_congr_left
  intro y _
  obtain ⟨m, q⟩ := y
  show (if (q == .free && env.scope.kind == .function && env.kindOf m == some .cell) = true then (m, NameKind.cell) else (m, q)) = (m, relK env m q)
  unfold relK
  split <;> rfl
theorem relK_free (env : Env) (x : Str) : relK env x .free = .cell ∨ relK env x .free = .free := by
  unfold relK
  split
  · exact .inl rfl
  · exact .inr rfl
section
variable {b : Bs} {n : Nat} {k : Eb} {X : Cx} {W : WX}
theorem XOk.blk (hX : XOk b n k X W) {scope : Scope} {s : Shared} {H : Hp} {C : Addr} {cl : List (Str × Addr)} {fp : List Addr} : XOk b n { k with sc := scope } (X.blk s H scope (compEnvC scope cl C X.env) fp) W0 where
  P := hX.P
  w := hX.w
  K := hX.K
  mg := hX.mg
  base := hX.base
  N := hX.N
  nd := hX.nd
  vis := fun x h => by
    show Vis (relabel scope X.env) x
    have h2 : Vis scope x := visB_ok h
    unfold Vis
    rw [relabel_get]
    rcases h2 with e | e | e
    · rw [e]
      exact .inl rfl
    · rw [e]
      exact .inr (.inl rfl)
    · rw [e]
      show some (relK X.env x .free) = some .local ∨ some (relK X.env x .free) = some .cell ∨ some (relK X.env x .free) = some .free
      rcases relK_free X.env x with q | q
      · rw [q]
        exact .inr (.inl rfl)
      · rw [q]
        exact .inr (.inr rfl)
  gl := fun x h => by
    show (relabel scope X.env).names.lookup x = some .globalImplicit
    rw [relabel_get]
    have h : gloB scope x = true := h
    unfold gloB at h
    cases e : scope.names.lookup x with
    | none =>
      rw [e] at h
      cases h
    | some q =>
      rw [e] at h
      cases q with
      | globalImplicit => rfl
      | _ => cases h
  cf := fun x h => by
    show cfB (relabel scope X.env) x = true
    have h : cfB scope x = true := h
    unfold cfB at h ⊢
    rw [relabel_get]
    cases e : scope.names.lookup x with
    | none =>
      rw [e] at h
      cases h
    | some q =>
      rw [e] at h
      cases q with
      | cell => rfl
      | free =>
        show (match some (relK X.env x .free) with
          | some .cell => true
          | some .free => true
          | _ => false) = true
        rcases relK_free X.env x with q | q
        · rw [q]
        · rw [q]
      | _ => cases h
  loc := fun x h => by
    have h : locB scope x = true := h
    unfold locB at h
    show L2.Loc (relabel scope X.env) x ∧ ((scope.names.lookup x == some .cell) = true ∨ (relabel scope X.env).names.lookup x = some .local)
    unfold L2.Loc
    rw [relabel_get]
    cases e : scope.names.lookup x with
    | none =>
      rw [e] at h
      cases h
    | some q =>
      rw [e] at h
      cases q with
      | «local» => exact ⟨.inl rfl, .inr rfl⟩
      | cell => exact ⟨.inr rfl, .inl rfl⟩
      | _ => cases h
  calm := hX.calm
  tk := takes0
  pso := PassesOwn.never
  room := hX.room
  fn := hX.fn
  gn := hX.gn
  nf := hX.nf
  dbg := hX.dbg
  hot := hX.hot
  call := hX.call
/-- the block's names, by what the runtime's scope has -/
theorem blk_ok (hX : XOk b n k X W) {scope : Scope} {own : List (Str × Nat)} (h : blkC k.ns k.sc scope own = true) : BlkOk X.N X.env.scope scope own := by
  obtain ⟨a1, a2, a3, a4, a5⟩ := blkOk_by h
  refine ⟨a1, a2, by rw [hX.N]; exact a3, fun y hy e => ?_, by rw [hX.N]; exact a5⟩
  have hc : cfB k.sc y.1 = true := by
    unfold cfB
    rcases a4 y hy e with q | q
    · rw [q]
    · rw [q]
  have hc2 := hX.cf _ hc
  unfold cfB at hc2
  cases q : X.env.scope.names.lookup y.1 with
  | none =>
    rw [q] at hc2
    cases hc2
  | some z =>
    rw [q] at hc2
    cases z with
    | cell => exact .inl rfl
    | free => exact .inr rfl
    | _ => cases hc2
theorem slots_map (ns : List Str) (own : List Nat) : (own.map fun i => (ns.getD i "", i)).map (·.2) = own := by
  rw [List.map_map]
  exact List.map_id'' (fun _ => rfl) own
/-- a turn of a comprehension -/
abbrev Turn1 (b : Bs) (n : Nat) (own : List Nat) (p : Pt) (en : En) (tt : TT) (te : TE) (f : D → Sto → Res (Option D)) : Prop :=
  ∀ (x : D) (st : Sto) (o : Option D) (st' : Sto), f x st = .ok o st' → ∃ en1, takeP p x (wipeEn en own) = some en1 ∧
    ∀ (w : Wd) (H : Hp) (σ : L2.St) (R : Bool → Hp → Prop), Rel b.c w H st → EnOk b.c w H st en1 σ →
      (match o with
        | none => ∀ w1 H1, Post b.c w H st w1 H1 st' → R false H1
        | some d => ∀ w1 H1 st1, Post b.c w H st w1 H1 st1 → (∀ (Q : VK), (∀ y w2 H2, Post b.c w H st w2 H2 st' → Rep b.c w2 d y → Q y H2) → te σ H1 Q) → R true H1) → tt σ H R
theorem compL_cons {f : D → Sto → Res (Option D)} {x : D} {xs acc : List D} {st : Sto} {c : Ct} {α : Type} {w : Wd} {H H0 : Hp} {Q : VK} {E : Nat → Hp → Prop} {st1 : Sto} (h : Sat c (fun _ => rF c H0) w H st1 (compL f (x :: xs) acc st) Q E) :
    ∃ o st', f x st = .ok o st' ∧ (match o with
      | none => Sat c (fun _ => rF c H0) w H st1 (compL f xs acc st') Q E
      | some d => acc.length < lim ∧ Sat c (fun _ => rF c H0) w H st1 (compL f xs (acc ++ [d]) st') Q E) := by
  have h : Sat c (fun _ => rF c H0) w H st1 (match f x st with
    | .ok none st1 => compL f xs acc st1
    | .ok (some d) st1 => if acc.length < lim then compL f xs (acc ++ [d]) st1 else .stk
    | _ => .stk) Q E := h
  cases e : f x st with
  | stk =>
    rw [e] at h
    exact h.elim
  | exc i s =>
    rw [e] at h
    exact h.elim
  | ok o s =>
    rw [e] at h
    refine ⟨o, s, rfl, ?_⟩
    cases o with
    | none => exact h
    | some d =>
      have h : Sat c (fun _ => rF c H0) w H st1 (if acc.length < lim then compL f xs (acc ++ [d]) s else .stk) Q E := h
      split at h
      · rename_i hl
        exact ⟨hl, h⟩
      · exact h.elim
/-- the reading of a comprehension from its turns -/
theorem lc_read {own : List Nat} {p : Pt} {en : En} {tt : TT} {te : TE} {f : D → Sto → Res (Option D)} {xs : List D} {J : L2.It} {w1 : Wd} {H0 H1 : Hp} {st1 : Sto} {σ : L2.St} {Q : VK} {E : Nat → Hp → Prop} (ho : p.in own = true) (T : Turn1 b n own p en tt te f)
    (hr : Rel b.c w1 H1 st1) (he : EnOk b.c w1 H1 st1 en σ) (hd : ∀ a, H0 a ≠ none → H1 a ≠ none) (hW : Wk b.c w1 xs J) (h : Sat b.c (fun _ => rF b.c H0) w1 H1 st1 (compL f xs [] st1) Q E) :
    ∀ Dl, H1 Dl = none → ∃ W : Nat → Nat → Hp → Prop, (∃ m, W 0 m (upd H1 Dl (.lst []))) ∧ ∀ i m H, W i m H →
      (J.stop i H ∧ Q (.ref Dl) H) ∨ (J.go i H ∧ ∃ Nx : Hp → Prop, (∀ H', Nx H' → ∃ m', m' < m ∧ W (i + 1) m' H') ∧ ∀ x H', J.yld i H x H' → gP b.c p x (wipe σ own) H' fun σ2 H2 => wipe σ2 own = wipe σ own ∧ tt σ2 H2 fun b H3 =>
        if b = true then te σ2 H3 fun y H4 => ∃ acc, H4 Dl = some (.lst acc) ∧ acc.length < sizeLine ∧ Nx (upd H4 Dl (.lst (acc ++ [y]))) else Nx H3) := by
  intro Dl hD
  have hI1 : w1.I Dl = none := hr.ex.none hD
  let Pv : Nat → Hp → Prop := fun i H => ∃ (w : Wd) (st : Sto) (acc : List D) (vs : List V), Post b.c w1 H1 st1 w H st ∧ H Dl = some (.lst vs) ∧ Reps b.c w acc vs ∧ w.I Dl = none ∧ ¬ isCell w st Dl ∧
    Sat b.c (fun _ => rF b.c H0) w1 H1 st1 (compL f (xs.drop i) acc st) Q E
  refine ⟨fun i m H => m = xs.length - i ∧ i ≤ xs.length ∧ Pv i H, ⟨xs.length, by simp, Nat.zero_le _, w1, st1, [], [], Post.new hr hD, upd_same, mk_nil, hI1, hr.cne hD, h⟩, ?_⟩
  rintro i m H ⟨rfl, hi, w, st, acc, vs, po, g1, g2, g3, g4, q⟩
  by_cases hlt : i < xs.length
  · refine .inr ⟨hW.go w H st i po.le po.rel hlt, Pv (i + 1), fun H' p' => ⟨xs.length - (i + 1), by omega, rfl, hlt, p'⟩, fun x H' y => ?_⟩
    obtain ⟨w', po', rx⟩ := hW.yld w H st i x H' xs[i] po.le po.rel (List.getElem?_eq_getElem hlt) y
    rw [List.drop_eq_getElem_cons hlt] at q
    obtain ⟨o, st', ef, q⟩ := compL_cons (α := Unit) q
    obtain ⟨en1, ht, T1⟩ := T _ _ _ _ ef
    have po2 := po.trans po'
    have he2 := (he.post po2).wipe own
    refine ⟨w', st, wipeEn en own, xs[i], en1, po2.rel, he2, rx, ht, fun σ' he3 _ _ kp => ⟨?_, ?_⟩⟩
    · rw [wipe_kept (kp own ho), wipe_wipe]
    · refine T1 w' H' σ' _ po2.rel he3 ?_
      obtain ⟨k1, k2, k3⟩ := po'.keep Dl _ g1 g4
      cases o with
      | none =>
        intro w3 H3 po3
        obtain ⟨m1, m2, m3⟩ := po3.keep Dl _ k1 k3
        show (if false = true then _ else _)
        rw [if_neg (by decide)]
        exact ⟨w3, st', acc, vs, po2.trans po3, m1, Reps.mono (po'.le.trans po3.le) g2, m2.trans (k2.trans g3), m3, q⟩
      | some d =>
        intro w3 H3 st3 po3 hte
        show (if true = true then _ else _)
        rw [if_pos rfl]
        refine hte _ fun y w4 H4 po4 ry => ?_
        obtain ⟨m1, m2, m3⟩ := po4.keep Dl _ k1 k3
        have hI4 : w4.I Dl = none := m2.trans (k2.trans g3)
        have r4 : Reps b.c w4 acc vs := Reps.mono (po'.le.trans po4.le) g2
        exact ⟨vs, m1, by rw [r4.len]; exact q.1, w4, st', acc ++ [d], vs ++ [y], (po2.trans po4).mut hD hI4 m3, upd_same, r4.app (mk_cons ry mk_nil), hI4, m3, q.2⟩
  · have e : i = xs.length := by omega
    subst e
    rw [List.drop_length] at q
    refine .inl ⟨hW.stop w H st _ po.le po.rel (Nat.le_refl _), q _ w H po ⟨Dl, vs, rfl, ?_, g1, g2, g3, g4⟩⟩
    cases e : H0 Dl with
    | none => rfl
    | some o => exact absurd hD (hd Dl (by rw [e]; intro z; cases z))
theorem r_lc {own : List Nat} {e : Ep} {p : Pt} {i : It} (ho : p.in own = true) (σ : L2.St) (H : Hp) (Q : VK) (q : tF b n W (.lc own e p i) σ H Q) : tLc (tI b n W i) (gP b.c p) tYes (tE b n W0 e) own σ H Q := by
  obtain ⟨w, st, en, hr, hen, q⟩ := q
  refine tG_bind hr hen q fun J xs w1 H1 st1 e1 p1 he1 r1 q1 => ?_
  refine lc_read (b := b) (n := n) (en := en) ho ?_ p1.rel he1 p1.dom r1 q1
  intro x st2 o st3 hf
  have hf : (match takeP p x (wipeEn en own) with
    | some en1 => (evE (gOf b n) e en1 st2).bind fun d st => .ok (some d) st
    | none => .stk) = Res.ok o st3 := hf
  cases ht : takeP p x (wipeEn en own) with
  | none =>
    rw [ht] at hf
    cases hf
  | some en1 =>
    rw [ht] at hf
    refine ⟨en1, rfl, fun w2 H2 σ2 R hr2 he2 hR => ?_⟩
    have hf : ((evE (gOf b n) e en1 st2).bind fun d st => Res.ok (some d) st) = .ok o st3 := hf
    cases hv : evE (gOf b n) e en1 st2 with
    | stk =>
      rw [hv] at hf
      cases hf
    | exc i s =>
      rw [hv] at hf
      cases hf
    | ok d s =>
      rw [hv] at hf
      cases hf
      refine hR w2 H2 st2 (.refl hr2) fun Q2 hQ => ⟨w2, st2, en1, hr2, he2, ?_⟩
      rw [hv]
      exact fun y w3 H3 p3 r3 => hQ y w3 H3 p3 r3
theorem r_lcf {own : List Nat} {e : Ep} {t : Tx} {p : Pt} {i : It} (ho : p.in own = true) (σ : L2.St) (H : Hp) (Q : VK) (q : tF b n W (.lcf own e p i t) σ H Q) : tLc (tI b n W i) (gP b.c p) (tT b n W0 t) (tE b n W0 e) own σ H Q := by
  obtain ⟨w, st, en, hr, hen, q⟩ := q
  refine tG_bind hr hen q fun J xs w1 H1 st1 e1 p1 he1 r1 q1 => ?_
  refine lc_read (b := b) (n := n) (en := en) ho ?_ p1.rel he1 p1.dom r1 q1
  intro x st2 o st3 hf
  have hf : (match takeP p x (wipeEn en own) with
    | some en1 => (evT (gOf b n) t en1 st2).bind fun b' st => match b' with
      | true => (evE (gOf b n) e en1 st).bind fun d st => .ok (some d) st
      | false => .ok none st
    | none => .stk) = Res.ok o st3 := hf
  cases htk : takeP p x (wipeEn en own) with
  | none =>
    rw [htk] at hf
    cases hf
  | some en1 =>
    rw [htk] at hf
    refine ⟨en1, rfl, fun w2 H2 σ2 R hr2 he2 hR => ⟨w2, st2, en1, hr2, he2, ?_⟩⟩
    have hf : ((evT (gOf b n) t en1 st2).bind fun b' st => match b' with
      | true => (evE (gOf b n) e en1 st).bind fun d st => .ok (some d) st
      | false => .ok none st) = Res.ok o st3 := hf
    cases hv : evT (gOf b n) t en1 st2 with
    | stk =>
      rw [hv] at hf
      cases hf
    | exc i s =>
      rw [hv] at hf
      cases hf
    | ok t2 s =>
      rw [hv] at hf
      intro y w3 H3 p3 r3
      have r3 : y = t2 := r3
      subst r3
      cases y with
      | false =>
        cases hf
        exact hR w3 H3 p3
      | true =>
        have hf : ((evE (gOf b n) e en1 s).bind fun d st => Res.ok (some d) st) = .ok o st3 := hf
        cases hv2 : evE (gOf b n) e en1 s with
        | stk =>
          rw [hv2] at hf
          cases hf
        | exc i s =>
          rw [hv2] at hf
          cases hf
        | ok d s2 =>
          rw [hv2] at hf
          cases hf
          refine hR w3 H3 s p3 fun Q2 hQ => ⟨w3, s, en1, p3.rel, he2.post p3, ?_⟩
          rw [hv2]
          exact fun y w4 H4 p4 r4 => hQ y w4 H4 (p3.trans p4) r4
theorem f_lc (hX : XOk b n k X W) {own : List Nat} {e : Ep} {p : Pt} {i : It} {elt tg iter : Expr} {scope : Scope} {pos : Pos} (ho : p.in own = true) (hb : blkC k.ns k.sc scope (own.map fun i => (k.ns.getD i "", i)) = true) (hp : embP { k with sc := scope } p tg = true) (hi : PI X tg iter (tI b n W i))
    (he : ∀ (X' : Cx), XOk b n { k with sc := scope } X' W0 → PE X' elt (tE b n W0 e)) (hs : ∀ x, foldedSetIterable iter X.env x = pure x) : PE X (.ListComp elt [⟨tg, iter, [], 0⟩] scope pos) (tF b n W (.lc own e p i)) :=
  pe_weak (pe_lc (own := own.map fun i => (k.ns.getD i "", i)) hX.calm hX.nd hi (blk_ok hX hb) (fun s H C cl fp => g_ok hX.blk hp) (fun s H C cl fp => pts_nil) (fun s H C cl fp => he _ hX.blk) hs) fun σ H Q q => by
    rw [slots_map]
    exact r_lc ho σ H Q q
theorem f_lcf (hX : XOk b n k X W) {own : List Nat} {e : Ep} {t : Tx} {p : Pt} {i : It} {elt tg iter cond : Expr} {scope : Scope} {pos : Pos} (ho : p.in own = true) (hb : blkC k.ns k.sc scope (own.map fun i => (k.ns.getD i "", i)) = true) (hp : embP { k with sc := scope } p tg = true) (hi : PI X tg iter (tI b n W i))
    (he : ∀ (X' : Cx), XOk b n { k with sc := scope } X' W0 → PE X' elt (tE b n W0 e)) (ht : ∀ (X' : Cx), XOk b n { k with sc := scope } X' W0 → PT X' cond (tT b n W0 t)) (hs : ∀ x, foldedSetIterable iter X.env x = pure x) :
    PE X (.ListComp elt [⟨tg, iter, [cond], 0⟩] scope pos) (tF b n W (.lcf own e p i t)) :=
  pe_weak (pe_lc (own := own.map fun i => (k.ns.getD i "", i)) hX.calm hX.nd hi (blk_ok hX hb) (fun s H C cl fp => g_ok hX.blk hp) (fun s H C cl fp => pts_one (ht _ hX.blk)) (fun s H C cl fp => he _ hX.blk) hs) fun σ H Q q => by
    rw [slots_map]
    exact r_lcf ho σ H Q q
end
end T

/-! T9: statements. -/
namespace T
open PySem PySem.Spec PyProof.Rows L2
/-- from the def's start (w0, H0, st0) to here -/
structure Fr (c : Ct) (w0 : Wd) (H0 : Hp) (st0 : Sto) (w : Wd) (H : Hp) (st : Sto) (en : En) (σ : L2.St) : Prop where
  po : Post c w0 H0 st0 w H st
  eo : EnOk c w H st en σ
  new : ∀ (i : Nat) (ds : List D) (l : Addr), en[i]? = some (.own ds) → σ[i]? = some (some (.ref l)) → H0 l = none
section
variable {c : Ct} {w0 w w1 : Wd} {H0 H H1 : Hp} {st0 st st1 : Sto} {en en1 : En} {σ σ1 : L2.St} {α γ : Type} {ev : En → Sto → Res α} {N N' : Ends} {E : Nat → L2.St → Hp → Prop}
theorem Fr.post (f : Fr c w0 H0 st0 w H st en σ) (p : Post c w H st w1 H1 st1) : Fr c w0 H0 st0 w1 H1 st1 en σ := ⟨f.po.trans p, f.eo.post p, f.new⟩
theorem Fr.to (f : Fr c w0 H0 st0 w H st en σ) (he : EnOk c w H st en1 σ1) (ho : OwnSub en en1) (hs : ∀ (i : Nat) (xs : List D), en1[i]? = some (Sl.own xs) → σ1[i]? = σ[i]?) : Fr c w0 H0 st0 w H st en1 σ1 :=
  ⟨f.po, he, fun i ds l h h' => f.new i ds l (ho i ds h) (by rw [← hs i ds h]; exact h')⟩
/-- what a statement's result asks; w is where the world stood -/
def SatS (c : Ct) (w0 : Wd) (H0 : Hp) (st0 : Sto) (w : Wd) (r : SR) (N : Ends) (E : Nat → L2.St → Hp → Prop) : Prop := match r with
  | .nx en st => ∀ w' H σ, w.le w' → Fr c w0 H0 st0 w' H st en σ → N.nx σ H
  | .bk en st => ∀ w' H σ, w.le w' → Fr c w0 H0 st0 w' H st en σ → N.bk σ H
  | .ct en st => ∀ w' H σ, w.le w' → Fr c w0 H0 st0 w' H st en σ → N.ct σ H
  | .rt d st => ∀ w' H v, w.le w' → Post c w0 H0 st0 w' H st → Rep c w' d v → N.rt v H
  | .exc k en st => ∀ w' H σ, w.le w' → Fr c w0 H0 st0 w' H st en σ → E k σ H
  | .stk => False
theorem SatS.wk {r : SR} (l : w.le w1) (h : SatS c w0 H0 st0 w r N E) : SatS c w0 H0 st0 w1 r N E := by
  cases r with
  | nx en st => exact fun w' H σ k => h w' H σ (l.trans k)
  | bk en st => exact fun w' H σ k => h w' H σ (l.trans k)
  | ct en st => exact fun w' H σ k => h w' H σ (l.trans k)
  | rt d st => exact fun w' H σ k => h w' H σ (l.trans k)
  | exc i en st => exact fun w' H σ k => h w' H σ (l.trans k)
  | stk => exact h
/-- a piece, then what follows -/
theorem to_tG {W : WX} {rep : RepT α γ} {f : α → Sto → SR} {Q : γ → Hp → Prop} (fr : Fr c w0 H0 st0 w H st en σ) (h : SatS c w0 H0 st0 w ((ev en st).to en f) N fun k σ H => W (.ref (c.cA k)) none σ H)
    (k : ∀ (x : γ) (a : α) (w1 : Wd) (H1 : Hp) (st1 : Sto), w.le w1 → Fr c w0 H0 st0 w1 H1 st1 en σ → rep H w1 H1 st1 a x → (SatS c w0 H0 st0 w1 (f a st1) N fun k σ H => W (.ref (c.cA k)) none σ H) → Q x H1) : tG c W rep ev σ H Q := by
  refine ⟨w, st, en, fr.po.rel, fr.eo, ?_⟩
  cases e : ev en st with
  | stk =>
    rw [e] at h
    exact h
  | exc i s1 =>
    rw [e] at h
    exact fun w' H' p => h w' H' σ p.le (fr.post p)
  | ok a s1 =>
    rw [e] at h
    have h : SatS c w0 H0 st0 w (f a s1) N fun k σ H => W (.ref (c.cA k)) none σ H := h
    exact fun x w' H' p r => k x a w' H' s1 p.le (fr.post p) r (h.wk p.le)
end
section
variable {b : Bs} {n : Nat} {k : Eb} {X : Cx} {W : WX}
/-- the reading of a statement or a suite -/
def tR (b : Bs) (W : WX) (ev : En → Sto → SR) : TS := fun D σ H => ∃ (w0 : Wd) (H0 : Hp) (st0 : Sto) (w : Wd) (st : Sto) (en : En), Fr b.c w0 H0 st0 w H st en σ ∧ SatS b.c w0 H0 st0 w (ev en st) D fun k σ H => W (.ref (b.c.cA k)) none σ H
abbrev tS (b : Bs) (n : Nat) (W : WX) (s : Sm) : TS := tR b W (evS (gOf b n) s)
abbrev tSs (b : Bs) (n : Nat) (W : WX) (s : List Sm) : TS := tR b W (evSs (gOf b n) s)
/-- the context of a def's statements -/
structure SOk (b : Bs) (n : Nat) (k : Eb) (X : Cx) (W : WX) : Prop extends XOk b n k X W where
  scp : X.env.scope = k.sc
  kind : k.sc.kind = .function
theorem pss_weak {X : Cx} {e : List Stmt} {t t' : TS} (h : PSs X e t) (i : ∀ D σ H, t' D σ H → t D σ H) : PSs X e t' := ⟨fun pins s σ H D I q => h.run pins s σ H D I (i D σ H q)⟩
theorem SR.andThen_stk {f : En → Sto → SR} : SR.andThen .stk f = .stk := rfl
/-! small ones -/
theorem q_nil : PSs X [] (tSs b n W []) := pss_weak pss_nil fun D σ H ⟨w0, H0, st0, w, st, en, f, q⟩ => q w H σ (.refl w) f
theorem q_cons {s : Sm} {r : List Sm} {t : Stmt} {ts : List Stmt} (h1 : PS X t (tS b n W s)) (h2 : PSs X ts (tSs b n W r)) : PSs X (t :: ts) (tSs b n W (s :: r)) :=
  pss_weak (pss_cons h1 h2) fun D σ H ⟨w0, H0, st0, w, st, en, f, q⟩ => by
    refine ⟨w0, H0, st0, w, st, en, f, ?_⟩
    have q : SatS b.c w0 H0 st0 w ((evS (gOf b n) s en st).andThen (evSs (gOf b n) r)) D _ := q
    cases e : evS (gOf b n) s en st with
    | nx en1 st1 =>
      rw [e] at q
      have q : SatS b.c w0 H0 st0 w (evSs (gOf b n) r en1 st1) D _ := q
      exact fun w1 H1 σ1 l f1 => ⟨w0, H0, st0, w1, st1, en1, f1, q.wk l⟩
    | bk en1 st1 =>
      rw [e] at q
      exact q
    | ct en1 st1 =>
      rw [e] at q
      exact q
    | rt d st1 =>
      rw [e] at q
      exact q
    | exc i en1 st1 =>
      rw [e] at q
      exact q
    | stk =>
      rw [e] at q
      exact q
theorem q_frz {x : Nat} {r : List Sm} {ts : List Stmt} (h2 : PSs X ts (tSs b n W r)) : PSs X ts (tSs b n W (.frz x :: r)) :=
  pss_weak h2 fun D σ H ⟨w0, H0, st0, w, st, en, f, q⟩ => by
    have q : SatS b.c w0 H0 st0 w ((match en[x]? with
      | some (.own xs) => SR.nx (en.set x (.val (.lst xs))) st
      | _ => .stk).andThen (evSs (gOf b n) r)) D _ := q
    match e : en[x]? with
    | some (.own xs) =>
      rw [e] at q
      have q : SatS b.c w0 H0 st0 w (evSs (gOf b n) r (en.set x (.val (.lst xs))) st) D _ := q
      obtain ⟨l, vs, h1, h2, h3, h4, h5⟩ := f.eo.own x xs e
      have hl : H0 l = none := f.new x xs l e h1
      have le := le_frz (o := .lst vs) h4
      have hx : x < en.length := (List.getElem?_eq_some_iff.mp e).1
      refine ⟨w0, H0, st0, { w with I := upd w.I l (.lst vs) }, st, _, ⟨f.po.frz hl h2 h4 h5, ⟨by rw [List.length_set]; exact f.eo.len, fun i d h => ?_, fun i ds h => ?_, fun i j ds es a h h' g g' => ?_⟩, fun i ds a h g => ?_⟩, q.wk le⟩
      · by_cases z : x = i
        · subst z
          rw [List.getElem?_set_self hx] at h
          cases h
          refine ⟨_, h1, ?_⟩
          unfold Rep
          exact ⟨l, vs, rfl, SqL.of upd_same, Reps.mono le h3⟩
        · rw [List.getElem?_set_ne z] at h
          obtain ⟨v, a1, a2⟩ := f.eo.val i d h
          exact ⟨v, a1, Rep.mono le a2⟩
      · have z : x ≠ i := fun z => by
          subst z
          rw [List.getElem?_set_self hx] at h
          cases h
        rw [List.getElem?_set_ne z] at h
        obtain ⟨l', vs', a1, a2, a3, a4, a5⟩ := f.eo.own i ds h
        refine ⟨l', vs', a1, a2, Reps.mono le a3, ?_, a5⟩
        show upd w.I l (.lst vs) l' = none
        rw [upd_ne]
        · exact a4
        · intro z2
          subst z2
          exact z (f.eo.sep x i xs ds l' e h h1 a1)
      · have z : ∀ {i : Nat} {ds : List T.D}, (en.set x (.val (.lst xs)))[i]? = some (.own ds) → en[i]? = some (.own ds) := fun {i ds} h => by
          by_cases z : x = i
          · subst z
            rw [List.getElem?_set_self hx] at h
            cases h
          · rw [List.getElem?_set_ne z] at h
            exact h
        exact f.eo.sep i j ds es a (z h) (z h') g g'
      · by_cases z : x = i
        · subst z
          rw [List.getElem?_set_self hx] at h
          cases h
        · rw [List.getElem?_set_ne z] at h
          exact f.new i ds a h g
    | some (.val d) =>
      rw [e] at q
      exact q.elim
    | some .un =>
      rw [e] at q
      exact q.elim
    | none =>
      rw [e] at q
      exact q.elim
theorem q_brk {pos : Pos} : PS X (.Break pos) (tS b n W .brk) := ps_weak ps_break fun D σ H ⟨w0, H0, st0, w, st, en, f, q⟩ => q w H σ (.refl w) f
theorem q_cnt {pos : Pos} : PS X (.Continue pos) (tS b n W .cnt) := ps_weak ps_continue fun D σ H ⟨w0, H0, st0, w, st, en, f, q⟩ => q w H σ (.refl w) f
theorem q_pas {pos : Pos} : PS X (.Pass pos) (tS b n W .pas) := ps_weak ps_pass fun D σ H ⟨w0, H0, st0, w, st, en, f, q⟩ => q w H σ (.refl w) f
theorem q_retN {pos : Pos} : PS X (.Return none pos) (tS b n W .retN) := ps_weak ps_retN fun D σ H ⟨w0, H0, st0, w, st, en, f, q⟩ => q w H _ (.refl w) f.po mk_non
theorem q_ret {a : Ep} {e : Expr} {pos : Pos} (ha : PE X e (tE b n W a)) : PS X (.Return (some e) pos) (tS b n W (.ret a)) := ps_weak (ps_ret ha) fun D σ H ⟨w0, H0, st0, w, st, en, f, q⟩ =>
  to_tG f q fun x d w1 H1 st1 l f1 r q => q w1 H1 x (.refl _) f1.po r
theorem swNone {e : Expr} {l : Nat} {env : Env} (h : plainC e = true) (t : Option Expr) : swapsWith e t l env = pure false := by
  cases e <;> first | rfl | cases h
theorem q_exp {a : Ep} {e : Expr} {pos : Pos} (ha : PE X e (tE b n W a)) (hp : plainC e = true) : PS X (.Expr e pos) (tS b n W (.exp a)) := ps_weak (ps_expr ha (swNone hp _)) fun D σ H ⟨w0, H0, st0, w, st, en, f, q⟩ =>
  to_tG f q fun x d w1 H1 st1 l f1 r q => q w1 H1 σ (.refl _) f1
theorem Fr.set {c : Ct} {w0 w : Wd} {H0 H : Hp} {st0 st : Sto} {en : En} {σ : L2.St} {d : D} {v : V} (f : Fr c w0 H0 st0 w H st en σ) (i : Nat) (r : Rep c w d v) : Fr c w0 H0 st0 w H st (en.set i (.val d)) (σ.set i (some v)) :=
  f.to (f.eo.set i r) ownSub_set fun j xs h => own_set_get h
theorem q_set (hX : XOk b n k X W) {i : Nat} {x : Str} {a : Ep} {e : Expr} {p pos : Pos} (hi : k.to i x = true) (hp : plainC e = true) (ha : PE X e (tE b n W a)) : PS X (.Assign [.Name x p] e pos) (tS b n W (.set i a)) := by
  obtain ⟨h1, h2⟩ := to_ok hi
  obtain ⟨l1, l2⟩ := hX.loc x h2
  exact ps_weak (ps_set (i := i) hX.nd (by rw [hX.N]; exact h1) l1 ha (swNone hp _) l2) fun D σ H ⟨w0, H0, st0, w, st, en, f, q⟩ =>
    to_tG f q fun x d w1 H1 st1 l f1 r q => q w1 H1 _ (.refl _) (f1.set i r)
/-- a new list of the frame's own -/
theorem Fr.setO {c : Ct} {w0 w w1 : Wd} {H0 H H1 : Hp} {st0 st st1 : Sto} {en : En} {σ : L2.St} {ds : List T.D} {v : V} (f0 : Fr c w0 H0 st0 w H st en σ) (f : Fr c w0 H0 st0 w1 H1 st1 en σ) (i : Nat) (r : rF c H w1 H1 st1 ds v) : Fr c w0 H0 st0 w1 H1 st1 (en.set i (.own ds)) (σ.set i (some v)) := by
  obtain ⟨p, vs, rfl, r1, r2, r3, r4, r5⟩ := r
  have out : ∀ {j : Nat} {xs : List D} {l : Addr}, i ≠ j → en[j]? = some (.own xs) → σ[j]? = some (some (.ref l)) → l ≠ p := fun {j xs l} z h g e => by
    subst e
    obtain ⟨l', vs', a1, a2, _⟩ := f0.eo.own j xs h
    have e : l' = l := by
      have z2 : some (some (V.ref l')) = some (some (.ref l)) := a1.symm.trans g
      cases z2
      rfl
    subst e
    rw [r1] at a2
    cases a2
  by_cases hl : i < en.length
  · have hl2 : i < σ.length := by rw [f.eo.len]; exact hl
    have gp : ∀ {l : Addr}, (σ.set i (some (V.ref p)))[i]? = some (some (.ref l)) → l = p := fun {l} g => by
      rw [List.getElem?_set_self hl2] at g
      cases g
      rfl
    refine ⟨f.po, ⟨by rw [List.length_set, List.length_set]; exact f.eo.len, fun j d h => ?_, fun j xs h => ?_, fun j j' xs ys l h h' g g' => ?_⟩, fun j xs l h g => ?_⟩
    · by_cases z : i = j
      · subst z
        rw [List.getElem?_set_self hl] at h
        cases h
      · rw [List.getElem?_set_ne z] at h ⊢
        exact f.eo.val j d h
    · by_cases z : i = j
      · subst z
        rw [List.getElem?_set_self hl] at h
        cases h
        exact ⟨p, vs, List.getElem?_set_self hl2, r2, r3, r4, r5⟩
      · rw [List.getElem?_set_ne z] at h ⊢
        exact f.eo.own j xs h
    · by_cases z : i = j
      · subst z
        have e := gp g
        subst e
        by_cases z' : i = j'
        · exact z'
        · rw [List.getElem?_set_ne z'] at h' g'
          exact absurd rfl (out z' h' g')
      · rw [List.getElem?_set_ne z] at h g
        by_cases z' : i = j'
        · subst z'
          exact absurd (gp g') (out z h g)
        · rw [List.getElem?_set_ne z'] at h' g'
          exact f.eo.sep j j' xs ys l h h' g g'
    · by_cases z : i = j
      · subst z
        rw [gp g]
        cases e : H0 p with
        | none => rfl
        | some o => exact absurd r1 (f0.po.dom p (by rw [e]; intro z; cases z))
      · rw [List.getElem?_set_ne z] at h g
        exact f.new j xs l h g
  · have e1 : en.set i (.own ds) = en := List.set_eq_of_length_le (by omega)
    have e2 : σ.set i (some (V.ref p)) = σ := List.set_eq_of_length_le (by rw [f.eo.len]; omega)
    rw [e1, e2]
    exact f
theorem q_setO (hX : XOk b n k X W) {i : Nat} {x : Str} {a : Fx} {e : Expr} {p pos : Pos} (hi : k.to i x = true) (hp : swapsWith e (some (.Name x p)) pos.line X.env = pure false) (ha : PE X e (tF b n W a)) : PS X (.Assign [.Name x p] e pos) (tS b n W (.setO i a)) := by
  obtain ⟨h1, h2⟩ := to_ok hi
  obtain ⟨l1, l2⟩ := hX.loc x h2
  exact ps_weak (ps_set (i := i) hX.nd (by rw [hX.N]; exact h1) l1 ha hp l2) fun D σ H ⟨w0, H0, st0, w, st, en, f, q⟩ =>
    to_tG f q fun x d w1 H1 st1 l f1 r q => q w1 H1 _ (.refl _) (Fr.setO f f1 i r)
theorem sw_lc {elt : Expr} {gs : List Comprehension} {scope : Scope} {pos py : Pos} {y : Str} {l : Nat} {env : Env} :
    swapsWith (.ListComp elt gs scope pos) (some (.Name y py)) l env = pure (env.blockKind == .function && env.kindOf y == some .local && py.line == pos.line && !(scope.names.any fun (n, k) => n == y && (k == .local || k == .cell))) := rfl
end
end T

/-! T10: statements that store; loops. -/
namespace T
open PySem PySem.Spec PyProof.Rows L2
theorem Fr.mutO {c : Ct} {w0 w : Wd} {H0 H : Hp} {st0 st : Sto} {en : En} {σ : L2.St} {xs ys : List D} {vs us : List V} {x : Nat} {l : Addr} (f : Fr c w0 H0 st0 w H st en σ) (h : en[x]? = some (.own xs)) (g : σ[x]? = some (some (.ref l))) (hH : H l = some (.lst vs)) (r : Reps c w ys us) :
    Fr c w0 H0 st0 w (upd H l (.lst us)) st (en.set x (.own ys)) σ := by
  obtain ⟨l', vs', a1, a2, a3, a4, a5⟩ := f.eo.own x xs h
  have e : l' = l := by
    have z2 : some (some (V.ref l')) = some (some (.ref l)) := a1.symm.trans g
    cases z2
    rfl
  subst e
  have hx : x < en.length := (List.getElem?_eq_some_iff.mp h).1
  have back : ∀ {i : Nat} {zs : List D}, x ≠ i → (en.set x (.own ys))[i]? = some (.own zs) → en[i]? = some (.own zs) := fun {i zs} z h => by
    rw [List.getElem?_set_ne z] at h
    exact h
  have back2 : ∀ {i : Nat} {zs : List D}, (en.set x (.own ys))[i]? = some (.own zs) → ∃ zs', en[i]? = some (.own zs') := fun {i zs} q => by
    by_cases z : x = i
    · subst z
      exact ⟨_, h⟩
    · exact ⟨_, back z q⟩
  refine ⟨f.po.mut (f.new x xs l' h g) a4 a5, ⟨by rw [List.length_set]; exact f.eo.len, fun i d q => ?_, fun i zs q => ?_, fun i j ds es a q q' g' g'' => ?_⟩, fun i ds a q g' => ?_⟩
  · by_cases z : x = i
    · subst z
      rw [List.getElem?_set_self hx] at q
      cases q
    · rw [List.getElem?_set_ne z] at q
      exact f.eo.val i d q
  · by_cases z : x = i
    · subst z
      rw [List.getElem?_set_self hx] at q
      cases q
      exact ⟨l', us, g, upd_same, r, a4, a5⟩
    · have q := back z q
      obtain ⟨l2, vs2, b1, b2, b3, b4, b5⟩ := f.eo.own i zs q
      refine ⟨l2, vs2, b1, ?_, b3, b4, b5⟩
      rw [upd_ne]
      · exact b2
      · intro z2
        subst z2
        exact z (f.eo.sep x i xs zs l2 h q g b1)
  · obtain ⟨ds', k1⟩ := back2 q
    obtain ⟨es', k2⟩ := back2 q'
    exact f.eo.sep i j ds' es' a k1 k2 g' g''
  · obtain ⟨ds', k1⟩ := back2 q
    exact f.new i ds' a k1 g'
section
variable {b : Bs} {n : Nat} {k : Eb} {X : Cx} {W : WX}
theorem ownSatS {c : Ct} {w0 w : Wd} {H0 : Hp} {st0 : Sto} {N : Ends} {E : Nat → L2.St → Hp → Prop} {o : Option Sl} {f : List D → SR} (h : SatS c w0 H0 st0 w (match o with | some (.own xs) => f xs | _ => .stk) N E) :
    ∃ xs, o = some (.own xs) ∧ SatS c w0 H0 st0 w (f xs) N E := by
  match o, h with
  | some (.own xs), h => exact ⟨xs, rfl, h⟩
  | some (.val _), h => exact h.elim
  | some .un, h => exact h.elim
  | none, h => exact h.elim
theorem q_setLc (hX : SOk b n k X W) {i : Nat} {x : Str} {own : List Nat} {e : Ep} {p : Pt} {j : It} {elt tg iter : Expr} {scope : Scope} {pos py spos : Pos} (hi : k.to i x = true) (ho : p.in own = true) (hb : blkC k.ns k.sc scope (own.map fun i => (k.ns.getD i "", i)) = true) (hp : embP { k with sc := scope } p tg = true) (hj : PI X tg iter (tI b n W j))
    (he : ∀ (X' : Cx), XOk b n { k with sc := scope } X' W0 → PE X' elt (tE b n W0 e)) (hs : ∀ x, foldedSetIterable iter X.env x = pure x) : PS X (.Assign [.Name x py] (.ListComp elt [⟨tg, iter, [], 0⟩] scope pos) spos) (tS b n W (.setO i (.lc own e p j))) := by
  cases hsw : (X.env.blockKind == .function && X.env.kindOf x == some .local && py.line == pos.line && !(scope.names.any fun (n, k) => n == x && (k == .local || k == .cell))) with
  | false => exact q_setO hX.toXOk hi (by rw [sw_lc, hsw]) (f_lc hX.toXOk ho hb hp hj he hs)
  | true =>
    obtain ⟨h1, h2⟩ := to_ok hi
    have hl : X.env.scope.names.lookup x = some .local := by
      rw [Bool.and_eq_true, Bool.and_eq_true, Bool.and_eq_true] at hsw
      exact eq_of_beq hsw.1.1.2
    exact ps_weak (ps_setLc (i := i) (own := own.map fun i => (k.ns.getD i "", i)) hX.calm hX.nd (by rw [hX.N]; exact h1) hl (by rw [sw_lc, hsw]) hj (blk_ok hX.toXOk hb) (fun s H C cl fp => g_ok hX.toXOk.blk hp) (fun s H C cl fp => pts_nil) (fun s H C cl fp => he _ hX.toXOk.blk) hs)
      fun N σ H ⟨w0, H0, st0, w, st, en, f, q⟩ => by
        show tLc _ _ _ _ _ σ H _
        rw [slots_map]
        exact r_lc ho σ H _ (to_tG (rep := rF b.c) f q fun x d w1 H1 st1 l f1 r q => q w1 H1 _ (.refl _) (Fr.setO f f1 i r))
theorem q_setLcf (hX : SOk b n k X W) {i : Nat} {x : Str} {own : List Nat} {e : Ep} {t : Tx} {p : Pt} {j : It} {elt tg iter cond : Expr} {scope : Scope} {pos py spos : Pos} (hi : k.to i x = true) (ho : p.in own = true) (hb : blkC k.ns k.sc scope (own.map fun i => (k.ns.getD i "", i)) = true) (hp : embP { k with sc := scope } p tg = true) (hj : PI X tg iter (tI b n W j))
    (he : ∀ (X' : Cx), XOk b n { k with sc := scope } X' W0 → PE X' elt (tE b n W0 e)) (ht : ∀ (X' : Cx), XOk b n { k with sc := scope } X' W0 → PT X' cond (tT b n W0 t)) (hs : ∀ x, foldedSetIterable iter X.env x = pure x) : PS X (.Assign [.Name x py] (.ListComp elt [⟨tg, iter, [cond], 0⟩] scope pos) spos) (tS b n W (.setO i (.lcf own e p j t))) := by
  cases hsw : (X.env.blockKind == .function && X.env.kindOf x == some .local && py.line == pos.line && !(scope.names.any fun (n, k) => n == x && (k == .local || k == .cell))) with
  | false => exact q_setO hX.toXOk hi (by rw [sw_lc, hsw]) (f_lcf hX.toXOk ho hb hp hj he ht hs)
  | true =>
    obtain ⟨h1, h2⟩ := to_ok hi
    have hl : X.env.scope.names.lookup x = some .local := by
      rw [Bool.and_eq_true, Bool.and_eq_true, Bool.and_eq_true] at hsw
      exact eq_of_beq hsw.1.1.2
    exact ps_weak (ps_setLc (i := i) (own := own.map fun i => (k.ns.getD i "", i)) hX.calm hX.nd (by rw [hX.N]; exact h1) hl (by rw [sw_lc, hsw]) hj (blk_ok hX.toXOk hb) (fun s H C cl fp => g_ok hX.toXOk.blk hp) (fun s H C cl fp => pts_one (ht _ hX.toXOk.blk)) (fun s H C cl fp => he _ hX.toXOk.blk) hs)
      fun N σ H ⟨w0, H0, st0, w, st, en, f, q⟩ => by
        show tLc _ _ _ _ _ σ H _
        rw [slots_map]
        exact r_lcf ho σ H _ (to_tG (rep := rF b.c) f q fun x d w1 H1 st1 l f1 r q => q w1 H1 _ (.refl _) (Fr.setO f f1 i r))
/-- targets in a tuple -/
theorem q_asg (hX : XOk b n k X W) {p : Pt} {a : Ep} {ts : List Expr} {j : Nat} {pos' pos : Pos} {e : Expr} (hp : embP k p (.Tuple ts j pos') = true) (hv : noTup e = true) (hc : plainC e = true) (ha : PE X e (tE b n W a)) : PS X (.Assign [.Tuple ts j pos'] e pos) (tS b n W (.asg p a)) := by
  refine ps_weak (ps_asg ha (g_ok hX hp) (show swapsWith e (some (.Tuple ts j pos')) pos.line X.env = pure false from swNone hc _) (by cases e <;> first | rfl | cases hv) rfl) fun N σ H ⟨w0, H0, st0, w, st, en, f, q⟩ => ?_
  refine to_tG f q fun x d w1 H1 st1 l f1 r q => ?_
  cases e1 : takeP p d en with
  | none =>
    rw [e1] at q
    exact q.elim
  | some en1 =>
    rw [e1] at q
    exact ⟨w1, st1, en, d, en1, f1.po.rel, f1.eo, r, e1, fun σ' he ho hs _ => q w1 H1 σ' (.refl _) (f1.to he ho hs)⟩
theorem sw_par {env : Env} {x y : Str} {px py pt p2 : Pos} {k1 k2 : Nat} {e f : Expr} (hk : env.blockKind = .function) (hx : env.scope.names.lookup x = some .local) (hy : env.scope.names.lookup y = some .local) (hl : (px.line == py.line) = true) (ne : x ≠ y)
    (h1 : [e, f].all (foldedForSure 8) = false) (h2 : [e, f].all (constantsAlone 8) = false) (s1 : ∀ x p, e ≠ .Starred x p) (s2 : ∀ x p, f ≠ .Starred x p) : swappedStores [.Tuple [.Name x px, .Name y py] k1 pt] (.Tuple [e, f] k2 p2) env = pure (some [x, y]) := by
  have kx : env.kindOf x = some .local := hx
  have ky : env.kindOf y = some .local := hy
  have hl2 : (py.line == px.line) = true := by rw [beq_iff_eq] at hl ⊢; exact hl.symm
  have ed : ([x, y] : List Str).eraseDups.length = 2 := by
    have : (y == x) = false := by
      cases h : (y == x) with
      | false => rfl
      | true => exact absurd (beq_iff_eq.mp h).symm ne
    simp [List.eraseDups, List.eraseDupsBy, List.eraseDupsBy.loop, this, ne, Ne.symm ne]
  have c1 : (env.kindOf x == some .local && px.line == px.line) = true := by rw [kx, beq_self_eq_true px.line]; rfl
  have c2 : (env.kindOf y == some .local && py.line == px.line) = true := by rw [ky, hl2]; rfl
  unfold swappedStores
  simp only [hk, List.filterMap_cons, List.filterMap_nil, List.head?_cons, Option.map_some, Option.getD_some, Expr.pos, c1, c2, if_true, ed, h1, h2]
  rw [if_neg (show ¬ ((!([Expr.Name x px, Expr.Name y py].length == 2 || [Expr.Name x px, Expr.Name y py].length == 3) || [e, f].length != [Expr.Name x px, Expr.Name y py].length || ScopeKind.function != ScopeKind.function) = true) from Bool.false_ne_true)]
  have e1 : (match e with | .Starred .. => true | _ => false) = false := by cases e <;> first | rfl | exact absurd rfl (s1 _ _)
  have e2 : (match f with | .Starred .. => true | _ => false) = false := by cases f <;> first | rfl | exact absurd rfl (s2 _ _)
  simp only [List.any_cons, List.any_nil, Bool.or_false]
  rw [if_neg]
  · rfl
  · exact Bool.false_ne_true
theorem q_par (hX : SOk b n k X W) {i j : Nat} {x y : Str} {a d : Ep} {e f : Expr} {px py pt p2 pos : Pos} {k1 k2 : Nat} (hi : k.to i x = true) (hj : k.to j y = true) (hp : parB k x y px py e f = true) (ha : embE k a e = true) (hd : embE k d f = true) (pa : PE X e (tE b n W a)) (pd : PE X f (tE b n W d)) :
    PS X (.Assign [.Tuple [.Name x px, .Name y py] k1 pt] (.Tuple [e, f] k2 p2) pos) (tS b n W (.par i j a d)) := by
  obtain ⟨h1, _⟩ := to_ok hi
  obtain ⟨h2, _⟩ := to_ok hj
  obtain ⟨g1, hp⟩ := Bool.and_eq_true_iff.mp hp
  obtain ⟨g2, hp⟩ := Bool.and_eq_true_iff.mp hp
  obtain ⟨g3, hp⟩ := Bool.and_eq_true_iff.mp hp
  obtain ⟨g4, hp⟩ := Bool.and_eq_true_iff.mp hp
  obtain ⟨g5, g6⟩ := Bool.and_eq_true_iff.mp hp
  have lx : X.env.scope.names.lookup x = some .local := by rw [hX.scp]; exact of_decide_eq_true g1
  have ly : X.env.scope.names.lookup y = some .local := by rw [hX.scp]; exact of_decide_eq_true g2
  have ne : x ≠ y := of_decide_eq_true g4
  have hb : X.env.blockKind = .function := by
    unfold Env.blockKind
    rw [hX.scp, hX.kind]
    rfl
  have hij : i ≠ j := fun z => by
    subst z
    rw [h1] at h2
    cases h2
    exact ne rfl
  have st : ∀ {a : Ep} {e : Expr}, embE k a e = true → ∀ x p, e ≠ .Starred x p := fun {a e} h x p z => by
    subst z
    cases a with
    | fz f => cases f <;> exact absurd (show false = true from h) Bool.false_ne_true
    | _ => exact absurd (show false = true from h) Bool.false_ne_true
  refine ps_weak (ps_par hX.calm hX.nd (by rw [hX.N]; exact h1) (by rw [hX.N]; exact h2) hij lx ly (pa_cons pa (pa_cons pd pa_nil (embE_star hd _ _)) (embE_star ha _ _))
    (sw_par hb lx ly g3 ne ((Bool.not_eq_true' _).mp g5) ((Bool.not_eq_true' _).mp g6) (st ha) (st hd)) rfl) fun N σ H ⟨w0, H0, st0, w, st, en, f, q⟩ => ?_
  show tG b.c W (rV b.c) (evE (gOf b n) a) σ H _
  refine to_tG f q fun x d1 w1 H1 st1 l f1 r q => ?_
  show tG b.c W (rV b.c) (evE (gOf b n) d) σ H1 _
  refine to_tG f1 q fun y d2 w2 H2 st2 l2 f2 r2 q => ?_
  exact ⟨x, y, rfl, q w2 H2 _ (.refl _) ((f2.set i (Rep.mono l2 r)).set j r2)⟩
theorem q_aug (hX : XOk b n k X W) {i : Nat} {x : Str} {o : BOp} {a : Ep} {e : Expr} {op : Operator} {p pos : Pos} (hi : k.to i x = true) (hop : augB o op = true) (ha : PE X e (tE b n W a)) : PS X (.AugAssign (.Name x p) op e pos) (tS b n W (.aug i o a)) := by
  obtain ⟨h1, h2⟩ := to_ok hi
  obtain ⟨l1, l2⟩ := hX.loc x h2
  have hip : PIp X op (fun x y H Q => ∃ (i j k : Int), x = .int i ∧ y = .int j ∧ binI o i j = some k ∧ Q (.int k) H) := by
    intro pins s σ H x y v u Q I r1 r2 h
    obtain ⟨i, j, z, rfl, rfl, e3, q⟩ := h
    cases o <;> cases op <;> first | cases hop | skip
    · cases e3
      exact ip_add pins s σ H _ _ v u Q I r1 r2 ⟨i, j, rfl, rfl, q⟩
    · cases e3
      exact ip_sub pins s σ H _ _ v u Q I r1 r2 ⟨i, j, rfl, rfl, q⟩
  refine ps_weak (ps_aug (i := i) hX.nd (by rw [hX.N]; exact h1) l1 ha hip l2) fun N σ H ⟨w0, H0, st0, w, st, en, f, q⟩ => ?_
  have q : SatS b.c w0 H0 st0 w (match en[i]? with
    | some (.val d) => (evE (gOf b n) a en st).to en fun x st => match binV o d x with
      | some y => .nx (en.set i (.val y)) st
      | none => .stk
    | _ => .stk) N _ := q
  match h : en[i]? with
  | some (.val d) =>
    rw [h] at q
    obtain ⟨v, g1, g2⟩ := f.eo.val i d h
    refine ⟨v, g1, ?_⟩
    refine to_tG f q fun y d2 w1 H1 st1 l f1 r q => ?_
    cases e1 : binV o d d2 with
    | none =>
      rw [e1] at q
      exact q.elim
    | some z =>
      rw [e1] at q
      obtain ⟨i1, j1, k1, rfl, rfl, e2, rfl⟩ := binV_some e1
      exact ⟨i1, j1, k1, rep_int g2, rep_int r, e2, q w1 H1 _ (.refl _) (f1.set i mk_int)⟩
  | some (.own _) =>
    rw [h] at q
    exact q.elim
  | some .un =>
    rw [h] at q
    exact q.elim
  | none =>
    rw [h] at q
    exact q.elim
theorem q_oapp (hX : XOk b n k X W) {x : Nat} {y m : Str} {a : Ep} {e : Expr} {p apos cpos pos : Pos} (h : k.at x y = true) (hm : m = "append") (hl : (apos.endLine == cpos.line) = true) (hae : embE k a e = true) (ha : PE X e (tE b n W a)) : PS X (.Expr (.Call (.Attribute (.Name y p) m apos) [e] [] cpos) pos) (tS b n W (.oapp x a)) := by
  subst hm
  obtain ⟨h1, h2⟩ := at_ok h
  have dn := hX.dbg y (List.mem_of_getElem? h1)
  refine ps_weak (ps_expr (pe_bm PySem.F.plainAttrs_list PySem.F.slot_list_append PySem.F.type_list_append mt_append (pe_var (i := x) (by rw [hX.N]; exact h1) (hX.vis y h2) dn.1 dn.2) (pa_cons ha pa_nil (embE_star hae _ _)) rfl (by rw [embE_star hae]; rfl) hl (embE_star hae _ _) rfl) rfl)
    fun N σ H ⟨w0, H0, st0, w, st, en, f, q⟩ => ?_
  obtain ⟨xs, ho, q⟩ := ownSatS (f := fun xs => (evE (gOf b n) a en st).to en fun d st => if xs.length < lim then .nx (en.set x (.own (xs ++ [d]))) st else .stk) q
  obtain ⟨l, vs, g1, g2, g3, g4, g5⟩ := f.eo.own x xs ho
  refine ⟨.ref l, g1, .inl ⟨rfl, vs, SqL.of g2⟩, ?_⟩
  show tG b.c W (rV b.c) (evE (gOf b n) a) σ H _
  refine to_tG f q fun v d w1 H1 st1 l1 f1 r q => ?_
  obtain ⟨l2, vs2, k1, k2, k3, k4, k5⟩ := f1.eo.own x xs ho
  have e : l2 = l := by
    have z2 : some (some (V.ref l2)) = some (some (.ref l)) := k1.symm.trans g1
    cases z2
    rfl
  subst e
  have q : SatS b.c w0 H0 st0 w1 (if xs.length < lim then .nx (en.set x (.own (xs ++ [d]))) st1 else .stk) N _ := q
  split at q
  · rename_i hz
    exact ⟨l2, vs2, v, rfl, rfl, k2, by rw [k3.len]; exact hz, q w1 _ σ (.refl _) (f1.mutO ho g1 k2 (k3.app (mk_cons r mk_nil)))⟩
  · exact q.elim
theorem embE_asg {k : Eb} {a : Ep} {f : Expr} {o : Expr} {pos : Pos} {env : Env} (h : embE k a f = true) (v : Value) : assign (.Subscript o f pos) env v = (do
      let ov ← holding [v] (eval o env)
      let iv ← holding [v, ov] (eval f env)
      standAt pos
      holding [v, ov, iv] (setItem ov iv v)
      release [v, ov, iv] []) := by
  cases f with
  | Slice x y z p =>
    cases a with
    | fz f => cases f <;> exact absurd (show false = true from h) Bool.false_ne_true
    | _ => exact absurd (show false = true from h) Bool.false_ne_true
  | _ => rfl
theorem q_oset (hX : XOk b n k X W) {x : Nat} {y : Str} {a i : Ep} {e f : Expr} {p p2 pos : Pos} (h : k.at x y = true) (hie : embE k i f = true) (ha : PE X e (tE b n W a)) (hi : PE X f (tE b n W i)) : PS X (.Assign [.Subscript (.Name y p) f p2] e pos) (tS b n W (.oset x i a)) := by
  obtain ⟨h1, h2⟩ := at_ok h
  have dn := hX.dbg y (List.mem_of_getElem? h1)
  refine ps_weak (ps_asg ha (pg_sub (pe_var (i := x) (by rw [hX.N]; exact h1) (hX.vis y h2) dn.1 dn.2) hi set_list (embE_asg hie)) (by cases e <;> rfl) (by cases e <;> rfl) rfl) fun N σ H ⟨w0, H0, st0, w, st, en, f, q⟩ => ?_
  obtain ⟨xs, ho, q⟩ := ownSatS (f := fun xs => (evE (gOf b n) a en st).to en fun d st => (evE (gOf b n) i en st).to en fun k st => match k with
      | .int k => match ixN xs.length k with
        | some j => .nx (en.set x (.own (xs.set j d))) st
        | none => .stk
      | _ => .stk) q
  refine to_tG f q fun v d w1 H1 st1 l1 f1 r q => ?_
  obtain ⟨l, vs, g1, g2, g3, g4, g5⟩ := f1.eo.own x xs ho
  refine ⟨.ref l, g1, ?_⟩
  refine to_tG f1 q fun u z w2 H2 st2 l2 f2 r2 q => ?_
  obtain ⟨l', vs2, k1, k2, k3, k4, k5⟩ := f2.eo.own x xs ho
  have e : l' = l := by
    have z2 : some (some (V.ref l')) = some (some (.ref l)) := k1.symm.trans g1
    cases z2
    rfl
  subst e
  cases z with
  | int m =>
    have q : SatS b.c w0 H0 st0 w2 (match ixN xs.length m with
        | some j => .nx (en.set x (.own (xs.set j d))) st2
        | none => .stk) N _ := q
    cases hj : ixN xs.length m with
    | none =>
      rw [hj] at q
      exact q.elim
    | some j =>
      rw [hj] at q
      exact ⟨l', vs2, m, j, rfl, rep_int r2, k2, by rw [k3.len]; exact hj, q w2 _ σ (.refl _) (f2.mutO ho g1 k2 (k3.set j (Rep.mono l2 r)))⟩
  | _ => exact q.elim
theorem q_ite {t : Tx} {p q : List Sm} {c : Expr} {x y : List Stmt} {pos : Pos} (hc : PT X c (tT b n W t)) (h1 : PSs X x (tSs b n W p)) (h2 : PSs X y (tSs b n W q)) : PS X (.If c x y pos) (tS b n W (.ite t p q)) :=
  ps_weak (ps_if hc h1 h2) fun N σ H ⟨w0, H0, st0, w, st, en, f, q⟩ => by
    refine to_tG f q fun v d w1 H1 st1 l f1 r q => ?_
    have r : v = d := r
    subst r
    cases v with
    | true =>
      rw [if_pos rfl]
      exact ⟨w0, H0, st0, w1, st1, en, f1, q⟩
    | false =>
      rw [if_neg Bool.false_ne_true]
      exact ⟨w0, H0, st0, w1, st1, en, f1, q⟩
end
end T

/-! T11: loops. -/
namespace T
open PySem PySem.Spec PyProof.Rows L2
section
variable {b : Bs} {n : Nat} {k : Eb} {X : Cx} {W : WX}
abbrev Ev (b : Bs) (W : WX) : Nat → L2.St → Hp → Prop := fun k σ H => W (.ref (b.c.cA k)) none σ H
/-- a body's result inside a loop: what each end asks -/
theorem loop_body {w0 w : Wd} {H0 : Hp} {st0 : Sto} {N : Ends} {r : SR} {f : En → Sto → SR} {Nx : L2.St → Hp → Prop}
    (h : SatS b.c w0 H0 st0 w (match r with
      | .nx en st => f en st
      | .ct en st => f en st
      | .bk en st => .nx en st
      | r => r) N (Ev b W))
    (k : ∀ w' H' st' en' σ', w.le w' → Fr b.c w0 H0 st0 w' H' st' en' σ' → SatS b.c w0 H0 st0 w' (f en' st') N (Ev b W) → Nx σ' H') : SatS b.c w0 H0 st0 w r { N with nx := Nx, ct := Nx, bk := N.nx } (Ev b W) := by
  cases r with
  | nx en st => exact fun w' H' σ' l f => k w' H' st en σ' l f (h.wk l)
  | ct en st => exact fun w' H' σ' l f => k w' H' st en σ' l f (h.wk l)
  | bk en st => exact h
  | rt d st => exact h
  | exc i en st => exact h
  | stk => exact h
theorem q_whl (hX : XOk b n k X W) {m : Nat} {t : Tx} {p : List Sm} {c : Expr} {x : List Stmt} {pos : Pos} (hc : PT X c (tT b n W t)) (hb : PSs X x (tSs b n W p)) : PS X (.While c x [] pos) (tS b n W (.whl m t p)) :=
  ps_weak (ps_while hX.pso hc hb) fun N σ H ⟨w0, H0, st0, w, st, en, f, q⟩ => by
    refine ⟨fun m σ H => ∃ w st en, Fr b.c w0 H0 st0 w H st en σ ∧ SatS b.c w0 H0 st0 w (whlL (evT (gOf b n) t) (evSs (gOf b n) p) m en st) N (Ev b W), ⟨m, w, st, en, f, q⟩, ?_⟩
    rintro m σ H ⟨w, st, en, f, q⟩
    cases m with
    | zero => exact q.elim
    | succ m =>
      refine to_tG (rep := rB) f q fun v d w1 H1 st1 l f1 r q => ?_
      have r : v = d := r
      subst r
      cases v with
      | false =>
        rw [if_neg Bool.false_ne_true]
        exact q w1 H1 σ (.refl _) f1
      | true =>
        rw [if_pos rfl]
        exact ⟨_, fun σ' H' h => ⟨m, Nat.lt_succ_self m, h⟩, w0, H0, st0, w1, st1, en, f1, loop_body q fun w' H' st' en' σ' l f h => ⟨w', st', en', f, h⟩⟩
theorem q_for (hX : XOk b n k X W) {p : Pt} {i : It} {s : List Sm} {tg iter : Expr} {x : List Stmt} {pos : Pos} (hp : embP k p tg = true) (hi : PI X tg iter (tI b n W i)) (hb : PSs X x (tSs b n W s)) (hs : ∀ x, foldedSetIterable iter X.env x = pure x) : PS X (.For tg iter x [] pos) (tS b n W (.for_ p i s)) :=
  ps_weak (ps_for hX.pso hX.calm hi (g_ok hX hp) hb hs) fun N σ H ⟨w0, H0, st0, w, st, en, f, q⟩ => by
    refine to_tG (rep := rI b.c) f q fun J xs w1 H1 st1 l f1 wk q => ?_
    refine ⟨fun i m σ H => m = xs.length - i ∧ i ≤ xs.length ∧ ∃ w st en, w1.le w ∧ Fr b.c w0 H0 st0 w H st en σ ∧ SatS b.c w0 H0 st0 w (forL (turn p (evSs (gOf b n) s)) (xs.drop i) en st) N (Ev b W), ⟨xs.length, by simp, Nat.zero_le _, w1, st1, en, .refl _, f1, q⟩, ?_⟩
    rintro i m σ H ⟨rfl, hi, w, st, en, l, f, q⟩
    by_cases hlt : i < xs.length
    · refine .inr ⟨wk.go w H st i l f.po.rel hlt, fun σ' H' => ∃ w st en, w1.le w ∧ Fr b.c w0 H0 st0 w H' st en σ' ∧ SatS b.c w0 H0 st0 w (forL (turn p (evSs (gOf b n) s)) (xs.drop (i + 1)) en st) N (Ev b W), fun σ' H' h => ⟨xs.length - (i + 1), by omega, rfl, hlt, h⟩, fun v H' y => ?_⟩
      obtain ⟨w', po, r⟩ := wk.yld w H st i v H' xs[i] l f.po.rel (List.getElem?_eq_getElem hlt) y
      rw [List.drop_eq_getElem_cons hlt] at q
      cases ht : takeP p xs[i] en with
      | none =>
        have q : SatS b.c w0 H0 st0 w (match (match takeP p xs[i] en with
          | some en => evSs (gOf b n) s en st
          | none => .stk) with
          | .nx en st => forL _ (xs.drop (i + 1)) en st
          | .ct en st => forL _ (xs.drop (i + 1)) en st
          | .bk en st => .nx en st
          | r => r) N (Ev b W) := q
        rw [ht] at q
        exact q.elim
      | some en1 =>
        have q : SatS b.c w0 H0 st0 w (match (match takeP p xs[i] en with
          | some en => evSs (gOf b n) s en st
          | none => .stk) with
          | .nx en st => forL _ (xs.drop (i + 1)) en st
          | .ct en st => forL _ (xs.drop (i + 1)) en st
          | .bk en st => .nx en st
          | r => r) N (Ev b W) := q
        rw [ht] at q
        have f2 := f.post po
        refine ⟨w', st, en, xs[i], en1, f2.po.rel, f2.eo, r, ht, fun σ' he ho hs _ => ?_⟩
        exact ⟨w0, H0, st0, w', st, en1, f2.to he ho hs, loop_body (q.wk po.le) fun w3 H3 st3 en3 σ3 l3 f3 h => ⟨w3, st3, en3, (l.trans po.le).trans l3, f3, h⟩⟩
    · have e : i = xs.length := by omega
      subst e
      rw [List.drop_length] at q
      exact .inl ⟨wk.stop w H st _ l f.po.rel (Nat.le_refl _), q w H σ (.refl _) f⟩
end
end T

/-! T12: repr, isinstance, dicts of the module; the pieces and their text agree. -/
namespace T
open PySem PySem.Spec PyProof.Rows L2
mutual
theorem toP_noDict : ∀ d : D, (toP d).hasDict = false
  | .lst xs => toPs_noDict xs
  | .tup xs => toPs_noDict xs
  | .non => rfl
  | .bl _ => rfl
  | .int _ => rfl
  | .str _ => rfl
  | .obj _ _ => rfl
  | .ref _ => rfl
theorem toPs_noDict : ∀ ds : List D, PyData.hasDictAll (toPs ds) = false
  | [] => rfl
  | d :: ds => by
    show ((toP d).hasDict || PyData.hasDictAll (toPs ds)) = false
    rw [toP_noDict d, toPs_noDict ds]
    rfl
end
theorem reprV_some {d r : D} (h : reprV d = some r) : okEq 20 d = true ∧ (toP d).showable = true ∧ (toP d).shown.length ≤ lim ∧ r = .str (toP d).shown := by
  unfold reprV at h
  split at h
  · rename_i z
    obtain ⟨a, z⟩ := Bool.and_eq_true_iff.mp z
    obtain ⟨b, z⟩ := Bool.and_eq_true_iff.mp z
    exact ⟨a, b, of_decide_eq_true z, (Option.some.inj h).symm⟩
  · cases h
def rRepr (K : PySem.W.Frag) : List V → Hp → VK → Prop := fun xs H Q => ∃ (x : V) (z : PyData), xs = [x] ∧ Dp K H x z ∧ z.showable = true ∧ z.hasDict = false ∧ z.depth ≤ 21 ∧ z.shown.length ≤ sizeLine ∧ Q (.str z.shown) H
theorem call_repr {X : Cx} (hg : X.A.guards = some []) (hu : X.A.units + 64 < cLine) : CallR X (.builtin "repr") (rRepr X.K) := by
  intro pins s σ H xs us Q I r h
  obtain ⟨x, z, rfl, hd, h1, h2, h3, h4, q⟩ := h
  obtain ⟨u, rfl, ru⟩ := Vals.one r
  obtain ⟨as, rr⟩ := Dp.reads I z x u hd ru
  have fin : ∀ (h' : Heap) (t : Tok) (tk : Nat), (∀ b o, s.heap.get? b = some o → h'.get? b = some o) → EP X pins σ Q (.str z.shown t) { s with heap := h', toks := tk } := fun h' t tk hk => ⟨.str z.shown, H, I.kept hk, ⟨t, rfl⟩, q⟩
  cases hd with
  | non =>
    cases (show u = Value.none from ru)
    exact PySem.P.repr_of_none (fin _ _ _ fun _ _ e => e)
  | bl b =>
    cases (show u = Value.bool b from ru)
    exact PySem.P.repr_of_bool (fin _ _ _ fun _ _ e => e)
  | int i =>
    obtain ⟨t, rfl⟩ := (show ∃ t, u = Value.int i t from ru)
    exact PySem.P.repr_of_int (of_decide_eq_true h1) (fin _ _ _ fun _ _ e => e)
  | str y =>
    obtain ⟨t, rfl⟩ := (show ∃ t, u = Value.str y t from ru)
    exact PySem.P.repr_of_str (fin _ _ _ fun _ _ e => e) h4
  | lst a b =>
    cases (show u = Value.ref _ from ru)
    exact repr_of_reads' rr h1 (PyData.noDict_hsm h2) hg (by omega) (fun _ _ e => e) (fun h' t tk hk => fin h' t tk hk) h4
  | tup a b =>
    cases (show u = Value.ref _ from ru)
    exact repr_of_reads' rr h1 (PyData.noDict_hsm h2) hg (by omega) (fun _ _ e => e) (fun h' t tk hk => fin h' t tk hk) h4
def icT : IC → String
  | .int => "int" | .bool => "bool" | .list => "list" | .tuple => "tuple" | .str => "str"
theorem boot_ic (c : IC) : bootBuiltins (icN c) = some (.type (icT c)) := by
  cases c <;> decide +kernel
theorem isi_ty {K : PySem.W.Frag} {H : Hp} {c : Ct} {w : Wd} {d : D} {x : V} {i : IC} {b : Bool} (hK : K = c.K) (ex : Ex w.I H) (r : Rep c w d x) (h : isiV i d = some b) :
    ∃ t, TyX K H x t ∧ PySem.W.kitOne K t (.type (icT i)) = some b := by
  cases d with
  | non =>
    rw [rep_non r]
    refine ⟨_, .base .non, ?_⟩
    cases i <;> cases h <;> exact kit_ty (by decide +kernel)
  | bl y =>
    rw [rep_bl r]
    refine ⟨_, .base (.bl y), ?_⟩
    cases i <;> cases h <;> exact kit_ty (by decide +kernel)
  | int y =>
    rw [rep_int r]
    refine ⟨_, .base (.int y), ?_⟩
    cases i <;> cases h <;> exact kit_ty (by decide +kernel)
  | str y =>
    rw [rep_str r]
    refine ⟨_, .base (.str y), ?_⟩
    cases i <;> cases h <;> exact kit_ty (by decide +kernel)
  | lst xs =>
    obtain ⟨a, vs, rfl, s, _⟩ := rep_lst r
    have ty : TyX K H (.ref a) (.type "list") := by
      subst hK
      rcases ex.l s with (e | ⟨o, e⟩) | ⟨o, its, m, e, e2, _⟩
      · exact .base (.lst e)
      · exact .base (.frz e)
      · exact .kList e e2
    refine ⟨_, ty, ?_⟩
    cases i <;> cases h <;> exact kit_ty (by decide +kernel)
  | tup xs =>
    obtain ⟨a, vs, rfl, s, _⟩ := rep_tup r
    have ty : TyX K H (.ref a) (.type "tuple") := by
      subst hK
      rcases ex.t s with (e | ⟨o, e⟩) | ⟨o, its, m, e, e2, _⟩
      · exact .base (.tup e)
      · exact .fTuple e
      · exact .kTuple e e2
    refine ⟨_, ty, ?_⟩
    cases i <;> cases h <;> exact kit_ty (by decide +kernel)
  | obj _ _ => cases h
  | ref _ => cases h
section
variable {b : Bs} {n : Nat} {k : Eb} {X : Cx} {W : WX}
theorem s_repr (B : b.Ok) (hX : XOk b n k X W) {a : Ep} {e : Expr} {y : Str} {p pos : Pos} (hg : k.gl "repr" y = true) (ha : PE X e (tE b n W a)) (hs : ∀ (as : List Expr) (env : Env), starEach (e :: as) env = (false, eval e env) :: starEach as env) :
    PE X (.Call (.Name y p) [e] [] pos) (tE b n W (.repr a)) := by
  obtain ⟨rfl, hg⟩ := gl_ok hg
  cases hh : b.hot with
  | false =>
    refine ⟨fun pins s σ H Q I q => ?_⟩
    obtain ⟨w, st, en, hr, he, q⟩ := q
    have q : Sat b.c (rV b.c) w H st ((evE (gOf b n) a en st).bind fun x st => match b.hot with
      | true => .of (reprV x) st
      | false => .stk) Q fun k H' => W (.ref (b.c.cA k)) none σ H' := q
    rw [hh] at q
    have z : ∀ r : Res D, r.bind (fun x st => (Res.stk : Res D)) = .stk ∨ ∃ i s, r = .exc i s := fun r => by
      cases r with
      | ok a s => exact .inl rfl
      | exc i s => exact .inr ⟨i, s, rfl⟩
      | stk => exact .inl rfl
    rcases z (evE (gOf b n) a en st) with z | ⟨i, s1, z⟩
    · have q : Sat b.c (rV b.c) w H st ((evE (gOf b n) a en st).bind fun x st => (Res.stk : Res D)) Q _ := q
      rw [z] at q
      exact q.elim
    · rw [z] at q
      have ha' := ha.run pins s σ H (fun _ _ => False) I ⟨w, st, en, hr, he, by rw [z]; exact q⟩
      refine wpAny_Call_Name_kw (ld_blt I (hX.gl _ hg) (gl_free B hX (by decide)) boot_repr ?_ (by decide) (by decide))
      refine PyProof.Rows.callWith_builtin1 (thn ((pa_cons ha pa_nil (hs _ _)).run pos pins s σ H (fun _ _ => False) I ⟨w, st, en, hr, he, by rw [z]; exact q⟩) fun us s1 ⟨vs, H1, I1, r1, q1⟩ => q1.elim) (hs _ _) rfl
  | true =>
    refine pe_weak (pe_callB (call_repr (hX.hot hh) (hu64 hX)) (hX.gl _ hg) (gl_free B hX (by decide)) boot_repr (pa_cons ha pa_nil (hs _ _)) (by decide) (by decide) (hs _ _) rfl) fun σ H Q q => ?_
    obtain ⟨w, st, en, hr, he, q⟩ := q
    refine tG_bind hr he q fun x d1 w1 H1 st1 e1 p1 he1 r1 q1 => ?_
    have q1 : Sat b.c (fun _ => rV b.c H) w1 H1 st1 (match b.hot with
      | true => .of (reprV d1) st1
      | false => .stk) Q _ := q1
    rw [hh] at q1
    obtain ⟨r, hr3, q3⟩ := of_sat q1
    obtain ⟨a1, a2, a3, rfl⟩ := reprV_some hr3
    rw [hX.K]
    exact ⟨x, toP d1, rfl, rep_dp p1.rel.ex 20 d1 x a1 r1, a2, toP_noDict d1, (okEq_lay 20 d1 a1).2, a3, Sat.ok q3 p1.rel mk_str⟩
theorem s_isi (B : b.Ok) (hX : XOk b n k X W) {a : Ep} {c : IC} {e : Expr} {y z : Str} {p p2 pos : Pos} (hg : k.gl "isinstance" y = true) (hc : k.gl (icN c) z = true) (ha : PE X e (tE b n W a)) (hs : ∀ (as : List Expr) (env : Env), starEach (e :: as) env = (false, eval e env) :: starEach as env) :
    PE X (.Call (.Name y p) [e, .Name z p2] [] pos) (tE b n W (.isi a c)) := by
  obtain ⟨rfl, hg⟩ := gl_ok hg
  obtain ⟨rfl, hc⟩ := gl_ok hc
  have hT := boot_ic c
  have hm : b.mg (icN c) = none := B.free _ (by cases c <;> decide)
  refine pe_weak (pe_callB call_isi (hX.gl _ hg) (gl_free B hX (by decide)) boot_isinstance (pa_cons ha (pa_cons (pe_bltn (v := .ty (icT c)) (hX.gl _ hc) (by rw [hX.mg]; exact hm) hT rfl (by cases c <;> decide) (by cases c <;> decide)) pa_nil rfl) (hs _ _)) (by decide) (by decide) (hs _ _) rfl) fun σ H Q q => ?_
  obtain ⟨w, st, en, hr, he, q⟩ := q
  refine tG_bind hr he q fun x d1 w1 H1 st1 e1 p1 he1 r1 q1 => ?_
  obtain ⟨r, hr3, q3⟩ := of_sat q1
  obtain ⟨v, h1, rfl⟩ := Option.map_eq_some_iff.mp (show (isiV c d1).map D.bl = some r from hr3)
  obtain ⟨t, t1, t2⟩ := isi_ty (K := X.K) hX.K p1.rel.ex r1 h1
  exact ⟨x, .ty (icT c), t, .type (icT c), v, rfl, .ty (icT c), t1, t2, Sat.ok q3 p1.rel mk_bl⟩
theorem s_dsub (B : b.Ok) (hX : XOk b n k X W) {x : Nat} {y : Str} {i : Ep} {f : Expr} {pos p2 : Pos} (h : k.gl (k.gn x) y = true) (hi : PE X f (tE b n W i)) (hp : PlainIx f) : PE X (.Subscript (.Name y p2) f pos) (tE b n W (.dsub x i)) := by
  obtain ⟨rfl, h⟩ := gl_ok h
  cases hd : b.p.dct x with
  | none =>
    refine ⟨fun pins s σ H Q I q => ?_⟩
    obtain ⟨w, st, en, hr, he, q⟩ := q
    have q : Sat b.c (rV b.c) w H st (match b.p.dct x with
      | some kvs => (evE (gOf b n) i en st).bind fun y st => match y with
        | .str z => .of (kvs.lookup z) st
        | _ => .stk
      | none => .stk) Q fun k H' => W (.ref (b.c.cA k)) none σ H' := q
    rw [hd] at q
    exact q.elim
  | some kvs =>
    obtain ⟨a, h1, h2, h3⟩ := B.dct x kvs hd
    refine pe_weak (pe_ix ix_kdict (pe_glob (v := .ref a) (hX.gl _ h) (by rw [hX.mg, hX.gn]; exact h1) rfl (by rw [hX.gn]; exact h2)) hi hp) fun σ H Q q => ?_
    obtain ⟨w, st, en, hr, he, q⟩ := q
    have q : Sat b.c (rV b.c) w H st (match b.p.dct x with
      | some kvs => (evE (gOf b n) i en st).bind fun y st => match y with
        | .str z => .of (kvs.lookup z) st
        | _ => .stk
      | none => .stk) Q fun k H' => W (.ref (b.c.cA k)) none σ H' := q
    rw [hd] at q
    show tG b.c W (rV b.c) (evE (gOf b n) i) σ H _
    refine tG_bind hr he q fun y d1 w1 H1 st1 e1 p1 he1 r1 q1 => ?_
    cases d1 with
    | str z =>
      obtain ⟨d, g1, g2⟩ := of_sat q1
      obtain ⟨v, k1, k2⟩ := h3 z d g1
      rw [hX.K, hX.w]
      exact ⟨a, z, v, rfl, rep_str r1, k1, Sat.ok g2 p1.rel (k2 w1)⟩
    | _ => exact q1.elim
end
end T

/-! T13: what has its text does what the text does. -/
namespace T
open PySem PySem.Spec PyProof.Rows L2
section
variable {b : Bs} {n : Nat}
theorem and2 {p q : Bool} (h : (p && q) = true) : p = true ∧ q = true := Bool.and_eq_true_iff.mp h
theorem embI_set {k : Eb} {i : It} {u a : Expr} (h : embI k i u a = true) (env : Env) (x : Value) : foldedSetIterable a env x = pure x := by
  cases a with
  | Set y z p =>
    cases i with
    | seq e => exact embE_set (show embE k e (.Set y z p) = true from h) env x
    | enu e =>
      cases u <;> exact absurd (show false = true from h) Bool.false_ne_true
    | _ => exact absurd (show false = true from h) Bool.false_ne_true
  | _ => rfl
theorem embE_rw {k : Eb} {e : Ep} {x : Expr} {r : Bool} (h : embE k e x = true) (z : embE k e x = r) : r = true := z.symm.trans h
mutual
theorem e_ok (B : b.Ok) : ∀ (e : Ep) {x : Expr} {k : Eb} {X : Cx} {W : WX}, XOk b n k X W → embE k e x = true → PE X x (tE b n W e)
  | .var i, x, k, X, W, hX, h => by
    unfold embE at h
    split at h
    · exact s_var hX h
    · cases h
  | .cint i, x, k, X, W, hX, h => by
    unfold embE at h
    split at h
    · have e := of_decide_eq_true h
      subst e
      exact s_cint
    · cases h
  | .cstr i, x, k, X, W, hX, h => by
    unfold embE at h
    split at h
    · have e := of_decide_eq_true h
      subst e
      exact s_cstr
    · cases h
  | .cbl i, x, k, X, W, hX, h => by
    unfold embE at h
    split at h
    · have e := of_decide_eq_true h
      subst e
      exact s_cbl
    · cases h
  | .cnon, x, k, X, W, hX, h => by
    unfold embE at h
    split at h
    · exact s_cnon
    · cases h
  | .glo y, x, k, X, W, hX, h => by
    unfold embE at h
    split at h
    · exact s_glo B hX h
    · cases h
  | .bin o a d, x, k, X, W, hX, h => by
    unfold embE at h
    split at h
    · obtain ⟨h1, h2⟩ := and2 h
      obtain ⟨h2, h3⟩ := and2 h2
      have e := bopB_eq h1
      subst e
      exact s_bin (e_ok B a hX h2) (e_ok B d hX h3)
    · cases h
  | .neg a, x, k, X, W, hX, h => by
    unfold embE at h
    split at h
    · exact s_neg (e_ok B a hX h)
    · cases h
  | .cmp o a d, x, k, X, W, hX, h => by
    unfold embE at h
    split at h
    · obtain ⟨h1, h2⟩ := and2 h
      obtain ⟨h2, h3⟩ := and2 h2
      have e := copB_eq h1
      subst e
      exact s_cmp hX (e_ok B a hX h2) (e_ok B d hX h3) (embE_mark h3 _)
    · cases h
  | .chn o o' a d u, x, k, X, W, hX, h => by
    unfold embE at h
    split at h
    · obtain ⟨h1, h2⟩ := and2 h
      obtain ⟨h2, h3⟩ := and2 h2
      obtain ⟨h3, h4⟩ := and2 h3
      obtain ⟨h4, h5⟩ := and2 h4
      have e := copB_eq h1
      subst e
      have e := copB_eq h2
      subst e
      exact s_chn hX (e_ok B a hX h3) (e_ok B d hX h4) (e_ok B u hX h5) (embE_mark h5 _)
    · cases h
  | .andE a d, x, k, X, W, hX, h => by
    unfold embE at h
    split at h
    · obtain ⟨h1, h2⟩ := and2 h
      exact s_andE (e_ok B a hX h1) (e_ok B d hX h2)
    · cases h
  | .orE a d, x, k, X, W, hX, h => by
    unfold embE at h
    split at h
    · obtain ⟨h1, h2⟩ := and2 h
      exact s_orE (e_ok B a hX h1) (e_ok B d hX h2)
    · cases h
  | .one a, x, k, X, W, hX, h => by
    unfold embE at h
    split at h
    · exact s_one (e_ok B a hX h)
    · cases h
  | .notE a, x, k, X, W, hX, h => by
    unfold embE at h
    split at h
    · exact s_notE (e_ok B a hX h)
    · cases h
  | .ite t a d, x, k, X, W, hX, h => by
    unfold embE at h
    split at h
    · obtain ⟨h1, h2⟩ := and2 h
      obtain ⟨h2, h3⟩ := and2 h2
      exact s_ite (t_ok B t hX h1).1 (e_ok B a hX h2) (e_ok B d hX h3)
    · cases h
  | .tup es, x, k, X, W, hX, h => by
    unfold embE at h
    split at h
    · exact s_tup (es_ok B es hX h)
    · cases h
  | .fz f, x, k, X, W, hX, h => by
    unfold embE at h
    exact s_fz (f_ok B f hX h)
  | .sub a i, x, k, X, W, hX, h => by
    unfold embE at h
    split at h
    · obtain ⟨h1, h2⟩ := and2 h
      exact s_sub hX (e_ok B a hX h1) (e_ok B i hX h2) (embE_ix h2)
    · cases h
  | .subO y i, x, k, X, W, hX, h => by
    unfold embE at h
    split at h
    · obtain ⟨h1, h2⟩ := and2 h
      exact s_subO hX h1 (e_ok B i hX h2) (embE_ix h2)
    · cases h
  | .lenO y, x, k, X, W, hX, h => by
    unfold embE at h
    split at h
    · obtain ⟨h1, h2⟩ := and2 h
      exact s_lenO B hX h1 h2
    · cases h
  | .call f sh e es, x, k, X, W, hX, h => by
    unfold embE at h
    split at h
    · obtain ⟨h1, h2⟩ := and2 h
      obtain ⟨h2, h3⟩ := and2 h2
      obtain ⟨h3, h4⟩ := and2 h3
      exact s_call B hX (of_decide_eq_true h1) h2 (s_cons (e_ok B e hX h3) (es_ok B es hX h4) (embE_star h3 _ _)) (embE_star h3 _ _) (embEs_pl h4)
    · cases h
  | .call0 f sh, x, k, X, W, hX, h => by
    unfold embE at h
    split at h
    · obtain ⟨h1, h2⟩ := and2 h
      exact s_call0 B hX (of_decide_eq_true h1) h2
    · cases h
  | .b1 o a, x, k, X, W, hX, h => by
    unfold embE at h
    split at h
    · obtain ⟨h1, h2⟩ := and2 h
      exact s_b1 B hX h1 (e_ok B a hX h2) (embE_star h2)
    · cases h
  | .b2 o a d, x, k, X, W, hX, h => by
    unfold embE at h
    split at h
    · obtain ⟨h1, h2⟩ := and2 h
      obtain ⟨h2, h3⟩ := and2 h2
      exact s_b2 B hX h1 (e_ok B a hX h2) (e_ok B d hX h3) (embE_star h2) (embE_star h3)
    · cases h
  | .bits a, x, k, X, W, hX, h => by
    unfold embE at h
    split at h
    · obtain ⟨h1, h2⟩ := and2 h
      obtain ⟨h2, h3⟩ := and2 h2
      obtain ⟨h3, h4⟩ := and2 h3
      have e := of_decide_eq_true h1
      subst e
      exact s_bits (e_ok B a hX h4) h3 h2
    · cases h
  | .repr a, x, k, X, W, hX, h => by
    unfold embE at h
    split at h
    · obtain ⟨h1, h2⟩ := and2 h
      exact s_repr B hX h1 (e_ok B a hX h2) (embE_star h2)
    · cases h
  | .isi a c, x, k, X, W, hX, h => by
    unfold embE at h
    split at h
    · obtain ⟨h1, h2⟩ := and2 h
      obtain ⟨h2, h3⟩ := and2 h2
      exact s_isi B hX h1 h2 (e_ok B a hX h3) (embE_star h3)
    · cases h
  | .dsub y i, x, k, X, W, hX, h => by
    unfold embE at h
    split at h
    · obtain ⟨h1, h2⟩ := and2 h
      exact s_dsub B hX h1 (e_ok B i hX h2) (embE_ix h2)
    · cases h
theorem f_ok (B : b.Ok) : ∀ (f : Fx) {x : Expr} {k : Eb} {X : Cx} {W : WX}, XOk b n k X W → embF k f x = true → PE X x (tF b n W f)
  | .lst es, x, k, X, W, hX, h => by
    unfold embF at h
    split at h
    · exact f_lst (es_ok B es hX h)
    · cases h
  | .cat a d, x, k, X, W, hX, h => by
    unfold embF at h
    split at h
    · obtain ⟨h1, h2⟩ := and2 h
      exact f_cat hX (e_ok B a hX h1) (e_ok B d hX h2)
    · cases h
  | .rep f m, x, k, X, W, hX, h => by
    unfold embF at h
    split at h
    · obtain ⟨h1, h2⟩ := and2 h
      exact f_rep (f_ok B f hX h1) (e_ok B m hX h2)
    · cases h
  | .sli a lo hi, x, k, X, W, hX, h => by
    unfold embF at h
    split at h
    · obtain ⟨h1, h2⟩ := and2 h
      obtain ⟨h2, h3⟩ := and2 h2
      exact f_sli hX (e_ok B a hX h1) (o_ok B lo hX h2) (o_ok B hi hX h3)
    · cases h
  | .lof a, x, k, X, W, hX, h => by
    unfold embF at h
    split at h
    · obtain ⟨h1, h2⟩ := and2 h
      exact f_lof B hX h1 (e_ok B a hX h2) (embE_star h2)
    · cases h
  | .lc own e p i, x, k, X, W, hX, h => by
    unfold embF at h
    split at h
    · obtain ⟨h1, h2⟩ := and2 h
      obtain ⟨h2, h3⟩ := and2 h2
      obtain ⟨h3, h4⟩ := and2 h3
      obtain ⟨h4, h5⟩ := and2 h4
      exact f_lc hX h1 h2 h4 (i_ok B i hX h5) (fun X' hX' => e_ok B e hX' h3) (embI_set h5 _)
    · cases h
  | .lcf own e p i t, x, k, X, W, hX, h => by
    unfold embF at h
    split at h
    · obtain ⟨h1, h2⟩ := and2 h
      obtain ⟨h2, h3⟩ := and2 h2
      obtain ⟨h3, h4⟩ := and2 h3
      obtain ⟨h4, h5⟩ := and2 h4
      obtain ⟨h5, h6⟩ := and2 h5
      exact f_lcf hX h1 h2 h5 (i_ok B i hX h6) (fun X' hX' => e_ok B e hX' h3) (fun X' hX' => (t_ok B t hX' h4).1) (embI_set h6 _)
    · cases h
theorem t_ok (B : b.Ok) : ∀ (t : Tx) {x : Expr} {k : Eb} {X : Cx} {W : WX}, XOk b n k X W → embT k t x = true → PT X x (tT b n W t) ∧ (isBoolT t = true → PW X x (tT b n W t))
  | .cmp o a d, x, k, X, W, hX, h => by
    unfold embT at h
    split at h
    · obtain ⟨h1, h2⟩ := and2 h
      obtain ⟨h2, h3⟩ := and2 h2
      have e := copB_eq h1
      subst e
      exact ⟨t_cmp hX (e_ok B a hX h2) (e_ok B d hX h3) (embE_mark h3 _), fun z => absurd z Bool.false_ne_true⟩
    · cases h
  | .chn o o' a d u, x, k, X, W, hX, h => by
    unfold embT at h
    split at h
    · obtain ⟨h1, h2⟩ := and2 h
      obtain ⟨h2, h3⟩ := and2 h2
      obtain ⟨h3, h4⟩ := and2 h3
      obtain ⟨h4, h5⟩ := and2 h4
      have e := copB_eq h1
      subst e
      have e := copB_eq h2
      subst e
      exact ⟨t_chn hX (e_ok B a hX h3) (e_ok B d hX h4) (e_ok B u hX h5) (embE_mark h5 _), fun z => absurd z Bool.false_ne_true⟩
    · cases h
  | .tru a, x, k, X, W, hX, h => by
    unfold embT at h
    obtain ⟨h1, h2⟩ := and2 h
    exact ⟨t_tru hX (e_ok B a hX h2) h1, fun z => absurd z Bool.false_ne_true⟩
  | .truO y, x, k, X, W, hX, h => by
    unfold embT at h
    split at h
    · exact ⟨t_truO hX h, fun z => absurd z Bool.false_ne_true⟩
    · cases h
  | .andT a d, x, k, X, W, hX, h => by
    unfold embT at h
    split at h
    · obtain ⟨h1, h2⟩ := and2 h
      obtain ⟨h2, h3⟩ := and2 h2
      have r := w_and (t_ok B a hX h1).1 ((t_ok B d hX h3).2 h2)
      exact ⟨r.pt, fun _ => r⟩
    · cases h
  | .orT a d, x, k, X, W, hX, h => by
    unfold embT at h
    split at h
    · obtain ⟨h1, h2⟩ := and2 h
      obtain ⟨h2, h3⟩ := and2 h2
      have r := w_or (t_ok B a hX h1).1 ((t_ok B d hX h3).2 h2)
      exact ⟨r.pt, fun _ => r⟩
    · cases h
  | .one a, x, k, X, W, hX, h => by
    unfold embT at h
    split at h
    · exact ⟨(w_one (t_ok B a hX h).1).pt, fun _ => w_one (t_ok B a hX h).1⟩
    · cases h
  | .notT a, x, k, X, W, hX, h => by
    unfold embT at h
    split at h
    · exact ⟨t_notT (t_ok B a hX h).1, fun z => absurd z Bool.false_ne_true⟩
    · cases h
theorem i_ok (B : b.Ok) : ∀ (i : It) {u x : Expr} {k : Eb} {X : Cx} {W : WX}, XOk b n k X W → embI k i u x = true → PI X u x (tI b n W i)
  | .rng1 a, u, x, k, X, W, hX, h => by
    unfold embI at h
    split at h
    · obtain ⟨h1, h2⟩ := and2 h
      exact i_rng1 B hX h1 (e_ok B a hX h2) (embE_star h2)
    · cases h
  | .rng2 a d, u, x, k, X, W, hX, h => by
    unfold embI at h
    split at h
    · obtain ⟨h1, h2⟩ := and2 h
      obtain ⟨h2, h3⟩ := and2 h2
      exact i_rng2 B hX h1 (e_ok B a hX h2) (e_ok B d hX h3) (embE_star h2) (embE_star h3)
    · cases h
  | .enu a, u, x, k, X, W, hX, h => by
    unfold embI at h
    split at h
    · obtain ⟨h1, h2⟩ := and2 h
      exact i_enu B hX h1 (e_ok B a hX h2) (embE_star h2)
    · cases h
  | .seq a, u, x, k, X, W, hX, h => by
    unfold embI at h
    exact i_seq hX (e_ok B a hX h)
theorem es_ok (B : b.Ok) : ∀ (es : Eps) {xs : List Expr} {k : Eb} {X : Cx} {W : WX}, XOk b n k X W → embEs k es xs = true → PA X xs (tEs b n W es)
  | .nil, xs, k, X, W, hX, h => by
    unfold embEs at h
    split at h
    · exact s_nil
    · cases h
  | .cons e es, xs, k, X, W, hX, h => by
    unfold embEs at h
    split at h
    · obtain ⟨h1, h2⟩ := and2 h
      exact s_cons (e_ok B e hX h1) (es_ok B es hX h2) (embE_star h1 _ _)
    · cases h
theorem o_ok (B : b.Ok) : ∀ (o : Ox) {x : Option Expr} {k : Eb} {X : Cx} {W : WX}, XOk b n k X W → embO k o x = true → PO X x (tO b n W o)
  | .none, x, k, X, W, hX, h => by
    unfold embO at h
    split at h
    · exact o_none
    · cases h
  | .some e, x, k, X, W, hX, h => by
    unfold embO at h
    split at h
    · exact o_some (e_ok B e hX h)
    · cases h
end
theorem setO_ok (B : b.Ok) {k : Eb} {X : Cx} {W : WX} (hX : SOk b n k X W) {i : Nat} {f : Fx} {x : Str} {v : Expr} {p pos : Pos} (hi : k.to i x = true) (h : embF k f v = true) : PS X (.Assign [.Name x p] v pos) (tS b n W (.setO i f)) := by
  by_cases hp : plainC v = true
  · exact q_setO hX.toXOk hi (swNone hp _) (f_ok B f hX.toXOk h)
  · cases f with
    | lc own e q j =>
      unfold embF at h
      split at h
      · obtain ⟨h1, h2⟩ := and2 h
        obtain ⟨h2, h3⟩ := and2 h2
        obtain ⟨h3, h4⟩ := and2 h3
        obtain ⟨h4, h5⟩ := and2 h4
        exact q_setLc hX hi h1 h2 h4 (i_ok B j hX.toXOk h5) (fun X' hX' => e_ok B e hX' h3) (embI_set h5 _)
      · cases h
    | lcf own e q j t =>
      unfold embF at h
      split at h
      · obtain ⟨h1, h2⟩ := and2 h
        obtain ⟨h2, h3⟩ := and2 h2
        obtain ⟨h3, h4⟩ := and2 h3
        obtain ⟨h4, h5⟩ := and2 h4
        obtain ⟨h5, h6⟩ := and2 h5
        exact q_setLcf hX hi h1 h2 h5 (i_ok B j hX.toXOk h6) (fun X' hX' => e_ok B e hX' h3) (fun X' hX' => (t_ok B t hX' h4).1) (embI_set h6 _)
      · cases h
    | _ => cases v <;> first | exact absurd rfl hp | exact absurd (show false = true from h) Bool.false_ne_true
mutual
theorem q_ok (B : b.Ok) : ∀ (s : Sm) {x : Stmt} {k : Eb} {X : Cx} {W : WX}, SOk b n k X W → embS k s x = true → PS X x (tS b n W s)
  | .set i e, x, k, X, W, hX, h => by
    unfold embS at h
    split at h
    · obtain ⟨h1, h2⟩ := and2 h
      obtain ⟨h2, h3⟩ := and2 h2
      exact q_set hX.toXOk h1 h2 (e_ok B e hX.toXOk h3)
    · cases h
  | .setO i f, x, k, X, W, hX, h => by
    unfold embS at h
    split at h
    · obtain ⟨h1, h2⟩ := and2 h
      exact setO_ok B hX h1 h2
    · cases h
  | .asg p e, x, k, X, W, hX, h => by
    unfold embS at h
    split at h
    · obtain ⟨h1, h2⟩ := and2 h
      obtain ⟨h2, h3⟩ := and2 h2
      obtain ⟨h3, h4⟩ := and2 h3
      exact q_asg hX.toXOk h1 h2 h3 (e_ok B e hX.toXOk h4)
    · cases h
  | .par i j e d, x, k, X, W, hX, h => by
    unfold embS at h
    split at h
    · obtain ⟨h1, h2⟩ := and2 h
      obtain ⟨h2, h3⟩ := and2 h2
      obtain ⟨h3, h4⟩ := and2 h3
      obtain ⟨h4, h5⟩ := and2 h4
      exact q_par hX h1 h2 h3 h4 h5 (e_ok B e hX.toXOk h4) (e_ok B d hX.toXOk h5)
    · cases h
  | .aug i o e, x, k, X, W, hX, h => by
    unfold embS at h
    split at h
    · obtain ⟨h1, h2⟩ := and2 h
      obtain ⟨h2, h3⟩ := and2 h2
      exact q_aug hX.toXOk h1 h2 (e_ok B e hX.toXOk h3)
    · cases h
  | .oapp y e, x, k, X, W, hX, h => by
    unfold embS at h
    split at h
    · obtain ⟨h1, h2⟩ := and2 h
      obtain ⟨h2, h3⟩ := and2 h2
      obtain ⟨h3, h4⟩ := and2 h3
      exact q_oapp hX.toXOk h1 (of_decide_eq_true h2) h3 h4 (e_ok B e hX.toXOk h4)
    · cases h
  | .oset y i e, x, k, X, W, hX, h => by
    unfold embS at h
    split at h
    · obtain ⟨h1, h2⟩ := and2 h
      obtain ⟨h2, h3⟩ := and2 h2
      exact q_oset hX.toXOk h1 h2 (e_ok B e hX.toXOk h3) (e_ok B i hX.toXOk h2)
    · cases h
  | .exp e, x, k, X, W, hX, h => by
    unfold embS at h
    split at h
    · obtain ⟨h1, h2⟩ := and2 h
      exact q_exp (e_ok B e hX.toXOk h2) h1
    · cases h
  | .ret e, x, k, X, W, hX, h => by
    unfold embS at h
    split at h
    · exact q_ret (e_ok B e hX.toXOk h)
    · cases h
  | .retN, x, k, X, W, hX, h => by
    unfold embS at h
    split at h
    · exact q_retN
    · cases h
  | .ite t a d, x, k, X, W, hX, h => by
    unfold embS at h
    split at h
    · obtain ⟨h1, h2⟩ := and2 h
      obtain ⟨h2, h3⟩ := and2 h2
      exact q_ite (t_ok B t hX.toXOk h1).1 (qs_ok B a hX h2) (qs_ok B d hX h3)
    · cases h
  | .for_ p i s, x, k, X, W, hX, h => by
    unfold embS at h
    split at h
    · obtain ⟨h1, h2⟩ := and2 h
      obtain ⟨h2, h3⟩ := and2 h2
      exact q_for hX.toXOk h1 (i_ok B i hX.toXOk h2) (qs_ok B s hX h3) (embI_set h2 _)
    · cases h
  | .whl m t s, x, k, X, W, hX, h => by
    unfold embS at h
    split at h
    · obtain ⟨h1, h2⟩ := and2 h
      exact q_whl hX.toXOk (t_ok B t hX.toXOk h1).1 (qs_ok B s hX h2)
    · cases h
  | .brk, x, k, X, W, hX, h => by
    unfold embS at h
    split at h
    · exact q_brk
    · cases h
  | .cnt, x, k, X, W, hX, h => by
    unfold embS at h
    split at h
    · exact q_cnt
    · cases h
  | .pas, x, k, X, W, hX, h => by
    unfold embS at h
    split at h
    · exact q_pas
    · cases h
  | .frz y, x, k, X, W, hX, h => by
    unfold embS at h
    cases h
theorem qs_ok (B : b.Ok) : ∀ (ss : List Sm) {xs : List Stmt} {k : Eb} {X : Cx} {W : WX}, SOk b n k X W → embSs k ss xs = true → PSs X xs (tSs b n W ss)
  | [], xs, k, X, W, hX, h => by
    unfold embSs at h
    split at h
    · exact q_nil
    · cases h
  | s :: r, xs, k, X, W, hX, h => by
    unfold embSs at h
    split at h
    · rename_i hz
      cases s with
      | frz y => exact q_frz (qs_ok B r hX h)
      | _ => cases hz
    · obtain ⟨h1, h2⟩ := and2 h
      exact q_cons (q_ok B s hX h1) (qs_ok B r hX h2)
    · cases h
end
end
end T

/-! T14: defs keep their promise; the law, called with nothing around it. -/
namespace T
open PySem PySem.Spec PyProof.Rows L2
/-! ### a def that is called where no repr is under way -/
structure FnG (P : Program) (w : World) (K : PySem.W.Frag) (mg : Str → Option Value) (base : Heap) (C : CXT) (k : Nat) (f : Addr) (fd : FuncData) (ps : List Str) (sp : Sp) : Prop where
  len : ∀ vs H Q E, sp vs H Q E → vs.length = ps.length
  run : ∀ (A : Around), A.guards = some [] → ∀ (fr : List Env) (s : Shared) (H : Hp) (args : Args) (us : List Value) (vs : List V) (Q : VK) (E : XK),
    Room k A → Env0 P w K mg base A fr s H → BindsTo s fd args (ps.zip us) → Vals vs us → sp vs H Q E → codeAny (model P w) A (.call (.ref f) args) (CR C fr P w H s Q E) s
theorem fn_ofG {C : CXT} {P : Program} {w : World} {K : PySem.W.Frag} {mg : Str → Option Value} {base : Heap} {k : Nat} {f : Addr} {x qual : Str} {pa : Arguments} {bd : List Stmt} {sc : Scope} {dvs : List V} {kws : List (Str × V)} {fd : FuncData} {N ps : List Str} {sp : Sp}
    (F : FunD K x qual pa bd sc dvs kws f fd) (S : FnScope N ps sc) (hlen : ∀ vs H Q E, sp vs H Q E → vs.length = ps.length)
    (hbd : ∀ (cd : Value) (A : Around) (fr : List Env) (s : Shared) (H : Hp) (vs : List V) (Q : VK) (E : XK), A.guards = some [] → Room k (A.deeper (envOfC qual sc s.heap.objs.size f cd)) → sp vs H Q E →
      ∃ t, PSs (cxOf C P w K mg base N qual sc f cd A fr s H E) bd t ∧ t { nx := fun _ H' => Q .non H', rt := Q } (start N vs) H) : FnG P w K mg base C (k + 1) f fd ps sp := by
  obtain ⟨oc, od, dV, kV, dc, pm, an, cd, ct, osl, rfl, look, hcode, _, _⟩ := F.ex
  refine ⟨hlen, ?_⟩
  intro A gd fr s H args us vs Q E room en0 bnd rel prom
  have l0 := hlen _ _ _ _ prom
  have up : ∀ b o, base.get? b = some o → s.heap.get? b = some o := fun b o e => (en0.bs b o e).1
  have kin := en0.mod.kin.keeps up
  have kd : ∀ y ∈ ps.zip us, sc.names.lookup y.1 = some .local ∨
      (sc.names.lookup y.1 = some .cell ∧ ((cellsFrom (s.heap.objs.size + 1) sc.names []).lookup y.1).isSome = true) := by
    rintro ⟨nm, v⟩ hy
    rcases S.par nm (List.of_mem_zip hy).1 with q | q
    · exact Or.inl q
    · exact Or.inr (And.intro q (PySem.W.cellsFrom_some _ _ _ (Or.inl q)))
  refine codeAny_call_function room.depth (kin _ _ look) rfl S.co S.gen rfl
    (PySem.W.codeRec_of kin hcode) (bnd _ _ _ _ (wpAny_newFunctionEnv_cells S.kind kd ?_))
  intro env he s1 ic
  cases he
  refine And.intro ((en0.mod.nolimit.keeps up).keeps ic.toInCall.keep) (codeAny_func ?_)
  obtain ⟨t, ht, hq⟩ := hbd cd A fr s H vs Q E gd (room.deeper _) prom
  have J0 := inv_start (CX := C) (K := K) (E := E) S room.hd en0 l0 rel ic
  refine wpAny_mono (ht.run [] s1 (start N vs) H _ J0 hq) ?_ (fun e s2 h2 => h2)
  intro fl s2 h2
  cases fl with
  | ret u =>
    obtain ⟨v, σ2, H2, J, rv, q⟩ := h2
    exact Exists.intro v ⟨H2, J.os, J.bare, J.base, J.hok, rv, q⟩
  | next =>
    obtain ⟨σ2, H2, J, q⟩ := h2
    exact Exists.intro V.non ⟨H2, J.os, J.bare, J.base, J.hok, rfl, q⟩
  | brk =>
    obtain ⟨_, _, _, q⟩ := h2
    exact q.elim
  | cont =>
    obtain ⟨_, _, _, q⟩ := h2
    exact q.elim
/-- the law's call from outside -/
theorem call_lawG {P : Program} {w : World} {K : PySem.W.Frag} {mg mb : Str → Option Value} {C : CXT} {k : Nat} {fa a : Addr} {fd : FuncData} {x : Str} {sp : Sp} {s : Shared} {vs : List Value} {ns : List Int}
    (kin : K.In s.heap) (g1 : s.heap.Ns mainGlobals mg) (g2 : s.heap.Ns builtinsNs mb) (g3 : ∀ y : Str, y ≠ "__name__" → mb y = bootBuiltins y) (g4 : s.heap.NoLimit) (g5 : s.gens = #[])
    (ga : s.heap.get? a = some { cls := .type "list", data := .seq vs.toArray }) (whole : IntsAre vs ns) (short : ns.length ≤ sizeLine) (room : Room k callerA)
    (F : ∀ base : Heap, K.In base → base.Ns mainGlobals mg → FnG P w K mg base C k fa fd [x] sp) (bnd : ∀ (s : Shared) (u : Value), BindsTo s fd ⟨[u], []⟩ [(x, u)])
    (prom : ∀ H : Hp, Only H → SqL K H a (ns.map V.int) → sp [.ref a] H (fun v _ => v = .bl true) fun _ _ _ => False)
    (noX : ∀ H e s2, C [] H s (fun _ _ _ => False) e s2 → False) :
    codeAny (model P w) callerA (.call (.ref fa) ⟨[.ref a], []⟩)
      (fun r s2 => r = .ok (.ret (.bool true)) ∧ OldK s.heap s2.heap ∧ s2.os = s.os ∧ AllBare s2.gens) s := by
  have val := vals_ints whole
  have vlen := whole.length
  suffices main : ∀ H : Hp, Only H → SqL K H a (ns.map V.int) → HOk P w H s.heap → (∀ b, H b ≠ none → b = a) → (H a ≠ none → K.lookup a = none) →
      codeAny (model P w) callerA (.call (.ref fa) ⟨[.ref a], []⟩)
        (fun r s2 => r = .ok (.ret (.bool true)) ∧ OldK s.heap s2.heap ∧ s2.os = s.os ∧ AllBare s2.gens) s by
    cases look : K.lookup a with
    | some o =>
      have e := kin a o look
      rw [ga] at e
      cases e
      exact main (fun _ => none) (fun _ => Or.inl rfl)
        (Or.inr ⟨_, vs.toArray, _, look, rfl, rfl, rfl, by rw [List.size_toArray, vlen]; exact short, by simpa using val⟩)
        (fun b u z => nomatch z) (fun b z => absurd rfl z) (fun z => absurd rfl z)
    | none =>
      let o0 : Obj := { cls := .type "list", data := .seq vs.toArray }
      let H0 : Hp := fun b => if b = a then some (.frz o0 (.lst (ns.map V.int))) else none
      have at_a : H0 a = some (.frz o0 (.lst (ns.map V.int))) := if_pos rfl
      have off : ∀ b, b ≠ a → H0 b = none := fun b z => if_neg z
      refine main H0 ?_ (Or.inl (Or.inr ⟨o0, at_a⟩)) ?_ ?_ (fun _ => look)
      · intro b
        by_cases hb : b = a
        · subst hb
          exact Or.inr ⟨_, _, at_a⟩
        · exact Or.inl (off b hb)
      · intro b u z
        by_cases hb : b = a
        · subst hb
          rw [at_a] at z
          cases z
          exact ⟨ga, by rw [List.length_map]; exact short, vs, _, val, ga⟩
        · rw [off b hb] at z
          cases z
      · intro b z
        by_cases hb : b = a
        · exact hb
        · exact absurd (off b hb) z
  intro H only sq hok isA noK
  have keepB : ∀ {b : Addr} {o : Obj}, s.heap.get? b = some o → H b = none → (hidT s.heap H).get? b = some o := fun e z => hidT_get e z
  have notDict : ∀ {b : Addr} {o : Obj} {es : Array DictEntry} {ep : Nat}, s.heap.get? b = some o → o.data = .dict es ep → H b = none := by
    intro b o es ep e d
    cases q : H b with
    | none => rfl
    | some u =>
      have eb := isA b (by rw [q]; exact fun z => nomatch z)
      rw [eb, ga] at e
      cases e
      cases d
  have keepNs : ∀ {b : Addr} {m : Str → Option Value}, s.heap.Ns b m → (hidT s.heap H).Ns b m := by
    rintro b m ⟨o, es, ep, e, d, r⟩
    exact ⟨o, es, ep, keepB e (notDict e d), d, r⟩
  have kin2 : K.In (hidT s.heap H) := by
    intro b o e
    refine keepB (kin b o e) ?_
    cases q : H b with
    | none => rfl
    | some u =>
      have eb := isA b (by rw [q]; exact fun z => nomatch z)
      have z := noK (by rw [← eb, q]; exact fun z => nomatch z)
      rw [← eb, e] at z
      cases z
  obtain ⟨mc, c1, c2⟩ := g4
  have modl : Mod K mg (hidT s.heap H) := ⟨kin2, keepNs g1, ⟨mb, keepNs g2, g3⟩, ⟨mc, keepNs c1, c2⟩⟩
  have en0 : Env0 P w K mg (hidT s.heap H) callerA [] s H :=
    ⟨rfl, modl, fun b o e => of_hidT e, Nat.le_of_eq (hidT_size _ _), trivial, (fun b hb => nomatch hb), hok, .of_eq g5⟩
  have go := (F _ kin2 (keepNs g1)).run callerA rfl [] s H ⟨[.ref a], []⟩ [.ref a] [.ref a] _ _ room en0 (bnd s (.ref a)) (.cons rfl .nil) (prom H only sq)
  refine codeAny_mono go ?_
  intro r s2 h
  match r, h with
  | .error e, h => exact (noX H e s2 h).elim
  | .ok .next, h => exact h.elim
  | .ok .brk, h => exact h.elim
  | .ok .cont, h => exact h.elim
  | .ok (.ret u), h =>
    obtain ⟨v, H2, os, bare, un, hok2, rv, q⟩ := h
    have q : v = .bl true := q
    subst q
    cases (show u = Value.bool true from rv)
    refine ⟨rfl, OldK.of_keep ?_, os, bare⟩
    intro b o e
    cases q : H b with
    | none => exact un.keep b o e q (fun z => by cases z) (fun z => by cases z)
    | some u =>
      rcases only b with z | ⟨ob, xs, z⟩
      · rw [q] at z
        cases z
      · obtain ⟨e1, _⟩ := hok b _ z
        obtain ⟨e2, _⟩ := hok2 b _ (un.frzs b ob _ z)
        rw [e] at e1
        cases e1
        exact e2
theorem walkG {l : PySem.W.OpenLaw} {n k : Nat} {q : Program} {loose : List Str} {XP : (Str → Option Value) → Heap → Prop} {YP : World → Heap → Prop} {d : DefRec} {C : World → CXT} {x : Str}
    (hn : l.most = some n) (hn2 : n ≤ sizeLine) (hdf : d.params.defaults = []) (room : Room k callerA)
    (F : ∀ (w : World) (mg : Str → Option Value) (fa : Addr) (h : Heap), YP w h → h.Ns mainGlobals mg → mg d.name = some (.ref fa) →
      ∃ (K : PySem.W.Frag) (fd : FuncData) (sp : Sp), K.In h ∧ (∀ (s : Shared) (u : Value), BindsTo s fd ⟨[u], []⟩ [(x, u)]) ∧
        (∀ (H : Hp) (a : Addr) (ns : List Int), ns.length ≤ n → (∀ z ∈ ns, Builtin.Int.intBits z ≤ 1048576) → Only H → SqL K H a (ns.map V.int) →
          sp [.ref a] H (fun v _ => v = .bl true) fun _ _ _ => False) ∧
        ∀ base : Heap, K.In base → base.Ns mainGlobals mg → FnG l.prog w K mg base (C w) k fa fd [x] sp)
    (noX : ∀ (w : World) (H : Hp) (s : Shared) (e : Value) (s2 : Shared), C w [] H s (fun _ _ _ => False) e s2 → False) :
    PySem.W.WalkO q loose XP YP l.row.toRowW d [] (fun f vs => PySem.call f vs) := by
  refine Att.attach_callB hn hdf ?_
  intro w s₀ s₁ mg mb fa o pm cd dc a vs ns G Y _ _ _ hmg hobj whole hlen bits g5
  obtain ⟨K, fd, sp, kin, bnd, prom, hF⟩ := F w mg fa _ Y G.T.g hmg
  exact call_lawG kin G.T.g G.T.b G.T.builtins G.T.nolimit g5 hobj whole (Nat.le_trans hlen hn2) room hF bnd
    (fun H only sq => prom H a ns hlen bits only sq) (fun H e s2 => noX w H s₁ e s2)
end T

/-! T15: each def does what the interpreter says. -/
namespace T
open PySem PySem.Spec PyProof.Rows L2
structure DfOk (b : Bs) (f : Nat) : Prop where
  ex : ∃ (d : Fd) (x qual : Str) (pa : Arguments) (bd : List Stmt) (sc : Scope) (dvs : List V) (kws : List (Str × V)), b.p.fns[f]? = some d ∧ FunD b.c.K x qual pa bd sc dvs kws (b.fA f) (b.fD f) ∧ FnScope d.ns (b.ps f) sc ∧
    d.np = (b.ps f).length ∧ (∀ x ∈ d.ns, (x == ("__debug__" : Str)) = false ∧ (x == ("__classdict__" : Str)) = false) ∧ embSs ⟨d.ns, sc, b.fn, b.gn, b.p.fns.length⟩ d.body bd = true
theorem gloB_ok {sc : Scope} {x : Str} (h : gloB sc x = true) : sc.names.lookup x = some .globalImplicit := by
  unfold gloB at h
  cases e : sc.names.lookup x with
  | none =>
    rw [e] at h
    cases h
  | some q =>
    rw [e] at h
    cases q with
    | globalImplicit => rfl
    | _ => cases h
theorem start_val {c : Ct} {w : Wd} {N : List Str} : ∀ {ds : List D} {vs : List V}, Reps c w ds vs → ∀ (i : Nat) (d : D), (startEn N.length ds)[i]? = some (.val d) → ∃ v, (L2.start N vs)[i]? = some (some v) ∧ Rep c w d v := by
  intro ds vs r i d h
  unfold startEn at h
  unfold L2.start
  by_cases hi : i < ds.length
  · rw [List.getElem?_append_left (by rw [List.length_map]; exact hi), List.getElem?_map] at h
    rw [List.getElem?_append_left (by rw [List.length_map, r.len]; exact hi), List.getElem?_map]
    obtain ⟨e, h1, h2⟩ := Option.map_eq_some_iff.mp h
    cases h2
    obtain ⟨v, h3, h4⟩ := r.get h1
    rw [h3]
    exact ⟨v, rfl, h4⟩
  · rw [List.getElem?_append_right (by rw [List.length_map]; omega)] at h
    obtain ⟨_, z⟩ := List.getElem?_eq_some_iff.mp h
    rw [List.getElem_replicate] at z
    cases z
theorem start_own {n i : Nat} {ds xs : List D} (h : (startEn n ds)[i]? = some (.own xs)) : False := by
  unfold startEn at h
  by_cases hi : i < ds.length
  · rw [List.getElem?_append_left (by rw [List.length_map]; exact hi), List.getElem?_map] at h
    obtain ⟨e, h1, h2⟩ := Option.map_eq_some_iff.mp h
    cases h2
  · rw [List.getElem?_append_right (by rw [List.length_map]; omega)] at h
    obtain ⟨_, z⟩ := List.getElem?_eq_some_iff.mp h
    rw [List.getElem_replicate] at z
    cases z
theorem start_ok {c : Ct} {w : Wd} {H : Hp} {st : Sto} {N : List Str} {ds : List D} {vs : List V} (r : Reps c w ds vs) : EnOk c w H st (startEn N.length ds) (L2.start N vs) :=
  ⟨by unfold startEn L2.start; rw [List.length_append, List.length_append, List.length_map, List.length_map, List.length_replicate, List.length_replicate, r.len], start_val r, fun i xs h => (start_own h).elim, fun i j xs ys l h => (start_own h).elim⟩
section
variable {b : Bs} {n f : Nat}
theorem sok (call : ∀ f, FnOk b.P b.w b.c.K b.mg b.base (L2.CX b.P b.w) (2 * n) (b.fA f) (b.fD f) (b.ps f) (spF b n f)) {N : List Str} {qual : Str} {sc : Scope} {cd : Value} {A : Around} {fr : List Env} {s : Shared} {H : Hp} {E : XK} (S : FnScope N (b.ps f) sc)
    (dbg : ∀ x ∈ N, (x == ("__debug__" : Str)) = false ∧ (x == ("__classdict__" : Str)) = false) (room : Room (2 * n) (A.deeper (envOfC qual sc s.heap.objs.size (b.fA f) cd))) (hot : b.hot = true → A.guards = some []) :
    SOk b n ⟨N, sc, b.fn, b.gn, b.p.fns.length⟩ (cxOf (L2.CX b.P b.w) b.P b.w b.c.K b.mg b.base N qual sc (b.fA f) cd A fr s H E) (fun cls d _ H => E cls d H) where
  P := rfl
  w := rfl
  K := rfl
  mg := rfl
  base := rfl
  N := rfl
  nd := S.nd
  vis := fun x h => visB_ok h
  gl := fun x h => gloB_ok h
  cf := fun x h => h
  loc := fun x h => ⟨locB_ok h, .inl rfl⟩
  calm := rfl
  tk := takes_of rfl rfl rfl rfl
  pso := passes_of rfl
  room := room
  fn := rfl
  gn := rfl
  nf := rfl
  dbg := dbg
  hot := hot
  call := call
  scp := rfl
  kind := S.kind
/-- what a def's body gives, from its end -/
theorem sat_out {c : Ct} {w : Wd} {H : Hp} {st : Sto} {r : SR} {Q : VK} {E : Nat → Hp → Prop} (h : Sat c (rV c) w H st r.out Q E) : SatS c w H st w r { nx := fun _ H' => Q .non H', rt := Q } (fun k _ H' => E k H') := by
  cases r with
  | nx en st' => exact fun w' H' σ l f => h .non w' H' f.po mk_non
  | rt d st' => exact fun w' H' v l p r => h v w' H' p r
  | bk en st' => exact (show False from h).elim
  | ct en st' => exact (show False from h).elim
  | exc i en st' => exact fun w' H' σ l f => h w' H' f.po
  | stk => exact h
/-- what a def sees of the others -/
def gN (p : Pg) (m : Nat) (hot : Bool) : G := ⟨fun f sh ds st => match p.shp f sh ds with
  | some ds => callF p m f ds st
  | none => .stk, p.glo, p.dct, hot⟩
theorem callF_eq {p : Pg} {f m : Nat} {ds : List D} {st : Sto} {d : Fd} (hd : p.fns[f]? = some d) : callF p (m + 1) f ds st = if ds.length = d.np then (evSs (gN p m false) d.body (startEn d.ns.length ds) st).out else .stk := by
  have e : callF p (m + 1) f ds st = match p.fns[f]? with
    | some d => if ds.length = d.np then (evSs (gN p m false) d.body (startEn d.ns.length ds) st).out else .stk
    | none => .stk := rfl
  rw [e, hd]
theorem runL_eq {p : Pg} {f m : Nat} {ds : List D} {st : Sto} {d : Fd} (hd : p.fns[f]? = some d) : runL p m f ds st = if ds.length = d.np then (evSs (gN p m true) d.body (startEn d.ns.length ds) st).out else .stk := by
  have e : runL p m f ds st = match p.fns[f]? with
    | some d => if ds.length = d.np then (evSs (gN p m true) d.body (startEn d.ns.length ds) st).out else .stk
    | none => .stk := rfl
  rw [e, hd]
theorem gOf_eq (b : Bs) (n : Nat) : gOf b n = gN b.p n b.hot := rfl
theorem callF_out {p : Pg} {f m : Nat} {ds : List D} {st : Sto} {d : Fd} (hd : p.fns[f]? = some d) (h : callF p (m + 1) f ds st ≠ .stk) : ds.length = d.np ∧ callF p (m + 1) f ds st = (evSs (gN p m false) d.body (startEn d.ns.length ds) st).out := by
  rw [callF_eq hd] at h ⊢
  split at h
  · rename_i hl
    rw [if_pos hl]
    exact ⟨hl, rfl⟩
  · exact absurd rfl h
theorem sat_ne {α γ : Type} {c : Ct} {rep : RepT α γ} {w : Wd} {H : Hp} {st : Sto} {r : Res α} {Q : γ → Hp → Prop} {E : Nat → Hp → Prop} (h : Sat c rep w H st r Q E) : r ≠ .stk := fun z => by
  rw [z] at h
  exact h
theorem fn_all (B : b.Ok) (hot : b.hot = false) (Df : ∀ f, f < b.p.fns.length → DfOk b f) : ∀ n f, FnOk b.P b.w b.c.K b.mg b.base (L2.CX b.P b.w) (2 * n) (b.fA f) (b.fD f) (b.ps f) (spF b n f)
  | 0, f => ⟨fun vs H Q E ⟨w, st, ds, _, _, h, _⟩ => h, fun A fr s H args us vs Q E _ _ _ _ ⟨w, st, ds, _, _, _, q⟩ => q.elim⟩
  | n + 1, f => by
    by_cases hf : f < b.p.fns.length
    · obtain ⟨d, x, qual, pa, bd, sc, dvs, kws, hd, F, S, hn, dbg, em⟩ := (Df f hf).ex
      refine F.ok (k := 2 * n + 1) S (fun vs H Q E ⟨w, st, ds, _, _, h, _⟩ => h) fun cd A fr s H vs Q E room ⟨w, st, ds, hr, r, hl, q⟩ => ?_
      have X := sok (fn_all B hot Df n) (qual := qual) (cd := cd) (A := A) (fr := fr) (s := s) (H := H) (E := E) S dbg (room.mono (by omega)) fun z => by rw [hot] at z; cases z
      refine ⟨_, qs_ok B d.body X em, ?_⟩
      obtain ⟨e1, e2⟩ := callF_out hd (sat_ne q)
      rw [e2] at q
      refine ⟨w, H, st, w, st, startEn d.ns.length ds, ⟨.refl hr, start_ok r, fun i xs l h => (start_own h).elim⟩, ?_⟩
      rw [gOf_eq, hot]
      exact sat_out q
    · have e : ∀ ds st, callF b.p (n + 1) f ds st = .stk := fun ds st => by
        have e : callF b.p (n + 1) f ds st = match b.p.fns[f]? with
          | some d => if ds.length = d.np then (evSs (gN b.p n false) d.body (startEn d.ns.length ds) st).out else .stk
          | none => .stk := rfl
        rw [e, List.getElem?_eq_none (by omega)]
      exact ⟨fun vs H Q E ⟨w, st, ds, _, _, h, _⟩ => h, fun A fr s H args us vs Q E _ _ _ _ ⟨w, st, ds, _, _, _, q⟩ => by
        rw [e] at q
        exact q.elim⟩
/-- the law's promise -/
def spL (b : Bs) (n f : Nat) : Sp := fun vs H Q E => ∃ (w : Wd) (st : Sto) (ds : List D), Rel b.c w H st ∧ Reps b.c w ds vs ∧ vs.length = (b.ps f).length ∧ Sat b.c (rV b.c) w H st (runL b.p n f ds st) Q fun k H' => E (.ref (b.c.cA k)) none H'
theorem law_all (B : b.Ok) (hot : b.hot = false) (Df : ∀ f, f < b.p.fns.length → DfOk b f) (n : Nat) {f : Nat} (hf : f < b.p.fns.length) : FnG b.P b.w b.c.K b.mg b.base (L2.CX b.P b.w) (2 * n + 1) (b.fA f) (b.fD f) (b.ps f) (spL b n f) := by
  obtain ⟨d, x, qual, pa, bd, sc, dvs, kws, hd, F, S, hn, dbg, em⟩ := (Df f hf).ex
  refine fn_ofG F S (fun vs H Q E ⟨w, st, ds, _, _, h, _⟩ => h) fun cd A fr s H vs Q E gd room ⟨w, st, ds, hr, r, hl, q⟩ => ?_
  have B2 : Bs.Ok { b with hot := true } := ⟨B.free, B.fmg, B.len, B.shp, B.glo, B.dct⟩
  have X := sok (b := { b with hot := true }) (f := f) (fn_all B hot Df n) (qual := qual) (cd := cd) (A := A) (fr := fr) (s := s) (H := H) (E := E) S dbg room fun _ => gd
  refine ⟨_, qs_ok B2 d.body X em, ?_⟩
  have e1 : runL b.p n f ds st = (evSs (gOf { b with hot := true } n) d.body (startEn d.ns.length ds) st).out := by
    rw [runL_eq hd, if_pos (by rw [hn, ← hl, r.len])]
    rfl
  rw [e1] at q
  exact ⟨w, H, st, w, st, startEn d.ns.length ds, ⟨.refl hr, start_ok r, fun i xs l h => (start_own h).elim⟩, sat_out q⟩
end
end T

/-! T16: what the module's run leaves, looked at; the interpreter's program stands there. -/
namespace T
open PySem PySem.Spec PyProof.Rows L2
/-! ### data that stand in the written part -/
mutual
def repB (K : PySem.W.Frag) : D → Value → Bool
  | .non, u => (match u with
    | .none => true
    | _ => false)
  | .bl b, u => (match u with
    | .bool c => b == c
    | _ => false)
  | .int i, u => (match u with
    | .int j _ => decide (i = j)
    | _ => false)
  | .str x, u => (match u with
    | .str y _ => decide (x = y)
    | _ => false)
  | .lst ds, u => (match u with
    | .ref a => (match K.lookup a with
      | some ⟨.type t, none, .seq its _, _⟩ => decide (t = "list") && (decide (its.size ≤ sizeLine) && repBs K ds its.toList)
      | _ => false)
    | _ => false)
  | .tup ds, u => (match u with
    | .ref a => (match K.lookup a with
      | some ⟨.type t, _, .seq its _, _⟩ => decide (t = "tuple") && (decide (its.size ≤ sizeLine) && repBs K ds its.toList)
      | _ => false)
    | _ => false)
  | .obj _ _, _ => false
  | .ref _, _ => false
def repBs (K : PySem.W.Frag) : List D → List Value → Bool
  | [], us => us.isEmpty
  | d :: ds, us => (match us with
    | u :: us => repB K d u && repBs K ds us
    | [] => false)
end
mutual
theorem repB_ok {c : Ct} : ∀ {d : D} {u : Value}, repB c.K d u = true → ∃ v, RelV v u ∧ ∀ w : Wd, Rep c w d v
  | .non, u, h => by
    unfold repB at h
    split at h
    · exact ⟨.non, rfl, fun w => mk_non⟩
    · cases h
  | .bl b, u, h => by
    unfold repB at h
    split at h
    · have e := eq_of_beq h
      subst e
      exact ⟨.bl _, rfl, fun w => mk_bl⟩
    · cases h
  | .int i, u, h => by
    unfold repB at h
    split at h
    · have e := of_decide_eq_true h
      subst e
      exact ⟨.int _, ⟨_, rfl⟩, fun w => mk_int⟩
    · cases h
  | .str i, u, h => by
    unfold repB at h
    split at h
    · have e := of_decide_eq_true h
      subst e
      exact ⟨.str _, ⟨_, rfl⟩, fun w => mk_str⟩
    · cases h
  | .lst ds, u, h => by
    unfold repB at h
    split at h
    · rename_i a
      split at h
      · rename_i t its m sl q
        obtain ⟨h1, h2⟩ := and2 h
        obtain ⟨h2, h3⟩ := and2 h2
        obtain ⟨vs, r, z⟩ := repBs_ok h3
        refine ⟨.ref a, rfl, fun w => ?_⟩
        unfold Rep
        exact ⟨a, vs, rfl, .inr ⟨_, its, m, q, congrArg Value.type (of_decide_eq_true h1), rfl, rfl, of_decide_eq_true h2, r⟩, z w⟩
      · cases h
    · cases h
  | .tup ds, u, h => by
    unfold repB at h
    split at h
    · rename_i a
      split at h
      · rename_i t od its m sl q
        obtain ⟨h1, h2⟩ := and2 h
        obtain ⟨h2, h3⟩ := and2 h2
        obtain ⟨vs, r, z⟩ := repBs_ok h3
        refine ⟨.ref a, rfl, fun w => ?_⟩
        unfold Rep
        exact ⟨a, vs, rfl, .inr ⟨_, its, m, q, congrArg Value.type (of_decide_eq_true h1), rfl, of_decide_eq_true h2, r⟩, z w⟩
      · cases h
    · cases h
  | .obj _ _, u, h => by
    unfold repB at h
    cases h
  | .ref _, u, h => by
    unfold repB at h
    cases h
theorem repBs_ok {c : Ct} : ∀ {ds : List D} {us : List Value}, repBs c.K ds us = true → ∃ vs, Vals vs us ∧ ∀ w : Wd, Reps c w ds vs
  | [], us, h => by
    unfold repBs at h
    cases us with
    | nil => exact ⟨[], .nil, fun w => mk_nil⟩
    | cons u us => cases h
  | d :: ds, us, h => by
    unfold repBs at h
    split at h
    · obtain ⟨h1, h2⟩ := and2 h
      obtain ⟨v, r, z⟩ := repB_ok h1
      obtain ⟨vs, rs, zs⟩ := repBs_ok h2
      exact ⟨v :: vs, .cons r rs, fun w => mk_cons (z w) (zs w)⟩
    · cases h
end
/-! ### a law's tables -/
structure Df where
  d : Fd
  r : He.DefD
def Df.ps (d : Df) : List Str := d.d.ns.take d.d.np
structure Lw where
  defs : List Df
  gls : List (Str × D)
  dcs : List (Str × List (Str × D))
def Lw.pg (L : Lw) : Pg where
  fns := L.defs.map Df.d
  shp := fun f _ ds => if f < L.defs.length then some ds else none
  glo := fun x => (L.gls[x]?).map (·.2)
  dct := fun x => if x < L.gls.length then none else (L.dcs[x - L.gls.length]?).map (·.2)
def noStr : Str := ""
def Lw.fn (L : Lw) (f : Nat) : Str := match L.defs[f]? with
  | some d => d.r.at_.1
  | none => noStr
def Lw.gn (L : Lw) (x : Nat) : Str := match L.gls[x]? with
  | some g => g.1
  | none => match L.dcs[x - L.gls.length]? with
    | some g => g.1
    | none => noStr
def slB (p : Addr × Obj) : Bool := match p.2.cls with
  | .type t => !decide (t = "list") || p.2.slots.isEmpty
  | _ => true
def dfB (K : PySem.W.Frag) (d : Df) : Bool := He.eqO (PySem.W.nsIn K mainGlobals d.r.at_.1) (some (some (.ref (He.ga K d.r.at_.1)))) && d.r.ok K
def glB (K : PySem.W.Frag) (g : Str × D) : Bool := match PySem.W.nsIn K mainGlobals g.1 with
  | some (some u) => repB K g.2 u
  | _ => false
def kvB (K : PySem.W.Frag) (a : Addr) (q : Str × D) : Bool := match PySem.W.nsIn K a q.1 with
  | some (some u) => repB K q.2 u
  | _ => false
def dcB (K : PySem.W.Frag) (g : Str × List (Str × D)) : Bool := He.eqO (PySem.W.nsIn K mainGlobals g.1) (some (some (.ref (He.ga K g.1)))) && g.2.all (kvB K (He.ga K g.1))
def Lw.chk (L : Lw) (K : PySem.W.Frag) : Bool := K.all slB && (blt.all (fun x => He.eqO (PySem.W.nsIn K mainGlobals x) (some none)) && (L.defs.all (dfB K) && (L.gls.all (glB K) && L.dcs.all (dcB K))))
abbrev Al : Type := Bool × (List He.FnW × List (Option (List (Option (Str × Int)))))
def Lw.obs (L : Lw) (K : PySem.W.Frag) : Al := (L.chk K, (L.defs.map fun d => He.fnW K d.r.at_, L.dcs.map fun g => He.dicW K (He.ga K g.1)))
def Lw.val (L : Lw) (w : World) : Al := (true, (L.defs.map fun d => d.r.val, L.dcs.map fun g => some (He.keysIn w.params (g.2.map (·.1)))))
/-! what is looked at: the globals, and from them on -/
def refsT (o : Obj) : List Addr := match o.data with
  | .seq its _ => its.toList.flatMap He.refV
  | .dict es _ => es.toList.flatMap fun e => He.refV e.val
  | .func fd => He.refV fd.code ++ (He.refV fd.defaults ++ He.refV fd.kwdefaults)
  | .cls cd => [cd.ns]
  | .fields vs => vs.toList.flatMap He.refV
  | _ => []
def reachT (g : Addr → Option Obj) : Nat → Addr → List Addr
  | 0, a => [a]
  | n + 1, a => a :: (match g a with
    | some o => (refsT o).flatMap (reachT g n)
    | none => [])
def fragT (n : Nat) (g : Addr → Option Obj) : PySem.W.Frag := He.frG g (reachT g n mainGlobals)
def hookT (n : Nat) (L : Lw) : PySem.W.Hook where
  α := Al
  obs := fun s => L.obs (fragT n s.heap.get?)
  val := L.val
  says := fun w h => ∃ K : PySem.W.Frag, K.In h ∧ L.obs K = L.val w
  of := fun _ _ e => ⟨_, He.frG_in, e⟩
  keeps := fun _ _ _ ⟨K, hK, c⟩ k => ⟨K, PySem.W.Frag.In.keeps hK k, c⟩
theorem hookT_eq {n : Nat} {L : Lw} {g : Addr → Option Obj} {s : Shared} (h : ∀ a, g a = s.heap.get? a) : L.obs (fragT n g) = (hookT n L).obs s := by
  have e : g = s.heap.get? := funext h
  rw [e] <;> rfl
/-! ### the interpreter's program stands there -/
def fdAt (K : PySem.W.Frag) (a : Addr) : FuncData := match K.lookup a with
  | some ⟨_, _, .func fd, _⟩ => fd
  | _ => PySem.W.fnOf "" "" ⟨[], [], none, [], [], none, []⟩ [] ⟨.function, [], false, false, []⟩ .none .none .none .none none .none .none
theorem slots_of {K : PySem.W.Frag} (h : K.all slB = true) (a : Addr) (o : Obj) (e : K.lookup a = some o) (hc : o.cls = .type "list") : o.slots = #[] := by
  have m : (a, o) ∈ K := by
    clear h
    induction K with
    | nil => cases e
    | cons q r ih =>
      obtain ⟨b, ob⟩ := q
      rw [List.lookup_cons] at e
      cases z : (a == b) with
      | true =>
        rw [z] at e
        cases e
        rw [beq_iff_eq.mp z]
        exact List.mem_cons_self
      | false =>
        rw [z] at e
        exact List.mem_cons_of_mem _ (ih e)
  have s := List.all_eq_true.mp h _ m
  unfold slB at s
  rw [hc] at s
  rw [Bool.or_eq_true] at s
  rcases s with s | s
  · cases s
  · exact Array.isEmpty_iff.mp s
/-- classes and fields have no names here -/
def ctOf (K : PySem.W.Frag) (h : K.all slB = true) (fN : Nat → Str) (inj : ∀ i j, fN i = fN j → i = j) (cA : Nat → Addr) : Ct := ⟨K, cA, fN, inj, slots_of h⟩
/-- what is true of the tables by themselves -/
structure Lw.St (L : Lw) (d : Df) : Prop where
  sc : FnScope d.d.ns d.ps d.r.scope
  np : d.d.np ≤ d.d.ns.length
  db : ∀ x ∈ d.d.ns, (x == ("__debug__" : Str)) = false ∧ (x == ("__classdict__" : Str)) = false
  nm : (d.r.at_.1 == ("__debug__" : Str)) = false
  at_ : d.r.at_.2 = none
  dfl : d.r.dfl = []
  em : embSs ⟨d.d.ns, d.r.scope, L.fn, L.gn, L.defs.length⟩ d.d.body d.r.body = true
  bd : ∀ (kV doc pm : Value) (an : Option Addr) (cdv ct : Value) (us : List Value), us.length = d.ps.length → bindArgs (PySem.W.fnOf d.r.name d.r.qual d.r.params d.r.body d.r.scope .none kV doc pm an cdv ct) ⟨us, []⟩ = pure (d.ps.zip us)
structure Lw.Ok (L : Lw) : Prop where
  df : ∀ d ∈ L.defs, L.St d
  gl : ∀ x : Nat, x < L.gls.length + L.dcs.length → (L.gn x == ("__debug__" : Str)) = false
section
variable {L : Lw} {K : PySem.W.Frag} {w : World} {h : Heap} {mg : Str → Option Value}
def Lw.ps (L : Lw) (f : Nat) : List Str := match L.defs[f]? with
  | some d => d.ps
  | none => []
def Lw.bs (L : Lw) (c : Ct) (P : Program) (w : World) (mg : Str → Option Value) (base : Heap) : Bs where
  P := P
  w := w
  c := c
  mg := mg
  base := base
  p := L.pg
  fn := L.fn
  gn := L.gn
  fA := fun f => He.ga c.K (L.fn f)
  fD := fun f => fdAt c.K (He.ga c.K (L.fn f))
  ps := L.ps
  hot := false
theorem Lw.def_ {d : Df} (e : L.obs K = L.val w) (i : Nat) (hd : L.defs[i]? = some d) : ∃ fd, FunD K d.r.name d.r.qual d.r.params d.r.body d.r.scope (d.r.dvs K) (d.r.kws K) (He.fAd K d.r.at_) fd := by
  have c1 : L.chk K = true := congrArg (fun z : Al => z.1) e
  obtain ⟨_, c1⟩ := and2 c1
  obtain ⟨_, c1⟩ := and2 c1
  obtain ⟨c1, _⟩ := and2 c1
  obtain ⟨_, c2⟩ := and2 (List.all_eq_true.mp c1 d (List.mem_of_getElem? hd))
  have e1 : L.defs.map (fun d => He.fnW K d.r.at_) = L.defs.map fun d => d.r.val := congrArg (fun z : Al => z.2.1) e
  have e2 : (L.defs.map fun d => He.fnW K d.r.at_)[i]? = (L.defs.map fun d => d.r.val)[i]? := by rw [e1]
  rw [List.getElem?_map, List.getElem?_map, hd] at e2
  exact He.DefD.funD (Option.some.inj e2) c2
theorem fdAt_eq {x qual : Str} {pa : Arguments} {bd : List Stmt} {sc : Scope} {dvs : List V} {kws : List (Str × V)} {a : Addr} {fd : FuncData} (F : FunD K x qual pa bd sc dvs kws a fd) : fdAt K a = fd := by
  obtain ⟨oc, od, dV, kV, doc, pm, an, cdv, ct, osl, rfl, e, _⟩ := F.ex
  unfold fdAt
  rw [e]
/-- the def at f, as the interpreter's context wants it -/
theorem Lw.at_def (O : L.Ok) {c : Ct} {P : Program} {base : Heap} (e : L.obs c.K = L.val w) {f : Nat} {d : Df} (hd : L.defs[f]? = some d) :
    FunD c.K d.r.name d.r.qual d.r.params d.r.body d.r.scope [] (d.r.kws c.K) ((L.bs c P w mg base).fA f) ((L.bs c P w mg base).fD f) := by
  have S := O.df d (List.mem_of_getElem? hd)
  obtain ⟨fd, F⟩ := Lw.def_ e f hd
  have ea : He.fAd c.K d.r.at_ = He.ga c.K (L.fn f) := by
    unfold Lw.fn
    rw [hd]
    unfold He.fAd
    rw [S.at_]
  rw [ea] at F
  have ed : d.r.dvs c.K = [] := by
    unfold He.DefD.dvs
    rw [S.dfl]
    rfl
  rw [ed] at F
  have e2 := fdAt_eq F
  show FunD c.K d.r.name d.r.qual d.r.params d.r.body d.r.scope [] (d.r.kws c.K) (He.ga c.K (L.fn f)) (fdAt c.K (He.ga c.K (L.fn f)))
  rw [e2]
  exact F
theorem Lw.len (L : Lw) : L.pg.fns.length = L.defs.length := by
  show (L.defs.map Df.d).length = _
  rw [List.length_map]
theorem Lw.fns_at {f : Nat} {d : Df} (hd : L.defs[f]? = some d) : L.pg.fns[f]? = some d.d := by
  show (L.defs.map Df.d)[f]? = _
  rw [List.getElem?_map, hd]
  rfl
theorem Lw.get (L : Lw) {f : Nat} (hf : f < L.pg.fns.length) : ∃ d, L.defs[f]? = some d := ⟨_, List.getElem?_eq_getElem (by rw [L.len] at hf; exact hf)⟩
theorem Df.np_len {L : Lw} {d : Df} (S : L.St d) : d.d.np = d.ps.length := by
  unfold Df.ps
  rw [List.length_take]
  exact (Nat.min_eq_left S.np).symm
theorem Lw.df_ok (O : L.Ok) {c : Ct} {P : Program} {base : Heap} (e : L.obs c.K = L.val w) : ∀ f, f < (L.bs c P w mg base).p.fns.length → DfOk (L.bs c P w mg base) f := fun f hf => by
  obtain ⟨d, hd⟩ := L.get hf
  have S := O.df d (List.mem_of_getElem? hd)
  have ep : (L.bs c P w mg base).ps f = d.ps := by
    show Lw.ps L f = _
    unfold Lw.ps
    rw [hd]
  refine ⟨⟨d.d, _, _, _, _, _, _, _, Lw.fns_at hd, Lw.at_def O e hd, by rw [ep]; exact S.sc, by rw [ep]; exact Df.np_len S, S.db, ?_⟩⟩
  show embSs ⟨d.d.ns, d.r.scope, L.fn, L.gn, L.pg.fns.length⟩ d.d.body d.r.body = true
  rw [L.len]
  exact S.em
theorem Lw.bs_ok (O : L.Ok) {c : Ct} (X : c.K.In h) (G : h.Ns mainGlobals mg) {P : Program} {base : Heap} (e : L.obs c.K = L.val w) : (L.bs c P w mg base).Ok := by
  have c0 : L.chk c.K = true := congrArg (fun z : Al => z.1) e
  obtain ⟨_, c1⟩ := and2 c0
  obtain ⟨cf, c1⟩ := and2 c1
  obtain ⟨cd, c1⟩ := and2 c1
  obtain ⟨cg, cc⟩ := and2 c1
  refine ⟨fun x hx => PySem.W.mg_none_of X G (He.eqO_ok (List.all_eq_true.mp cf x hx)), fun f hf => ?_, fun f ds st n hn => ?_, fun f sh ds es he => ?_, fun x d hx => ?_, fun x kvs hx => ?_⟩
  · obtain ⟨d, hd⟩ := L.get hf
    have S := O.df d (List.mem_of_getElem? hd)
    have F := Lw.at_def (mg := mg) (P := P) (base := base) O e hd
    obtain ⟨h1, _⟩ := and2 (List.all_eq_true.mp cd d (List.mem_of_getElem? hd))
    have en : L.fn f = d.r.at_.1 := by
      unfold Lw.fn
      rw [hd]
    have h2 := PySem.W.mg_of X G (He.eqO_ok h1)
    refine ⟨?_, F.kp, ?_⟩
    · show mg (L.fn f) = some (.ref (He.ga c.K (L.fn f)))
      rw [en]
      exact h2
    · show (L.fn f == ("__debug__" : Str)) = false
      rw [en]
      exact S.nm
  · have hf : f < L.pg.fns.length := by
      by_cases hf : f < L.pg.fns.length
      · exact hf
      · refine absurd ?_ hn
        cases n with
        | zero => rfl
        | succ n =>
          have z : callF L.pg (n + 1) f ds st = match L.pg.fns[f]? with
            | some d => if ds.length = d.np then (evSs (gN L.pg n false) d.body (startEn d.ns.length ds) st).out else .stk
            | none => .stk := rfl
          show callF L.pg (n + 1) f ds st = .stk
          rw [z, List.getElem?_eq_none (by omega)]
    obtain ⟨d, hd⟩ := L.get hf
    have S := O.df d (List.mem_of_getElem? hd)
    show ds.length = (Lw.ps L f).length
    unfold Lw.ps
    rw [hd]
    cases n with
    | zero => exact absurd rfl hn
    | succ n =>
      rw [(callF_out (p := L.pg) (Lw.fns_at hd) hn).1]
      exact Df.np_len S
  · have he : (if f < L.defs.length then some ds else none) = some es := he
    split at he
    case isFalse => cases he
    rename_i hfl
    cases he
    refine ⟨[], [], [], (List.append_nil _).symm, fun w => mk_nil, .nil, ?_⟩
    cases hd : L.defs[f]? with
    | some d =>
      have S := O.df d (List.mem_of_getElem? hd)
      have F := Lw.at_def (mg := mg) (P := P) (base := base) O e hd
      show Binds c.K _ (Lw.ps L f) []
      unfold Lw.ps
      rw [hd]
      exact F.bindsN S.bd
    | none =>
      rw [List.getElem?_eq_getElem hfl] at hd
      cases hd
  · obtain ⟨g, h1, rfl⟩ := Option.map_eq_some_iff.mp (show (L.gls[x]?).map (·.2) = some d from hx)
    have h2 := List.all_eq_true.mp cg g (List.mem_of_getElem? h1)
    have en : L.gn x = g.1 := by
      unfold Lw.gn
      rw [h1]
    have hl : x < L.gls.length := (List.getElem?_eq_some_iff.mp h1).1
    unfold glB at h2
    split at h2
    · rename_i u q
      obtain ⟨v, r, z⟩ := repB_ok h2
      exact ⟨v, u, by show mg (L.gn x) = some u; rw [en]; exact PySem.W.mg_of X G q, r, z, O.gl x (by omega)⟩
    · cases h2
  · have hx : (if x < L.gls.length then none else (L.dcs[x - L.gls.length]?).map (·.2)) = some kvs := hx
    split at hx
    · cases hx
    · rename_i hl
      obtain ⟨g, h1, rfl⟩ := Option.map_eq_some_iff.mp hx
      have hl2 := (List.getElem?_eq_some_iff.mp h1).1
      obtain ⟨h2, h3⟩ := and2 (List.all_eq_true.mp cc g (List.mem_of_getElem? h1))
      have en : L.gn x = g.1 := by
        unfold Lw.gn
        rw [List.getElem?_eq_none (by omega)]
        simp only [h1]
      have ed : L.dcs.map (fun g => He.dicW c.K (He.ga c.K g.1)) = L.dcs.map fun g => some (He.keysIn w.params (g.2.map (·.1))) := congrArg (fun z : Al => z.2.2) e
      have ed2 : (L.dcs.map fun g => He.dicW c.K (He.ga c.K g.1))[x - L.gls.length]? = (L.dcs.map fun g => some (He.keysIn w.params (g.2.map (·.1))))[x - L.gls.length]? := by rw [ed]
      rw [List.getElem?_map, List.getElem?_map, h1] at ed2
      obtain ⟨es, m, kd⟩ := He.dicW_ok (Option.some.inj ed2)
      refine ⟨He.ga c.K g.1, by show mg (L.gn x) = _; rw [en]; exact PySem.W.mg_of X G (He.eqO_ok h2), O.gl x (by omega), fun z d hz => ?_⟩
      have h4 : (z, d) ∈ g.2 := by
        clear h1 h2 h3 en ed ed2 kd hx
        generalize g.2 = kvs at hz
        induction kvs with
        | nil => cases hz
        | cons q r ih =>
          obtain ⟨y, d2⟩ := q
          rw [List.lookup_cons] at hz
          cases zz : (z == y) with
          | true =>
            rw [zz] at hz
            cases hz
            rw [beq_iff_eq.mp zz]
            exact List.mem_cons_self
          | false =>
            rw [zz] at hz
            exact List.mem_cons_of_mem _ (ih hz)
      have h5 := List.all_eq_true.mp h3 _ h4
      unfold kvB at h5
      split at h5
      · rename_i u q
        obtain ⟨v, r, zr⟩ := repB_ok h5
        exact ⟨v, ⟨es, m, u, kd.at_, kd.lit, q, r⟩, zr⟩
      · cases h5
end
/-! ### the law -/
theorem inj_rep {i j : Nat} (h : (⟨Array.replicate i 0⟩ : Str) = ⟨Array.replicate j 0⟩) : i = j := by
  have h2 : Array.replicate i 0 = Array.replicate j 0 := congrArg Str.cps h
  have h3 := congrArg Array.size h2
  simpa using h3
/-- no classes, no fields -/
def ct0 (K : PySem.W.Frag) (h : K.all slB = true) : Ct := ctOf K h (fun i => ⟨Array.replicate i 0⟩) (fun _ _ e => inj_rep e) fun _ => 0
theorem Lw.all {L : Lw} {K : PySem.W.Frag} {w : World} (e : L.obs K = L.val w) : K.all slB = true := (and2 (show L.chk K = true from congrArg (fun z : Al => z.1) e)).1
/-- the law's def, called: what the interpreter says of it -/
theorem Lw.law {L : Lw} (O : L.Ok) {K : PySem.W.Frag} {P : Program} {w : World} {h : Heap} {mg : Str → Option Value} {N f : Nat} {d : Df} {x : Str} {fa : Addr} {n : Nat} (hd : L.defs[f]? = some d) (hps : d.ps = [x]) (X : K.In h) (G : h.Ns mainGlobals mg) (e : L.obs K = L.val w)
    (hfa : mg d.r.at_.1 = some (.ref fa)) (plain : ∀ ns : List Int, ns.length ≤ n → (∀ z ∈ ns, Builtin.Int.intBits z ≤ 1048576) → ∃ st, runL L.pg N f [.lst (ns.map D.int)] [] = .ok (.bl true) st) :
    ∃ (fd : FuncData) (sp : Sp), (∀ (s : Shared) (u : Value), BindsTo s fd ⟨[u], []⟩ [(x, u)]) ∧
      (∀ (H : Hp) (a : Addr) (ns : List Int), ns.length ≤ n → (∀ z ∈ ns, Builtin.Int.intBits z ≤ 1048576) → Only H → SqL K H a (ns.map V.int) → sp [.ref a] H (fun v _ => v = .bl true) fun _ _ _ => False) ∧
      ∀ base : Heap, K.In base → base.Ns mainGlobals mg → FnG P w K mg base (L2.CX P w) (2 * N + 1) fa fd [x] sp := by
  have hs := Lw.all e
  let c : Ct := ct0 K hs
  have S := O.df d (List.mem_of_getElem? hd)
  have hf : f < L.pg.fns.length := by
    rw [L.len]
    exact (List.getElem?_eq_some_iff.mp hd).1
  have en : L.fn f = d.r.at_.1 := by
    unfold Lw.fn
    rw [hd]
  have eps : L.ps f = [x] := by
    unfold Lw.ps
    rw [hd]
    exact hps
  have c0 : L.chk K = true := congrArg (fun z : Al => z.1) e
  obtain ⟨h1, _⟩ := and2 (List.all_eq_true.mp (and2 (and2 (and2 c0).2).2).1 d (List.mem_of_getElem? hd))
  have h2 := hfa.symm.trans (PySem.W.mg_of X G (He.eqO_ok h1))
  cases h2
  have F := Lw.at_def (mg := mg) (P := P) (base := h) (c := c) O e hd
  refine ⟨fdAt K (He.ga K d.r.at_.1), spL (L.bs c P w mg h) N f, fun s u => ?_, fun H a ns hl hb ho hq => ?_, fun base KB GB => ?_⟩
  · have b := FunD.bindsA (ps := [x]) F (fun kV doc pm an cdv ct us hl => by
      have z := S.bd kV doc pm an cdv ct us (by rw [hps]; exact hl)
      rw [hps] at z
      exact z) s [u] rfl
    have b : BindsTo s (fdAt K (He.ga K (L.fn f))) ⟨[u], []⟩ [(x, u)] := b
    rw [en] at b
    exact b
  · obtain ⟨st, hst⟩ := plain ns hl hb
    refine ⟨⟨fun _ => 0, 0, H⟩, [], [.lst (ns.map D.int)], ⟨rfl, Ex.refl H, fun n x z => (nomatch (show (none : Option (Option Cell)) = some (some x) from z)), fun n n' x x' z => (nomatch (show (none : Option (Option Cell)) = some (some x) from z))⟩, ?_, ?_, ?_⟩
    · refine mk_cons ?_ mk_nil
      unfold Rep
      refine ⟨a, ns.map V.int, rfl, hq, ?_⟩
      clear hst hq hb hl
      induction ns with
      | nil => exact mk_nil
      | cons i r ih => exact mk_cons mk_int ih
    · show 1 = (L.ps f).length
      rw [eps]
      rfl
    · show Sat _ _ _ _ _ (runL L.pg N f [.lst (ns.map D.int)] []) _ _
      rw [hst]
      intro v w' H' p r
      exact rep_bl r
  · have B := Lw.bs_ok (c := c) (P := P) (base := base) O X G e
    have z := law_all B rfl (Lw.df_ok O e) N hf
    have z : FnG P w K mg base (L2.CX P w) (2 * N + 1) (He.ga K (L.fn f)) (fdAt K (He.ga K (L.fn f))) (L.ps f) (spL (L.bs c P w mg base) N f) := z
    rw [en, eps] at z
    exact ⟨z.len, z.run⟩
end T

/-! T17: the interpreter, taken apart: what each piece gives; loops; texts of data. -/
namespace T
open PySem PySem.Spec
/-- so that simp writes a proof, and nothing is unfolded again -/
theorem nr {α : Sort _} {a b : α} (h : a = b) : a = b := h
section
variable {g : G} {en : En} {st : Sto}
@[simp] theorem bind_ok {α β : Type} {a : α} {f : α → Sto → Res β} : (Res.ok a st).bind f = f a st := nr rfl
@[simp] theorem of_some {α : Type} {a : α} : Res.of (some a) st = .ok a st := nr rfl
@[simp] theorem to_okS {α : Type} {a : α} {f : α → Sto → SR} : (Res.ok a st).to en f = f a st := nr rfl
@[simp] theorem then_nx {f : En → Sto → SR} : (SR.nx en st).andThen f = f en st := nr rfl
@[simp] theorem then_rt {f : En → Sto → SR} {d : D} : (SR.rt d st).andThen f = .rt d st := nr rfl
@[simp] theorem then_bk {f : En → Sto → SR} : (SR.bk en st).andThen f = .bk en st := nr rfl
@[simp] theorem then_ct {f : En → Sto → SR} : (SR.ct en st).andThen f = .ct en st := nr rfl
@[simp] theorem then_exc {f : En → Sto → SR} {k : Nat} : (SR.exc k en st).andThen f = .exc k en st := nr rfl
@[simp] theorem out_nx : (SR.nx en st).out = .ok .non st := nr rfl
@[simp] theorem out_rt {d : D} : (SR.rt d st).out = .ok d st := nr rfl
@[simp] theorem out_exc {k : Nat} : (SR.exc k en st).out = .exc k st := nr rfl
/-! pieces -/
@[simp] theorem ev_var {i : Nat} : evE g (.var i) en st = match en[i]? with
    | some (.val d) => .ok d st
    | _ => .stk := nr rfl
@[simp] theorem ev_cint {i : Int} : evE g (.cint i) en st = .ok (.int i) st := nr rfl
@[simp] theorem ev_cstr {s : Str} : evE g (.cstr s) en st = .ok (.str s) st := nr rfl
@[simp] theorem ev_cbl {b : Bool} : evE g (.cbl b) en st = .ok (.bl b) st := nr rfl
@[simp] theorem ev_cnon : evE g .cnon en st = .ok .non st := nr rfl
@[simp] theorem ev_glo {x : Nat} : evE g (.glo x) en st = .of (g.glo x) st := nr rfl
@[simp] theorem ev_bin {o : BOp} {a b : Ep} : evE g (.bin o a b) en st = (evE g a en st).bind fun x st => (evE g b en st).bind fun y st => .of (binV o x y) st := nr rfl
@[simp] theorem ev_neg {a : Ep} : evE g (.neg a) en st = (evE g a en st).bind fun x st => match x with
    | .int i => .ok (.int (-i)) st
    | _ => .stk := nr rfl
@[simp] theorem ev_cmp {o : COp} {a b : Ep} : evE g (.cmp o a b) en st = (evE g a en st).bind fun x st => (evE g b en st).bind fun y st => .of ((cmpV o x y).map D.bl) st := nr rfl
@[simp] theorem ev_chn {o o' : COp} {a b d : Ep} : evE g (.chn o o' a b d) en st = (evE g a en st).bind fun x st => (evE g b en st).bind fun y st => match cmpV o x y with
    | some true => (evE g d en st).bind fun z st => .of ((cmpV o' y z).map D.bl) st
    | some false => .ok (.bl false) st
    | none => .stk := nr rfl
/-! what follows a test stays folded until the test has its answer -/
def kAnd (g : G) (b : Ep) (en : En) (x : D) (st : Sto) : Res D := match x with
    | .bl true => evE g b en st
    | .bl false => .ok (.bl false) st
    | _ => .stk
def kOr (g : G) (b : Ep) (en : En) (x : D) (st : Sto) : Res D := match x with
    | .bl true => .ok (.bl true) st
    | .bl false => evE g b en st
    | _ => .stk
def kIte (g : G) (a b : Ep) (en : En) (x : Bool) (st : Sto) : Res D := match x with
    | true => evE g a en st
    | false => evE g b en st
def kAndT (g : G) (b : Tx) (en : En) (x : Bool) (st : Sto) : Res Bool := match x with
    | true => evT g b en st
    | false => .ok false st
def kOrT (g : G) (b : Tx) (en : En) (x : Bool) (st : Sto) : Res Bool := match x with
    | true => .ok true st
    | false => evT g b en st
def kIf (g : G) (a b : List Sm) (en : En) (x : Bool) (st : Sto) : SR := match x with
    | true => evSs g a en st
    | false => evSs g b en st
def kSs (g : G) (r : List Sm) (en : En) (st : Sto) : SR := evSs g r en st
def kLcf (g : G) (e : Ep) (en : En) (b : Bool) (st : Sto) : Res (Option D) := match b with
    | true => (evE g e en st).bind fun d st => .ok (some d) st
    | false => .ok none st
@[simp] theorem kAnd_t {b : Ep} : kAnd g b en (.bl true) st = evE g b en st := nr rfl
@[simp] theorem kAnd_f {b : Ep} : kAnd g b en (.bl false) st = .ok (.bl false) st := nr rfl
@[simp] theorem kOr_t {b : Ep} : kOr g b en (.bl true) st = .ok (.bl true) st := nr rfl
@[simp] theorem kOr_f {b : Ep} : kOr g b en (.bl false) st = evE g b en st := nr rfl
@[simp] theorem kIte_t {a b : Ep} : kIte g a b en true st = evE g a en st := nr rfl
@[simp] theorem kIte_f {a b : Ep} : kIte g a b en false st = evE g b en st := nr rfl
@[simp] theorem kAndT_t {b : Tx} : kAndT g b en true st = evT g b en st := nr rfl
@[simp] theorem kAndT_f {b : Tx} : kAndT g b en false st = .ok false st := nr rfl
@[simp] theorem kOrT_t {b : Tx} : kOrT g b en true st = .ok true st := nr rfl
@[simp] theorem kOrT_f {b : Tx} : kOrT g b en false st = evT g b en st := nr rfl
@[simp] theorem kIf_t {a b : List Sm} : kIf g a b en true st = evSs g a en st := nr rfl
@[simp] theorem kIf_f {a b : List Sm} : kIf g a b en false st = evSs g b en st := nr rfl
@[simp] theorem kLcf_t {e : Ep} : kLcf g e en true st = (evE g e en st).bind fun d st => .ok (some d) st := nr rfl
@[simp] theorem kLcf_f {e : Ep} : kLcf g e en false st = .ok none st := nr rfl
@[simp] theorem ev_and {a b : Ep} : evE g (.andE a b) en st = (evE g a en st).bind (kAnd g b en) := nr rfl
@[simp] theorem ev_or {a b : Ep} : evE g (.orE a b) en st = (evE g a en st).bind (kOr g b en) := nr rfl
@[simp] theorem ev_one {a : Ep} : evE g (.one a) en st = evE g a en st := nr rfl
@[simp] theorem ev_not {a : Ep} : evE g (.notE a) en st = (evE g a en st).bind fun x st => match x with
    | .bl b => .ok (.bl (!b)) st
    | _ => .stk := nr rfl
@[simp] theorem ev_ite {t : Tx} {a b : Ep} : evE g (.ite t a b) en st = (evT g t en st).bind (kIte g a b en) := nr rfl
@[simp] theorem ev_tup {es : Eps} : evE g (.tup es) en st = (evEs g es en st).bind fun xs st => if xs.length ≤ lim then .ok (.tup xs) st else .stk := nr rfl
@[simp] theorem ev_fz {f : Fx} : evE g (.fz f) en st = (evF g f en st).bind fun xs st => .ok (.lst xs) st := nr rfl
@[simp] theorem ev_sub {a i : Ep} : evE g (.sub a i) en st = (evE g a en st).bind fun x st => (evE g i en st).bind fun y st => .of (subV x y) st := nr rfl
@[simp] theorem ev_subO {x : Nat} {i : Ep} : evE g (.subO x i) en st = match en[x]? with
    | some (.own xs) => (evE g i en st).bind fun y st => .of (subV (.lst xs) y) st
    | _ => .stk := nr rfl
@[simp] theorem ev_lenO {x : Nat} : evE g (.lenO x) en st = match en[x]? with
    | some (.own xs) => .ok (.int xs.length) st
    | _ => .stk := nr rfl
@[simp] theorem ev_call {f sh : Nat} {e : Ep} {es : Eps} : evE g (.call f sh e es) en st = (evE g e en st).bind fun x st => (evEs g es en st).bind fun xs st => g.call f sh (x :: xs) st := nr rfl
@[simp] theorem ev_call0 {f sh : Nat} : evE g (.call0 f sh) en st = g.call f sh [] st := nr rfl
@[simp] theorem ev_b1 {b : B1} {a : Ep} : evE g (.b1 b a) en st = (evE g a en st).bind fun x st => .of (b1V b x) st := nr rfl
@[simp] theorem ev_b2 {b : B2} {a d : Ep} : evE g (.b2 b a d) en st = (evE g a en st).bind fun x st => (evE g d en st).bind fun y st => .of (b2V b x y) st := nr rfl
@[simp] theorem ev_bits {a : Ep} : evE g (.bits a) en st = (evE g a en st).bind fun x st => match x with
    | .int i => .ok (.int (Builtin.Int.intBits i : Nat)) st
    | _ => .stk := nr rfl
@[simp] theorem ev_repr {a : Ep} : evE g (.repr a) en st = (evE g a en st).bind fun x st => match g.hot with
    | true => .of (reprV x) st
    | false => .stk := nr rfl
@[simp] theorem ev_isi {a : Ep} {c : IC} : evE g (.isi a c) en st = (evE g a en st).bind fun x st => .of ((isiV c x).map D.bl) st := nr rfl
@[simp] theorem ev_dsub {x : Nat} {i : Ep} : evE g (.dsub x i) en st = match g.dct x with
    | some kvs => (evE g i en st).bind fun y st => match y with
      | .str z => .of (kvs.lookup z) st
      | _ => .stk
    | none => .stk := nr rfl
@[simp] theorem es_nil : evEs g .nil en st = .ok [] st := nr rfl
@[simp] theorem es_cons {e : Ep} {es : Eps} : evEs g (.cons e es) en st = (evE g e en st).bind fun x st => (evEs g es en st).bind fun xs st => .ok (x :: xs) st := nr rfl
@[simp] theorem eo_none : evO g .none en st = .ok none st := nr rfl
@[simp] theorem eo_some {e : Ep} : evO g (.some e) en st = (evE g e en st).bind fun x st => match x with
    | .int i => .ok (some i) st
    | _ => .stk := nr rfl
@[simp] theorem ef_lst {es : Eps} : evF g (.lst es) en st = (evEs g es en st).bind fun xs st => if xs.length ≤ lim then .ok xs st else .stk := nr rfl
@[simp] theorem ef_cat {a b : Ep} : evF g (.cat a b) en st = (evE g a en st).bind fun x st => (evE g b en st).bind fun y st => match x, y with
    | .lst xs, .lst ys => if xs.length + ys.length ≤ lim then .ok (xs ++ ys) st else .stk
    | _, _ => .stk := nr rfl
@[simp] theorem ef_rep {f : Fx} {n : Ep} : evF g (.rep f n) en st = (evF g f en st).bind fun xs st => (evE g n en st).bind fun y st => match y with
    | .int k => if k < 9223372036854775808 ∧ -9223372036854775808 ≤ k ∧ xs.length * k.toNat ≤ lim then .ok (List.replicate k.toNat xs).flatten st else .stk
    | _ => .stk := nr rfl
@[simp] theorem ef_sli {a : Ep} {lo hi : Ox} : evF g (.sli a lo hi) en st = (evE g a en st).bind fun x st => (evO g lo en st).bind fun l st => (evO g hi en st).bind fun h st => match x with
    | .lst xs => .ok (cutD xs l h) st
    | _ => .stk := nr rfl
@[simp] theorem ef_lof {a : Ep} : evF g (.lof a) en st = (evE g a en st).bind fun x st => match x with
    | .lst xs => .ok xs st
    | .tup xs => .ok xs st
    | _ => .stk := nr rfl
def cturn (g : G) (own : List Nat) (e : Ep) (p : Pt) (en : En) : D → Sto → Res (Option D) := fun x st => match takeP p x (wipeEn en own) with
  | some en1 => (evE g e en1 st).bind fun d st => .ok (some d) st
  | none => .stk
def cturnf (g : G) (own : List Nat) (e : Ep) (p : Pt) (t : Tx) (en : En) : D → Sto → Res (Option D) := fun x st => match takeP p x (wipeEn en own) with
  | some en1 => (evT g t en1 st).bind (kLcf g e en1)
  | none => .stk
@[simp] theorem ef_lc {own : List Nat} {e : Ep} {p : Pt} {i : It} : evF g (.lc own e p i) en st = (evI g i en st).bind fun xs st => compL (cturn g own e p en) xs [] st := nr rfl
@[simp] theorem ef_lcf {own : List Nat} {e : Ep} {p : Pt} {i : It} {t : Tx} : evF g (.lcf own e p i t) en st = (evI g i en st).bind fun xs st => compL (cturnf g own e p t en) xs [] st := nr rfl
@[simp] theorem et_cmp {o : COp} {a b : Ep} : evT g (.cmp o a b) en st = (evE g a en st).bind fun x st => (evE g b en st).bind fun y st => .of (cmpV o x y) st := nr rfl
@[simp] theorem et_chn {o o' : COp} {a b d : Ep} : evT g (.chn o o' a b d) en st = (evE g a en st).bind fun x st => (evE g b en st).bind fun y st => match cmpV o x y with
    | some true => (evE g d en st).bind fun z st => .of (cmpV o' y z) st
    | some false => .ok false st
    | none => .stk := nr rfl
@[simp] theorem et_tru {a : Ep} : evT g (.tru a) en st = (evE g a en st).bind fun x st => .of (truV x) st := nr rfl
@[simp] theorem et_truO {x : Nat} : evT g (.truO x) en st = match en[x]? with
    | some (.own xs) => .ok (!xs.isEmpty) st
    | _ => .stk := nr rfl
@[simp] theorem et_and {a b : Tx} : evT g (.andT a b) en st = (evT g a en st).bind (kAndT g b en) := nr rfl
@[simp] theorem et_or {a b : Tx} : evT g (.orT a b) en st = (evT g a en st).bind (kOrT g b en) := nr rfl
@[simp] theorem et_one {a : Tx} : evT g (.one a) en st = evT g a en st := nr rfl
@[simp] theorem et_not {a : Tx} : evT g (.notT a) en st = (evT g a en st).bind fun x st => .ok (!x) st := nr rfl
@[simp] theorem ei_rng1 {a : Ep} : evI g (.rng1 a) en st = (evE g a en st).bind fun x st => match x with
    | .int j => if -4611686018427387904 ≤ j ∧ j < 4611686018427387904 then .ok ((List.range j.toNat).map fun (k : Nat) => .int k) st else .stk
    | _ => .stk := nr rfl
@[simp] theorem ei_rng2 {a b : Ep} : evI g (.rng2 a b) en st = (evE g a en st).bind fun x st => (evE g b en st).bind fun y st => match x, y with
    | .int i, .int j => if -4611686018427387904 ≤ i ∧ i < 4611686018427387904 ∧ -4611686018427387904 ≤ j ∧ j < 4611686018427387904 then .ok ((List.range (j - i).toNat).map fun (k : Nat) => .int (i + k)) st else .stk
    | _, _ => .stk := nr rfl
@[simp] theorem ei_seq {a : Ep} : evI g (.seq a) en st = (evE g a en st).bind fun x st => match x with
    | .lst xs => .ok xs st
    | .tup xs => .ok xs st
    | _ => .stk := nr rfl
@[simp] theorem ei_enu {a : Ep} : evI g (.enu a) en st = (evE g a en st).bind fun x st => match x with
    | .lst xs => .ok (xs.mapIdx fun k d => .tup [.int (k : Nat), d]) st
    | _ => .stk := nr rfl
/-! statements -/
@[simp] theorem sv_nil : evSs g [] en st = .nx en st := nr rfl
@[simp] theorem sv_cons {s : Sm} {r : List Sm} : evSs g (s :: r) en st = (evS g s en st).andThen (kSs g r) := nr rfl
@[simp] theorem kSs_eq {r : List Sm} : kSs g r en st = evSs g r en st := nr rfl
@[simp] theorem sv_set {i : Nat} {e : Ep} : evS g (.set i e) en st = (evE g e en st).to en fun x st => .nx (en.set i (.val x)) st := nr rfl
@[simp] theorem sv_setO {i : Nat} {f : Fx} : evS g (.setO i f) en st = (evF g f en st).to en fun xs st => .nx (en.set i (.own xs)) st := nr rfl
@[simp] theorem sv_asg {p : Pt} {e : Ep} : evS g (.asg p e) en st = (evE g e en st).to en fun x st => match takeP p x en with
    | some en => .nx en st
    | none => .stk := nr rfl
@[simp] theorem sv_par {i j : Nat} {e d : Ep} : evS g (.par i j e d) en st = (evE g e en st).to en fun x st => (evE g d en st).to en fun y st => .nx ((en.set i (.val x)).set j (.val y)) st := nr rfl
@[simp] theorem sv_aug {i : Nat} {o : BOp} {e : Ep} : evS g (.aug i o e) en st = match en[i]? with
    | some (.val d) => (evE g e en st).to en fun x st => match binV o d x with
      | some y => .nx (en.set i (.val y)) st
      | none => .stk
    | _ => .stk := nr rfl
@[simp] theorem sv_oapp {x : Nat} {e : Ep} : evS g (.oapp x e) en st = match en[x]? with
    | some (.own xs) => (evE g e en st).to en fun d st => if xs.length < lim then .nx (en.set x (.own (xs ++ [d]))) st else .stk
    | _ => .stk := nr rfl
@[simp] theorem sv_oset {x : Nat} {i e : Ep} : evS g (.oset x i e) en st = match en[x]? with
    | some (.own xs) => (evE g e en st).to en fun d st => (evE g i en st).to en fun k st => match k with
      | .int k => match L2.ixN xs.length k with
        | some j => .nx (en.set x (.own (xs.set j d))) st
        | none => .stk
      | _ => .stk
    | _ => .stk := nr rfl
@[simp] theorem sv_exp {e : Ep} : evS g (.exp e) en st = (evE g e en st).to en fun _ st => .nx en st := nr rfl
@[simp] theorem sv_ret {e : Ep} : evS g (.ret e) en st = (evE g e en st).to en fun d st => .rt d st := nr rfl
@[simp] theorem sv_retN : evS g .retN en st = .rt .non st := nr rfl
@[simp] theorem sv_ite {t : Tx} {a b : List Sm} : evS g (.ite t a b) en st = (evT g t en st).to en (kIf g a b en) := nr rfl
@[simp] theorem sv_for {p : Pt} {i : It} {b : List Sm} : evS g (.for_ p i b) en st = (evI g i en st).to en fun xs st => forL (turn p (evSs g b)) xs en st := nr rfl
@[simp] theorem sv_whl {k : Nat} {t : Tx} {b : List Sm} : evS g (.whl k t b) en st = whlL (evT g t) (evSs g b) k en st := nr rfl
@[simp] theorem sv_brk : evS g .brk en st = .bk en st := nr rfl
@[simp] theorem sv_cnt : evS g .cnt en st = .ct en st := nr rfl
@[simp] theorem sv_pas : evS g .pas en st = .nx en st := nr rfl
@[simp] theorem sv_frz {x : Nat} : evS g (.frz x) en st = match en[x]? with
    | some (.own xs) => .nx (en.set x (.val (.lst xs))) st
    | _ => .stk := nr rfl
end
/-! values -/
@[simp] theorem bv_add {i j : Int} : binV .add (.int i) (.int j) = some (.int (i + j)) := nr rfl
@[simp] theorem bv_sub {i j : Int} : binV .sub (.int i) (.int j) = some (.int (i - j)) := nr rfl
theorem opt_if {c : Prop} [Decidable c] {a : Int} (h : c) : (if c then some a else none).map D.int = some (.int a) := by
  rw [if_pos h]
  rfl
@[simp] theorem bv_mulR {i j : Int} (h : -18446744073709551616 < j ∧ j < 18446744073709551616) : binV .mul (.int i) (.int j) = some (.int (i * j)) := by
  exact opt_if (.inr h)
@[simp] theorem bv_mulL {i j : Int} (h : -18446744073709551616 < i ∧ i < 18446744073709551616) : binV .mul (.int i) (.int j) = some (.int (i * j)) := by
  exact opt_if (.inl h)
@[simp] theorem bv_fdiv {i j : Int} (h : 0 < j ∧ j < 1073741824) : binV .fdiv (.int i) (.int j) = some (.int (i / j)) := by
  exact opt_if h
@[simp] theorem bv_mod {i j : Int} (h : 0 < j) : binV .mod (.int i) (.int j) = some (.int (i % j)) := by
  exact opt_if h
@[simp] theorem bv_shl {i j : Int} (h : 0 ≤ j ∧ j ≤ 1000000 ∧ -18446744073709551616 < i ∧ i < 18446744073709551616) : binV .shl (.int i) (.int j) = some (.int (i * 2 ^ j.toNat)) := by
  exact opt_if h
@[simp] theorem bv_shr {i j : Int} (h : 0 ≤ j) : binV .shr (.int i) (.int j) = some (.int (i / 2 ^ j.toNat)) := by
  exact opt_if h
@[simp] theorem bv_band {i j : Int} : binV .band (.int i) (.int j) = some (.int (Builtin.bitAnd i j)) := nr rfl
@[simp] theorem bv_pow {i j : Int} (h : 0 ≤ j ∧ j ≤ 1000000 ∧ -18446744073709551616 < i ∧ i < 18446744073709551616) : binV .pow (.int i) (.int j) = some (.int (i ^ j.toNat)) := by
  exact opt_if h
@[simp] theorem cv_eq {i j : Int} : cmpV .eq (.int i) (.int j) = some (decide (i = j)) := nr rfl
@[simp] theorem cv_ne {i j : Int} : cmpV .ne (.int i) (.int j) = some (!decide (i = j)) := nr rfl
@[simp] theorem cv_eqs {x y : Str} : cmpV .eq (.str x) (.str y) = some (decide (x = y)) := nr rfl
@[simp] theorem cv_nes {x y : Str} : cmpV .ne (.str x) (.str y) = some (!decide (x = y)) := nr rfl
@[simp] theorem cv_lt {i j : Int} : cmpV .lt (.int i) (.int j) = some (decide (i < j)) := nr rfl
@[simp] theorem cv_le {i j : Int} : cmpV .le (.int i) (.int j) = some (decide (i ≤ j)) := nr rfl
@[simp] theorem cv_gt {i j : Int} : cmpV .gt (.int i) (.int j) = some (decide (j < i)) := nr rfl
@[simp] theorem cv_ge {i j : Int} : cmpV .ge (.int i) (.int j) = some (decide (j ≤ i)) := nr rfl
@[simp] theorem b1_lenL {xs : List D} : b1V .len (.lst xs) = some (.int xs.length) := nr rfl
@[simp] theorem b1_lenT {xs : List D} : b1V .len (.tup xs) = some (.int xs.length) := nr rfl
@[simp] theorem b1_abs {i : Int} : b1V .abs (.int i) = some (.int i.natAbs) := by
  show some (D.int (if i < 0 then -i else i)) = _
  split <;> (congr 2; omega)
@[simp] theorem b1_int {i : Int} : b1V .int (.int i) = some (.int i) := nr rfl
@[simp] theorem b1_sum {xs : List D} : b1V .sum (.lst xs) = (intsOf xs).map fun ns => .int ns.sum := nr rfl
@[simp] theorem b1_any {xs : List D} : b1V .any (.lst xs) = (blsOf xs).map fun ns => .bl (ns.any id) := nr rfl
@[simp] theorem b1_all {xs : List D} : b1V .all (.lst xs) = (blsOf xs).map fun ns => .bl (ns.all id) := nr rfl
@[simp] theorem b2_min {i j : Int} : b2V .min (.int i) (.int j) = some (.int (min i j)) := by
  show some (D.int (if j < i then j else i)) = _
  split <;> (congr 2; omega)
@[simp] theorem b2_max {i j : Int} : b2V .max (.int i) (.int j) = some (.int (max i j)) := by
  show some (D.int (if j > i then j else i)) = _
  split <;> (congr 2; omega)
@[simp] theorem tv_bl {b : Bool} : truV (.bl b) = some b := nr rfl
@[simp] theorem tv_int {i : Int} : truV (.int i) = some (i != 0) := nr rfl
@[simp] theorem tv_lst {xs : List D} : truV (.lst xs) = some (!xs.isEmpty) := nr rfl
@[simp] theorem iv_int {c : IC} {i : Int} : isiV c (.int i) = some (match c with | .int => true | _ => false) := nr rfl
@[simp] theorem iv_lst {c : IC} {i : List D} : isiV c (.lst i) = some (match c with | .list => true | _ => false) := nr rfl
@[simp] theorem iv_tup {c : IC} {i : List D} : isiV c (.tup i) = some (match c with | .tuple => true | _ => false) := nr rfl
@[simp] theorem iv_bl {c : IC} {i : Bool} : isiV c (.bl i) = some (match c with | .int => true | .bool => true | _ => false) := nr rfl
@[simp] theorem iv_str {c : IC} {i : Str} : isiV c (.str i) = some (match c with | .str => true | _ => false) := nr rfl
@[simp] theorem tk_nm {i : Nat} {d : D} {en : En} : takeP (.nm i) d en = some (en.set i (.val d)) := nr rfl
@[simp] theorem tk_tp {a b : Pt} {x y : D} {en : En} : takeP (.tp a b) (.tup [x, y]) en = (takeP a x en).bind (takeP b y) := nr rfl
@[simp] theorem tk_tp3 {a b d : Pt} {x y z : D} {en : En} : takeP (.tp3 a b d) (.tup [x, y, z]) en = ((takeP a x en).bind (takeP b y)).bind (takeP d z) := nr rfl
theorem list_at {α : Type} {xs pre post : List α} {x : α} (h : xs = pre ++ x :: post) : xs[pre.length]? = some x := by rw [h]; simp
theorem range_at {α : Type} {n : Nat} {f : Nat → α} {pre post : List α} {x : α} (h : (List.range n).map f = pre ++ x :: post) : pre.length < n ∧ x = f pre.length := by
  have e := list_at h
  rw [List.getElem?_map] at e
  obtain ⟨j, h1, h2⟩ := Option.map_eq_some_iff.mp e
  obtain ⟨h3, h4⟩ := List.getElem?_eq_some_iff.mp h1
  rw [List.length_range] at h3
  rw [List.getElem_range] at h4
  exact ⟨h3, by rw [← h2, h4]⟩
theorem map_at {α β : Type} {xs : List α} {f : α → β} {pre post : List β} {x : β} (h : xs.map f = pre ++ x :: post) : ∃ y, xs[pre.length]? = some y ∧ x = f y := by
  have e := list_at h
  rw [List.getElem?_map] at e
  obtain ⟨j, h1, h2⟩ := Option.map_eq_some_iff.mp e
  exact ⟨j, h1, h2.symm⟩
/-! == of a datum with itself -/
mutual
theorem eqD_refl : ∀ (n : Nat) (d : D), okEq n d = true → eqD d d = true
  | n, .non, _ => rfl
  | n, .bl b, _ => by cases b <;> rfl
  | n, .int i, _ => by unfold eqD; exact beq_self_eq_true i
  | n, .str x, _ => by unfold eqD; exact beq_self_eq_true x
  | n + 1, .lst xs, h => by
    unfold eqD
    exact eqDs_refl n xs h
  | n + 1, .tup xs, h => by
    unfold eqD
    exact eqDs_refl n xs h
  | 0, .lst xs, h => by cases h
  | 0, .tup xs, h => by cases h
  | 0, .obj _ _, h => by cases h
  | n + 1, .obj _ _, h => by cases h
  | 0, .ref _, h => by cases h
  | n + 1, .ref _, h => by cases h
theorem eqDs_refl : ∀ (n : Nat) (ds : List D), okEqs n ds = true → eqDs ds ds = true
  | n, [], _ => rfl
  | n, d :: ds, h => by
    unfold okEqs at h
    obtain ⟨h1, h2⟩ := and2 h
    unfold eqDs
    rw [eqD_refl n d h1, eqDs_refl n ds h2]
    rfl
end
theorem eqV_refl {d : D} (h : okEq 20 d = true) : eqV d d = some true := by
  unfold eqV
  cases d with
  | lst xs => rw [show eqS (.lst xs) (.lst xs) = none from rfl, h, eqD_refl 20 _ h]; rfl
  | tup xs => rw [show eqS (.tup xs) (.tup xs) = none from rfl, h, eqD_refl 20 _ h]; rfl
  | int i => show some (decide (i = i)) = _; rw [decide_eq_true rfl]
  | str i => show some (decide (i = i)) = _; rw [decide_eq_true rfl]
  | bl i => show some (decide (i = i)) = _; rw [decide_eq_true rfl]
  | non => rfl
  | obj _ _ => cases h
  | ref _ => cases h
/-- a suite in two parts -/
theorem evSs_app (g : G) (b : List Sm) : ∀ (a : List Sm) (en : En) (st : Sto), evSs g (a ++ b) en st = (evSs g a en st).andThen (evSs g b)
  | [], en, st => rfl
  | s :: a, en, st => by
    show (evS g s en st).andThen (evSs g (a ++ b)) = ((evS g s en st).andThen (evSs g a)).andThen (evSs g b)
    cases evS g s en st with
    | nx en1 st1 => exact evSs_app g b a en1 st1
    | _ => rfl
theorem evSs_cut {g : G} {ss : List Sm} (n : Nat) {en en1 : En} {st st1 : Sto} (h : evSs g (ss.take n) en st = .nx en1 st1) : evSs g ss en st = evSs g (ss.drop n) en1 st1 := by
  have e := evSs_app g (ss.drop n) (ss.take n) en st
  rw [List.take_append_drop, h] at e
  exact e
/-! ### loops -/
@[simp] theorem forL_nil {body : D → En → Sto → SR} {en : En} {st : Sto} : forL body [] en st = .nx en st := nr rfl
theorem forL_cons {body : D → En → Sto → SR} {x : D} {xs : List D} {en : En} {st : Sto} : forL body (x :: xs) en st = (match body x en st with
    | .nx en st => forL body xs en st
    | .ct en st => forL body xs en st
    | .bk en st => .nx en st
    | r => r) := nr rfl
theorem forL_nx {body : D → En → Sto → SR} {x : D} {xs : List D} {en en1 : En} {st st1 : Sto} (h : body x en st = .nx en1 st1) : forL body (x :: xs) en st = forL body xs en1 st1 := by
  show (match body x en st with
    | .nx en st => forL body xs en st
    | .ct en st => forL body xs en st
    | .bk en st => .nx en st
    | r => r) = _
  rw [h]
theorem forL_ct {body : D → En → Sto → SR} {x : D} {xs : List D} {en en1 : En} {st st1 : Sto} (h : body x en st = .ct en1 st1) : forL body (x :: xs) en st = forL body xs en1 st1 := by
  show (match body x en st with
    | .nx en st => forL body xs en st
    | .ct en st => forL body xs en st
    | .bk en st => .nx en st
    | r => r) = _
  rw [h]
/-- a loop that comes through: the frames are told by the items that are taken -/
theorem forL_all {body : D → En → Sto → SR} {st : Sto} (F : List D → En) : ∀ (xs pre : List D), (∀ (pre' : List D) (x : D) (post : List D), pre ++ xs = pre' ++ x :: post → body x (F pre') st = .nx (F (pre' ++ [x])) st ∨ body x (F pre') st = .ct (F (pre' ++ [x])) st) →
    forL body xs (F pre) st = .nx (F (pre ++ xs)) st
  | [], pre, _ => by rw [List.append_nil]; rfl
  | x :: xs, pre, h => by
    have ih := forL_all F xs (pre ++ [x]) fun pre' y post e => h pre' y post (by rw [← e]; simp)
    rw [List.append_assoc] at ih
    rcases h pre x xs rfl with z | z
    · rw [forL_nx z]
      exact ih
    · rw [forL_ct z]
      exact ih
/-- a loop that comes through: some frame with P -/
theorem forL_inv {body : D → En → Sto → SR} {st : Sto} (P : List D → En → Prop) : ∀ (xs pre : List D) (en : En), P pre en → (∀ (pre' : List D) (x : D) (post : List D) (en : En), pre ++ xs = pre' ++ x :: post → P pre' en → ∃ en', P (pre' ++ [x]) en' ∧ (body x en st = .nx en' st ∨ body x en st = .ct en' st)) →
    ∃ en', P (pre ++ xs) en' ∧ forL body xs en st = .nx en' st
  | [], pre, en, h0, _ => ⟨en, by rw [List.append_nil]; exact h0, rfl⟩
  | x :: xs, pre, en, h0, h => by
    obtain ⟨en1, p1, z⟩ := h pre x xs en rfl h0
    obtain ⟨en2, p2, e2⟩ := forL_inv P xs (pre ++ [x]) en1 p1 fun pre' y post en e => h pre' y post en (by rw [← e]; simp)
    rw [List.append_assoc] at p2
    refine ⟨en2, p2, ?_⟩
    rcases z with z | z
    · rw [forL_nx z]
      exact e2
    · rw [forL_ct z]
      exact e2
/-- a loop that sums up -/
theorem forL_acc {J α : Type} {body : D → En → Sto → SR} {st : Sto} (F : Int → J → En) (φ : α → D) (f : α → Int) : ∀ (xs : List α), (∀ x ∈ xs, ∀ (p : Int) (j : J), ∃ j', body (φ x) (F p j) st = .nx (F (p + f x) j') st) → ∀ (p : Int) (j : J), ∃ j', forL body (xs.map φ) (F p j) st = .nx (F (p + (xs.map f).sum) j') st
  | [], _, p, j => ⟨j, by rw [List.map_nil, List.map_nil, List.sum_nil, Int.add_zero]; rfl⟩
  | x :: xs, h, p, j => by
    obtain ⟨j1, e1⟩ := h x List.mem_cons_self p j
    obtain ⟨j2, e2⟩ := forL_acc F φ f xs (fun y hy => h y (List.mem_cons_of_mem _ hy)) (p + f x) j1
    refine ⟨j2, ?_⟩
    rw [List.map_cons, forL_nx e1, e2, List.map_cons, List.sum_cons, Int.add_assoc]
/-- a comprehension that comes through -/
theorem compL_all {f : D → Sto → Res (Option D)} {st : Sto} (h : D → Option D) : ∀ (xs acc : List D), (∀ x ∈ xs, f x st = .ok (h x) st) → acc.length + xs.length ≤ lim → compL f xs acc st = .ok (acc ++ xs.filterMap h) st
  | [], acc, _, _ => by rw [List.filterMap_nil, List.append_nil]; rfl
  | x :: xs, acc, hf, hl => by
    have hx := hf x List.mem_cons_self
    rw [List.length_cons] at hl
    show (match f x st with
      | .ok none st1 => compL f xs acc st1
      | .ok (some d) st1 => if acc.length < lim then compL f xs (acc ++ [d]) st1 else .stk
      | _ => .stk) = _
    rw [hx, List.filterMap_cons]
    cases e : h x with
    | none => exact compL_all h xs acc (fun y hy => hf y (List.mem_cons_of_mem _ hy)) (by omega)
    | some d =>
      show (if acc.length < lim then compL f xs (acc ++ [d]) st else .stk) = _
      rw [if_pos (by omega), compL_all h xs (acc ++ [d]) (fun y hy => hf y (List.mem_cons_of_mem _ hy)) (by rw [List.length_append, List.length_singleton]; omega), List.append_assoc]
      rfl
theorem compL_map {f : D → Sto → Res (Option D)} {st : Sto} (h : D → D) (xs : List D) (hf : ∀ x ∈ xs, f x st = .ok (some (h x)) st) (hl : xs.length ≤ lim) : compL f xs [] st = .ok (xs.map h) st := by
  rw [compL_all (fun x => some (h x)) xs [] hf (by simpa using hl)]
  simp
theorem compL_fm {α : Type} {f : D → Sto → Res (Option D)} {st : Sto} (φ : α → D) (h : α → Option D) (xs : List α) (hf : ∀ x ∈ xs, f (φ x) st = .ok (h x) st) (hl : xs.length ≤ lim) : compL f (xs.map φ) [] st = .ok (xs.filterMap h) st := by
  have go : ∀ (xs : List α) (acc : List D), (∀ x ∈ xs, f (φ x) st = .ok (h x) st) → acc.length + xs.length ≤ lim → compL f (xs.map φ) acc st = .ok (acc ++ xs.filterMap h) st := by
    intro xs
    induction xs with
    | nil =>
      intro acc _ _
      rw [List.filterMap_nil, List.append_nil]
      rfl
    | cons x xs ih =>
      intro acc hf hl
      rw [List.length_cons] at hl
      rw [List.map_cons, List.filterMap_cons]
      show (match f (φ x) st with
        | .ok none st1 => compL f (xs.map φ) acc st1
        | .ok (some d) st1 => if acc.length < lim then compL f (xs.map φ) (acc ++ [d]) st1 else .stk
        | _ => .stk) = _
      rw [hf x List.mem_cons_self]
      cases e : h x with
      | none => exact ih acc (fun y hy => hf y (List.mem_cons_of_mem _ hy)) (by omega)
      | some d =>
        show (if acc.length < lim then compL f (xs.map φ) (acc ++ [d]) st else .stk) = _
        rw [if_pos (by omega), ih (acc ++ [d]) (fun y hy => hf y (List.mem_cons_of_mem _ hy)) (by rw [List.length_append, List.length_singleton]; omega), List.append_assoc]
        rfl
  rw [go xs [] hf (by simpa using hl), List.nil_append]
theorem compL_mp {α : Type} {f : D → Sto → Res (Option D)} {st : Sto} (φ : α → D) (h : α → D) (xs : List α) (hf : ∀ x ∈ xs, f (φ x) st = .ok (some (h x)) st) (hl : xs.length ≤ lim) : compL f (xs.map φ) [] st = .ok (xs.map h) st := by
  rw [compL_fm φ (fun x => some (h x)) xs hf hl]
  simp
theorem lim_of {n : Nat} (h : n ≤ 1000000) : n ≤ lim := Nat.le_trans h (by decide)
theorem lim_lt {n : Nat} (h : n ≤ 1000000) : n < lim := Nat.lt_of_le_of_lt h (by decide)
/-! ### items by their places -/
theorem sub_nat {xs : List D} {k : Nat} {d : D} (h : xs[k]? = some d) : subV (.lst xs) (.int (k : Nat)) = some d := by
  show L2.atI xs (k : Int) = some d
  have hk : k < xs.length := (List.getElem?_eq_some_iff.mp h).1
  unfold L2.atI L2.ixN
  rw [if_pos (by omega), if_pos (by omega)]
  exact h
theorem subT_nat {xs : List D} {k : Nat} {d : D} (h : xs[k]? = some d) : subV (.tup xs) (.int (k : Nat)) = some d := sub_nat (xs := xs) h
theorem sub_int {xs : List D} {i : Int} {d : D} (h0 : 0 ≤ i) (h : xs[i.toNat]? = some d) : subV (.lst xs) (.int i) = some d := by
  have e : i = (i.toNat : Int) := (Int.toNat_of_nonneg h0).symm
  rw [e]
  exact sub_nat h
theorem subT_int {xs : List D} {i : Int} {d : D} (h0 : 0 ≤ i) (h : xs[i.toNat]? = some d) : subV (.tup xs) (.int i) = some d := sub_int (xs := xs) h0 h
/-! ### texts of data -/
mutual
def fit : Nat → D → Bool
  | _, .non => true
  | _, .bl _ => true
  | _, .int i => decide (i.natAbs < 1000000000000)
  | _, .str x => SeqAt.shaped (.str x) && x.cps.toList.all fun c => decide (c < 16 ^ 8)
  | n + 1, .lst xs => fits n xs
  | n + 1, .tup xs => fits n xs
  | _, _ => false
def fits : Nat → List D → Bool
  | _, [] => true
  | n, x :: xs => fit n x && fits n xs
end
mutual
theorem fit_ok : ∀ (n : Nat) (d : D), fit n d = true → okEq n d = true ∧ (toP d).showable = true ∧ (toP d).leavesShort 13 = true
  | n, .non, _ => ⟨by cases n <;> rfl, rfl, rfl⟩
  | n, .bl b, _ => ⟨by cases n <;> rfl, rfl, rfl⟩
  | n, .int i, h => by
    have h1 : i.natAbs < 1000000000000 := by
      cases n <;> exact of_decide_eq_true h
    refine ⟨by cases n <;> rfl, ?_, ?_⟩
    · show decide (i.natAbs.log2 < 1920) = true
      refine decide_eq_true ?_
      by_cases hz : i.natAbs = 0
      · rw [hz]; decide
      · have := (Nat.log2_lt hz (k := 40)).mpr (by have : (2:Nat)^40 = 1099511627776 := by decide
                                                   omega)
        omega
    · show decide ((PyData.shown (.int i)).length ≤ 13) = true
      exact decide_eq_true (PyData.shown_int_le2 (by omega) (by omega))
  | n, .str x, h => by
    have h1 : (SeqAt.shaped (.str x) && x.cps.toList.all fun c => decide (c < 16 ^ 8)) = true := by
      cases n <;> exact h
    obtain ⟨h2, h3⟩ := and2 h1
    exact ⟨by cases n <;> exact h2, rfl, h3⟩
  | n + 1, .lst xs, h => fits_ok n xs h
  | n + 1, .tup xs, h => fits_ok n xs h
  | 0, .lst xs, h => by cases h
  | 0, .tup xs, h => by cases h
  | 0, .obj _ _, h => by cases h
  | n + 1, .obj _ _, h => by cases h
  | 0, .ref _, h => by cases h
  | n + 1, .ref _, h => by cases h
theorem fits_ok : ∀ (n : Nat) (ds : List D), fits n ds = true → okEqs n ds = true ∧ PyData.showableAll (toPs ds) = true ∧ PyData.leavesShortAll 13 (toPs ds) = true
  | n, [], _ => ⟨rfl, rfl, rfl⟩
  | n, d :: ds, h => by
    unfold fits at h
    obtain ⟨h1, h2⟩ := and2 h
    obtain ⟨a1, a2, a3⟩ := fit_ok n d h1
    obtain ⟨b1, b2, b3⟩ := fits_ok n ds h2
    refine ⟨?_, ?_, ?_⟩
    · unfold okEqs
      rw [a1, b1]
      rfl
    · show ((toP d).showable && PyData.showableAll (toPs ds)) = true
      rw [a2, b2]
      rfl
    · show ((toP d).leavesShort 13 && PyData.leavesShortAll 13 (toPs ds)) = true
      rw [a3, b3]
      rfl
end
theorem wt_int {i : Int} (h : i.natAbs < 1099511627776) : (toP (.int i)).weight ≤ 40 := by
  show (if i == 0 then 0 else i.natAbs.log2 + 1) ≤ 40
  split
  · decide
  · rename_i hz
    have h0 : i.natAbs ≠ 0 := fun z => hz (by rw [Int.natAbs_eq_zero.mp z]; rfl)
    have h2 : (2 : Nat) ^ 40 = 1099511627776 := by decide
    have := (Nat.log2_lt h0 (k := 40)).mpr (by omega)
    omega
@[simp] theorem fit_int {n : Nat} {i : Int} : fit n (.int i) = decide (i.natAbs < 1000000000000) := by cases n <;> exact nr rfl
@[simp] theorem fit_non {n : Nat} : fit n .non = true := by cases n <;> exact nr rfl
@[simp] theorem fit_bl {n : Nat} {b : Bool} : fit n (.bl b) = true := by cases n <;> exact nr rfl
@[simp] theorem fit_lst {n : Nat} {xs : List D} : fit (n + 1) (.lst xs) = fits n xs := nr rfl
@[simp] theorem fit_tup {n : Nat} {xs : List D} : fit (n + 1) (.tup xs) = fits n xs := nr rfl
@[simp] theorem fits_nil {n : Nat} : fits n [] = true := by cases n <;> exact nr rfl
@[simp] theorem fits_cons {n : Nat} {x : D} {xs : List D} : fits n (x :: xs) = (fit n x && fits n xs) := by cases n <;> exact nr rfl
theorem wt_lst {xs : List D} : (toP (.lst xs)).weight = PyData.weightAll (toPs xs) := rfl
theorem wt_tup {xs : List D} : (toP (.tup xs)).weight = PyData.weightAll (toPs xs) := rfl
theorem wt_nil : PyData.weightAll (toPs []) = 0 := rfl
theorem wt_cons {x : D} {xs : List D} : PyData.weightAll (toPs (x :: xs)) = (toP x).weight + 1 + PyData.weightAll (toPs xs) := rfl
theorem wt_non : (toP .non).weight = 0 := rfl
/-- many alike -/
theorem fits_all {n : Nat} : ∀ {xs : List D}, (∀ x ∈ xs, fit n x = true) → fits n xs = true
  | [], _ => fits_nil
  | x :: xs, h => by
    rw [fits_cons, h x List.mem_cons_self, fits_all fun y hy => h y (List.mem_cons_of_mem _ hy)]
    rfl
theorem wt_all {B : Nat} : ∀ {xs : List D}, (∀ x ∈ xs, (toP x).weight ≤ B) → PyData.weightAll (toPs xs) ≤ xs.length * (B + 1)
  | [], _ => Nat.zero_le _
  | x :: xs, h => by
    have h1 := h x List.mem_cons_self
    have h2 := wt_all fun y hy => h y (List.mem_cons_of_mem _ hy)
    rw [wt_cons, List.length_cons, Nat.add_mul, Nat.one_mul]
    omega
theorem fit_repr {d : D} (h : fit 20 d = true) (hw : (toP d).weight ≤ 2 ^ 20) : reprV d = some (.str (toP d).shown) := by
  obtain ⟨h1, h2, h3⟩ := fit_ok 20 d h
  unfold reprV
  have h4 : (toP d).shown.length ≤ lim := PyData.shown_fits (by decide) (by decide) h3 hw
  rw [h1, h2, decide_eq_true h4]
  rfl
end T

namespace My
open PySem PySem.Spec PyProof.Rows L2 T
def top (i : Nat) : Stmt := PySem.Challenge.pw_thaumatrope_k67_prices_and_near_vectors.main.body.getD i (.Pass ⟨0, 0, 0, 0⟩)
def dt (g : Str) (q : Str) (s : Stmt) : He.DefD := match s with
  | .FunctionDef n a b _ _ _ sc _ _ _ => ⟨(g, none), n, q, a, b, sc, [], []⟩
  | _ => ⟨(g, none), q, q, defArgs s, [], defScope s, [], []⟩
def l0_0 : List Sm := [.aug 4 .add (.b1 .sum (.fz (.lcf [2] (.bin .add (.bin .mul (.cint 2) (.bits (.b1 .abs (.var 2)))) (.cint 1)) (.nm 2) (.seq (.var 3)) (.cmp .ne (.var 2) (.cint 0)))))]
def l0_1 : List Sm := [.for_ (.nm 3) (.seq (.var 1)) (l0_0)]
/-- block_price -/
def f0 : Fd := ⟨["block", "blocks", "level", "levels", "price"], 1, [
  .set 4 (.dsub 2 (.sub (.var 0) (.cint 0))),
  .ite (.cmp .ne (.sub (.var 0) (.cint 0)) (.cstr "skip")) [.for_ (.nm 1) (.seq (.sub (.var 0) (.cint 3))) (l0_1)] [],
  .ret (.var 4)]⟩
def d0 : Df := ⟨f0, dt "block_price" "block_price" (top 4)⟩
def l1_0 : List Sm := [.oapp 3 (.tup (.cons (.b2 .min (.b2 .max (.bin .add (.var 4) (.var 1)) (.neg (.glo 0))) (.glo 0)) (.cons (.b2 .min (.b2 .max (.bin .add (.var 5) (.var 2)) (.neg (.glo 0))) (.glo 0)) .nil)))]
/-- near_vectors -/
def f1 : Fd := ⟨["vector", "across", "down", "result", "x", "y"], 1, [
  .asg (.tp (.nm 4) (.nm 5)) (.var 0),
  .setO 3 (.lst .nil),
  .for_ (.tp (.nm 1) (.nm 2)) (.seq (.tup (.cons (.tup (.cons (.cint 0) (.cons (.cint 0) .nil))) (.cons (.tup (.cons (.neg (.glo 1)) (.cons (.cint 0) .nil))) (.cons (.tup (.cons (.glo 1) (.cons (.cint 0) .nil))) (.cons (.tup (.cons (.cint 0) (.cons (.neg (.glo 1)) .nil))) (.cons (.tup (.cons (.cint 0) (.cons (.glo 1) .nil))) .nil))))))) (l1_0),
  .frz 3,
  .ret (.var 3)]⟩
def d1 : Df := ⟨f1, dt "near_vectors" "near_vectors" (top 5)⟩
/-- _law_cell -/
def f2 : Fd := ⟨["_law_script", "_law_k"], 2, [
  .ite (.cmp .lt (.var 1) (.b1 .len (.var 0))) [.ret (.b1 .abs (.b1 .int (.sub (.var 0) (.var 1))))] [],
  .ret (.cint 0)]⟩
def d2 : Df := ⟨f2, dt "_law_cell" "_law_cell" (top 7)⟩
def l3_0 : List Sm := [.ite (.tru (.var 5)) [.oapp 3 (.bin .mod (.b1 .int (.var 0)) (.var 1)), .set 0 (.bin .fdiv (.var 0) (.var 1))] [.oapp 3 (.bin .mod (.bin .mod (.b1 .int (.bin .add (.bin .add (.bin .mul (.var 0) (.cint 48271)) (.bin .mul (.bin .mul (.bin .add (.var 4) (.cint 1)) (.bin .add (.var 4) (.cint 5))) (.cint 69621))) (.bin .mul (.bin .fdiv (.var 0) (.cint 97)) (.var 4)))) (.cint 2147483647)) (.var 1))]]
/-- _law_digits -/
def f3 : Fd := ⟨["_law_cell_here", "_law_base", "_law_most", "_law_digits_here", "_law_k", "_law_large"], 3, [
  .setO 3 (.lst .nil),
  .set 5 (.cmp .ge (.var 0) (.bin .pow (.cint 10) (.cint 18))),
  .for_ (.nm 4) (.rng1 (.var 2)) (l3_0),
  .frz 3,
  .ret (.var 3)]⟩
def d3 : Df := ⟨f3, dt "_law_digits" "_law_digits" (top 8)⟩
/-- _law_is_integer -/
def f4 : Fd := ⟨["_law_actual"], 1, [
  .ret (.andE (.isi (.var 0) .int) (.one (.notE (.isi (.var 0) .bool))))]⟩
def d4 : Df := ⟨f4, dt "_law_is_integer" "_law_is_integer" (top 9)⟩
/-- _law_level -/
def f5 : Fd := ⟨["_law_digit", "_law_worth"], 1, [
  .ite (.cmp .eq (.bin .mod (.var 0) (.cint 3)) (.cint 0)) [.ret (.cint 0)] [],
  .set 1 (.bin .sub (.bin .add (.bin .shl (.cint 1) (.bin .mod (.bin .fdiv (.var 0) (.cint 3)) (.cint 19))) (.bin .mod (.bin .fdiv (.var 0) (.cint 57)) (.cint 3))) (.cint 1)),
  .ite (.cmp .eq (.bin .mod (.bin .fdiv (.var 0) (.cint 171)) (.cint 2)) (.cint 1)) [.ret (.bin .sub (.cint 0) (.var 1))] [],
  .ret (.var 1)]⟩
def d5 : Df := ⟨f5, dt "_law_level" "_law_level" (top 10)⟩
def l6_0 : List Sm := [.set 2 (.ite (.cmp .eq (.var 10) (.cint 4)) (.cint 4) (.cint 1)), .set 7 (.ite (.cmp .eq (.var 10) (.cint 4)) (.cint 16) (.cint 64)), .ite (.andT (.cmp .gt (.var 9) (.cint 0)) (.one (.cmp .eq (.var 1) (.cint 1)))) [.set 2 (.cint 1), .set 7 (.cint 16)] [], .oapp 8 (.fz (.lc [5] (.fz (.lc [4] (.call 5 0 (.sub (.var 3) (.bin .mod (.bin .add (.bin .add (.bin .mul (.cint 7) (.var 9)) (.bin .mul (.cint 5) (.var 5))) (.var 4)) (.cint 40))) .nil) (.nm 4) (.rng1 (.var 7)))) (.nm 5) (.rng1 (.var 2))))]
/-- _law_block -/
def f6 : Fd := ⟨["_law_cell_here", "_law_chroma", "_law_count", "_law_digits_here", "_law_j", "_law_k", "_law_kind", "_law_length", "_law_levels", "_law_plane", "_law_size"], 1, [
  .set 6 (.bin .mod (.var 0) (.cint 3)),
  .ite (.cmp .eq (.var 6) (.cint 2)) [.ret (.tup (.cons (.cstr "skip") .nil))] [],
  .set 1 (.bin .mod (.bin .fdiv (.var 0) (.cint 3)) (.cint 3)),
  .set 10 (.bin .sub (.cint 8) (.bin .mul (.cint 4) (.bin .mod (.bin .fdiv (.var 0) (.cint 9)) (.cint 2)))),
  .set 3 (.call 3 0 (.bin .fdiv (.var 0) (.cint 18)) (.cons (.cint 5130) (.cons (.cint 40) .nil))),
  .setO 8 (.lst .nil),
  .for_ (.nm 9) (.rng1 (.ite (.cmp .eq (.var 1) (.cint 0)) (.cint 1) (.cint 3))) (l6_0),
  .ite (.cmp .eq (.var 6) (.cint 0)) [.frz 8, .ret (.tup (.cons (.cstr "intra") (.cons (.fz (.rep (.lst (.cons (.bin .mod (.bin .fdiv (.var 0) (.cint 11)) (.cint 8)) .nil)) (.ite (.cmp .eq (.var 10) (.cint 8)) (.cint 1) (.cint 4)))) (.cons (.cint 0) (.cons (.var 8) .nil)))))] [],
  .frz 8,
  .ret (.tup (.cons (.cstr "inter") (.cons (.fz (.lst (.cons (.tup (.cons (.cint 0) (.cons (.cint 0) (.cons (.tup (.cons (.bin .mod (.var 0) (.cint 9)) (.cons (.cint 0) .nil))) (.cons .cnon .nil))))) .nil))) (.cons (.var 10) (.cons (.var 8) .nil)))))]⟩
def d6 : Df := ⟨f6, dt "_law_block" "_law_block" (top 11)⟩
def l7_0 : List Sm := [.ite (.cmp .ge (.var 6) (.bin .shl (.cint 1) (.var 2))) [.aug 5 .add (.cint 2)] []]
def l7_1 : List Sm := [.set 6 (.b1 .abs (.var 3)), .ite (.cmp .gt (.var 6) (.cint 0)) [.aug 5 .add (.cint 1)] [], .for_ (.nm 2) (.rng1 (.cint 30)) (l7_0)]
def l7_2 : List Sm := [.for_ (.nm 3) (.seq (.var 4)) (l7_1)]
def l7_3 : List Sm := [.for_ (.nm 4) (.seq (.var 1)) (l7_2)]
/-- _law_price -/
def f7 : Fd := ⟨["_law_block_here", "_law_blocks", "_law_k", "_law_level_here", "_law_levels", "_law_price_here", "_law_worth"], 1, [
  .ite (.cmp .eq (.sub (.var 0) (.cint 0)) (.cstr "skip")) [.ret (.cint 0)] [],
  .set 5 (.ite (.cmp .eq (.sub (.var 0) (.cint 0)) (.cstr "intra")) (.cint 1) (.cint 3)),
  .for_ (.nm 1) (.seq (.sub (.var 0) (.cint 3))) (l7_3),
  .ret (.var 5)]⟩
def d7 : Df := ⟨f7, dt "_law_price" "_law_price" (top 12)⟩
def l8_0 : List Sm := [.oapp 2 (.tup (.cons (.b2 .max (.neg (.cint 1023)) (.b2 .min (.cint 1023) (.bin .add (.var 0) (.sub (.var 3) (.cint 0))))) (.cons (.b2 .max (.neg (.cint 1023)) (.b2 .min (.cint 1023) (.bin .add (.var 1) (.sub (.var 3) (.cint 1))))) .nil)))]
/-- _law_near -/
def f8 : Fd := ⟨["_law_x", "_law_y", "_law_due", "_law_step"], 2, [
  .setO 2 (.lst .nil),
  .for_ (.nm 3) (.seq (.fz (.lst (.cons (.tup (.cons (.cint 0) (.cons (.cint 0) .nil))) (.cons (.tup (.cons (.neg (.cint 4)) (.cons (.cint 0) .nil))) (.cons (.tup (.cons (.cint 4) (.cons (.cint 0) .nil))) (.cons (.tup (.cons (.cint 0) (.cons (.neg (.cint 4)) .nil))) (.cons (.tup (.cons (.cint 0) (.cons (.cint 4) .nil))) .nil)))))))) (l8_0),
  .frz 2,
  .ret (.var 2)]⟩
def d8 : Df := ⟨f8, dt "_law_near" "_law_near" (top 13)⟩
def l9_0 : List Sm := [.ite (.orT (.notT (.tru (.isi (.var 7) .tuple))) (.orT (.notT (.tru (.call 4 0 (.sub (.var 7) (.cint 0)) .nil))) (.one (.notT (.tru (.call 4 0 (.sub (.var 7) (.cint 1)) .nil)))))) [.ret (.cbl false)] []]
def l9_1 : List Sm := [.set 2 (.bin .add (.call 2 0 (.var 0) (.cons (.var 3) .nil)) (.var 3)), .set 1 (.call 6 0 (.var 2) .nil), .set 4 (.repr (.var 1)), .set 6 (.call 0 0 (.var 1) .nil), .ite (.orT (.notT (.tru (.call 4 0 (.var 6) .nil))) (.orT (.cmp .ne (.var 6) (.call 7 0 (.var 1) .nil)) (.one (.cmp .ne (.repr (.var 1)) (.var 4))))) [.ret (.cbl false)] [], .set 8 (.bin .sub (.bin .mod (.bin .fdiv (.var 2) (.cint 5)) (.cint 2047)) (.cint 1023)), .set 9 (.bin .sub (.bin .mod (.bin .fdiv (.var 2) (.cint 7)) (.cint 2047)) (.cint 1023)), .ite (.cmp .eq (.bin .mod (.bin .fdiv (.var 2) (.cint 3)) (.cint 4)) (.cint 0)) [.set 8 (.bin .sub (.cint 1023) (.bin .mod (.bin .fdiv (.var 2) (.cint 11)) (.cint 6)))] [], .ite (.cmp .eq (.bin .mod (.bin .fdiv (.var 2) (.cint 3)) (.cint 4)) (.cint 1)) [.set 9 (.bin .sub (.bin .mod (.bin .fdiv (.var 2) (.cint 11)) (.cint 6)) (.cint 1023))] [], .set 5 (.call 1 0 (.tup (.cons (.var 8) (.cons (.var 9) .nil))) .nil), .ite (.orT (.notT (.tru (.isi (.var 5) .list))) (.one (.cmp .ne (.var 5) (.call 8 0 (.var 8) (.cons (.var 9) .nil))))) [.ret (.cbl false)] [], .for_ (.nm 7) (.seq (.var 5)) (l9_0)]
/-- law -/
def f9 : Fd := ⟨["_law_script", "_law_block_here", "_law_cell_here", "_law_k", "_law_kept", "_law_near_here", "_law_price_here", "_law_vector", "_law_x", "_law_y"], 1, [
  .for_ (.nm 3) (.rng1 (.b2 .min (.bin .add (.cint 1) (.b1 .len (.var 0))) (.cint 8))) (l9_1),
  .ret (.cbl true)]⟩
def d9 : Df := ⟨f9, dt "law" "law" (top 14)⟩
def tab : Lw := ⟨[d0, d1, d2, d3, d4, d5, d6, d7, d8, d9], [("MAX_VECTOR", .int 1023), ("SIDE", .int 4)], [("OVERHEAD", [("skip", .int 0), ("intra", .int 1), ("inter", .int 3)])]⟩
end My

namespace My
open PySem PySem.Spec T
theorem call_at {n f sh : Nat} {h : Bool} {ds : List D} {st : Sto} (hf : f < 10) : (gN tab.pg n h).call f sh ds st = callF tab.pg n f ds st := by
  show (match (if f < 10 then some ds else none) with
    | some ds => callF tab.pg n f ds st
    | none => .stk) = _
  rw [if_pos hf]
@[simp] theorem glo0 {n : Nat} {h : Bool} : (gN tab.pg n h).glo 0 = some (.int 1023) := rfl
@[simp] theorem glo1 {n : Nat} {h : Bool} : (gN tab.pg n h).glo 1 = some (.int 4) := rfl
@[simp] theorem dct2 {n : Nat} {h : Bool} : (gN tab.pg n h).dct 2 = some (([("skip", .int 0), ("intra", .int 1), ("inter", .int 3)] : List (Str × D))) := rfl
@[simp] theorem hotT {n : Nat} : (gN tab.pg n true).hot = true := rfl
theorem s4 (n : Nat) (i : Int) (st : Sto) : callF tab.pg (n + 1) 4 [.int i] st = .ok (.bl true) st := by
  rw [callF_eq (d := f4) rfl]
  simp [f4, startEn]
theorem s2 (n : Nat) (xs : List Int) (k : Nat) (st : Sto) : ∃ c : Nat, callF tab.pg (n + 1) 2 [.lst (xs.map .int), .int k] st = .ok (.int c) st := by
  rw [callF_eq (d := f2) rfl]
  by_cases h : k < xs.length
  · have e : subV (.lst (xs.map .int)) (.int (k : Nat)) = some (.int xs[k]) := sub_nat (by simp [h])
    refine ⟨xs[k].natAbs, ?_⟩
    simp [f2, startEn, h, e]
  · refine ⟨0, ?_⟩
    simp [f2, startEn, h]
/-- the five near vectors -/
def clip (z : Int) : Int := min (max z (-1023)) 1023
theorem clip_eq (z : Int) : max (-1023) (min 1023 z) = clip z := by unfold clip; omega
theorem clip_eq2 (z : Int) : min (max z (-1023)) 1023 = clip z := rfl
def near (x y : Int) : D := .lst [.tup [.int (clip x), .int (clip y)], .tup [.int (clip (x + -4)), .int (clip y)], .tup [.int (clip (x + 4)), .int (clip y)], .tup [.int (clip x), .int (clip (y + -4))], .tup [.int (clip x), .int (clip (y + 4))]]
theorem s1 (n : Nat) (x y : Int) (st : Sto) : callF tab.pg (n + 1) 1 [.tup [.int x, .int y]] st = .ok (near x y) st := by
  rw [callF_eq (d := f1) rfl]
  simp [f1, l1_0, startEn, forL_cons, turn, lim, clip_eq2, near]
theorem s8 (n : Nat) (x y : Int) (st : Sto) : callF tab.pg (n + 1) 8 [.int x, .int y] st = .ok (near x y) st := by
  rw [callF_eq (d := f8) rfl]
  simp [f8, l8_0, startEn, forL_cons, turn, lim, clip_eq, near, subV, L2.atI, L2.ixN]
theorem pow10 : (10 : Int) ^ (18 : Int).toNat = 1000000000000000000 := by decide
theorem s3 (n : Nat) (c : Nat) (st : Sto) : ∃ ds : List Int, ds.length = 40 ∧ (∀ d ∈ ds, 0 ≤ d ∧ d < 5130) ∧ callF tab.pg (n + 1) 3 [.int c, .int 5130, .int 40] st = .ok (.lst (ds.map .int)) st := by
  rw [callF_eq (d := f3) rfl]
  have inv := forL_inv (body := turn (.nm 4) (evSs (gN tab.pg n false) l3_0)) (st := st)
    (fun pre en => ∃ (cell : Int) (ds : List Int) (s : Sl) (b : Bool), en = [.val (.int cell), .val (.int 5130), .val (.int 40), .own (ds.map .int), s, .val (.bl b)] ∧ ds.length = pre.length ∧ ∀ d ∈ ds, 0 ≤ d ∧ d < 5130)
    ((List.range 40).map fun (k : Nat) => D.int k) [] [.val (.int c), .val (.int 5130), .val (.int 40), .own [], .un, .val (.bl (decide ((1000000000000000000 : Int) ≤ c)))] ⟨c, [], .un, _, rfl, rfl, by simp⟩ ?_
  · obtain ⟨en, ⟨cell, ds, s, b, rfl, h1, h2⟩, h3⟩ := inv
    refine ⟨ds, by simpa using h1, h2, ?_⟩
    simp [f3, startEn, lim, pow10] at h3 ⊢
    rw [h3]
    simp
  · rintro pre x post en e ⟨cell, ds, s, b, rfl, h1, h2⟩
    obtain ⟨hk, rfl⟩ := range_at (by simpa using e)
    have hl : ds.length < 16777216 := by omega
    cases b with
    | true =>
      refine ⟨_, ⟨cell / 5130, ds ++ [cell % 5130], .val (.int pre.length), true, rfl, by simp [h1], ?_⟩, .inl ?_⟩
      · intro d hd
        rcases List.mem_append.mp hd with hd | hd
        · exact h2 d hd
        · rw [List.mem_singleton.mp hd]; omega
      · simp [turn, l3_0, lim, hl]
    | false =>
      refine ⟨_, ⟨cell, ds ++ [(cell * 48271 + (↑pre.length + 1) * (↑pre.length + 5) * 69621 + cell / 97 * ↑pre.length) % 2147483647 % 5130], .val (.int pre.length), false, rfl, by simp [h1], ?_⟩, .inl ?_⟩
      · intro d hd
        rcases List.mem_append.mp hd with hd | hd
        · exact h2 d hd
        · rw [List.mem_singleton.mp hd]; omega
      · have e1 : -18446744073709551616 < ((pre.length : Int) + 5) ∧ ((pre.length : Int) + 5) < 18446744073709551616 := by omega
        have e2 : -18446744073709551616 < (pre.length : Int) ∧ (pre.length : Int) < 18446744073709551616 := by omega
        simp [turn, l3_0, lim, hl, bv_mulR, e1, e2]
/-- a level from its digit -/
def lv (d : Int) : Int := if d % 3 = 0 then 0 else if d / 171 % 2 = 1 then 0 - (2 ^ (d / 3 % 19).toNat + d / 57 % 3 - 1) else 2 ^ (d / 3 % 19).toNat + d / 57 % 3 - 1
theorem lv_le (d : Int) : (lv d).natAbs ≤ 300000 := by
  have e2 : (2 : Nat) ^ (d / 3 % 19).toNat ≤ 2 ^ 18 := Nat.pow_le_pow_right (by decide) (by omega)
  have e3 : (2 : Nat) ^ 18 = 262144 := by decide
  have e4 : ((2 : Int) ^ (d / 3 % 19).toNat) = ((2 ^ (d / 3 % 19).toNat : Nat) : Int) := by push_cast; rfl
  unfold lv
  rw [e4]
  generalize (2 : Nat) ^ (d / 3 % 19).toNat = p at e2
  rw [e3] at e2
  split
  · decide
  · split <;> omega
theorem s5 (n : Nat) (d : Int) (st : Sto) : callF tab.pg (n + 1) 5 [.int d] st = .ok (.int (lv d)) st := by
  rw [callF_eq (d := f5) rfl]
  have e1 : 0 ≤ d / 3 % 19 ∧ d / 3 % 19 ≤ 1000000 := by omega
  by_cases a : d % 3 = 0
  · simp [f5, startEn, a, lv]
  · by_cases b : d / 171 % 2 = 1
    · simp [f5, startEn, a, b, e1, lv]
    · simp [f5, startEn, a, b, e1, lv]
theorem inner (n : Nat) (st : Sto) (ds : List Int) (hd : ds.length = 40) (c ch kind size : Int) (s2 s8 : Sl) (p k L : Nat) (hL : L ≤ 64) :
    evE (gN tab.pg (n + 1) false) (.fz (.lc [4] (.call 5 0 (.sub (.var 3) (.bin .mod (.bin .add (.bin .add (.bin .mul (.cint 7) (.var 9)) (.bin .mul (.cint 5) (.var 5))) (.var 4)) (.cint 40))) .nil) (.nm 4) (.rng1 (.var 7))))
      [.val (.int c), .val (.int ch), s2, .val (.lst (ds.map .int)), .un, .val (.int k), .val (.int kind), .val (.int L), s8, .val (.int p), .val (.int size)] st =
    .ok (.lst ((List.range L).map fun j => .int (lv (ds.getD ((7 * p + 5 * k + j) % 40) 0)))) st := by
  have hr : -4611686018427387904 ≤ (L : Int) ∧ (L : Int) < 4611686018427387904 := by omega
  simp only [ev_fz, ef_lc, ei_rng1, ev_var, List.getElem?_cons_succ, List.getElem?_cons_zero, bind_ok, if_pos hr, Int.toNat_natCast]
  rw [compL_mp (fun (j : Nat) => D.int j) (fun j => .int (lv (ds.getD ((7 * p + 5 * k + j) % 40) 0)))]
  · rfl
  · intro j hj
    have hj : j < L := List.mem_range.mp hj
    have e0 : ((7 * (p : Int) + 5 * (k : Int) + (j : Int)) % 40) = (((7 * p + 5 * k + j) % 40 : Nat) : Int) := by omega
    have hm : (7 * p + 5 * k + j) % 40 < ds.length := by omega
    have e1 : subV (.lst (ds.map .int)) (.int (((7 * p + 5 * k + j) % 40 : Nat) : Int)) = some (.int (ds.getD ((7 * p + 5 * k + j) % 40) 0)) := sub_nat (by
      rw [List.getElem?_map, List.getElem?_eq_getElem hm, List.getD_eq_getElem?_getD, List.getElem?_eq_getElem hm]
      rfl)
    rw [← e0] at e1
    simp [cturn, wipeEn, bv_mulL, e1, call_at, s5]
  · rw [List.length_range]
    exact lim_of (by omega)
/-- the blocks of a plane -/
def plane (ds : List Int) (p count L : Nat) : List (List Int) := (List.range count).map fun k => (List.range L).map fun j => lv (ds.getD ((7 * p + 5 * k + j) % 40) 0)
def planeD (b : List (List Int)) : D := .lst (b.map fun l => .lst (l.map .int))
theorem outer (n : Nat) (st : Sto) (ds : List Int) (hd : ds.length = 40) (c ch kind size : Int) (s5 s8 : Sl) (p count L : Nat) (hL : L ≤ 64) (hc : count ≤ 4) :
    evE (gN tab.pg (n + 1) false) (.fz (.lc [5] (.fz (.lc [4] (.call 5 0 (.sub (.var 3) (.bin .mod (.bin .add (.bin .add (.bin .mul (.cint 7) (.var 9)) (.bin .mul (.cint 5) (.var 5))) (.var 4)) (.cint 40))) .nil) (.nm 4) (.rng1 (.var 7)))) (.nm 5) (.rng1 (.var 2))))
      [.val (.int c), .val (.int ch), .val (.int count), .val (.lst (ds.map .int)), .un, s5, .val (.int kind), .val (.int L), s8, .val (.int p), .val (.int size)] st =
    .ok (planeD (plane ds p count L)) st := by
  have hr : -4611686018427387904 ≤ (count : Int) ∧ (count : Int) < 4611686018427387904 := by omega
  rw [ev_fz, ef_lc]
  simp only [ei_rng1, ev_var, List.getElem?_cons_succ, List.getElem?_cons_zero, bind_ok, if_pos hr, Int.toNat_natCast]
  rw [compL_mp (fun (j : Nat) => D.int j) (fun k => .lst ((List.range L).map fun j => .int (lv (ds.getD ((7 * p + 5 * k + j) % 40) 0))))]
  · show Res.ok (D.lst _) st = Res.ok (D.lst _) st
    unfold plane
    rw [List.map_map]
    congr 2
    apply List.map_congr_left
    intro k _
    show D.lst _ = D.lst _
    rw [List.map_map]
    rfl
  · intro k hk
    have z := inner n st ds hd c ch kind size (.val (.int count)) s8 p k L hL
    unfold cturn
    rw [tk_nm]
    show (evE _ _ [.val (.int c), .val (.int ch), .val (.int count), .val (.lst (ds.map .int)), .un, .val (.int k), .val (.int kind), .val (.int L), s8, .val (.int p), .val (.int size)] st).bind _ = _
    rw [z]
    rfl
  · rw [List.length_range]
    exact lim_of (by omega)
def PsOk (ps : List (List (List Int))) : Prop := ∀ p ∈ ps, p.length ≤ 4 ∧ ∀ b ∈ p, b.length ≤ 64 ∧ ∀ l ∈ b, l.natAbs ≤ 300000
theorem plane_ok (ds : List Int) (p count L : Nat) (hL : L ≤ 64) (hc : count ≤ 4) : (plane ds p count L).length ≤ 4 ∧ ∀ b ∈ plane ds p count L, b.length ≤ 64 ∧ ∀ l ∈ b, l.natAbs ≤ 300000 := by
  refine ⟨by unfold plane; rw [List.length_map, List.length_range]; exact hc, fun b hb => ?_⟩
  unfold plane at hb
  obtain ⟨k, _, rfl⟩ := List.mem_map.mp hb
  refine ⟨by rw [List.length_map, List.length_range]; exact hL, fun l hl => ?_⟩
  obtain ⟨j, _, rfl⟩ := List.mem_map.mp hl
  exact lv_le _
theorem PsOk.add {ps : List (List (List Int))} (h : PsOk ps) {q : List (List Int)} (hq : q.length ≤ 4 ∧ ∀ b ∈ q, b.length ≤ 64 ∧ ∀ l ∈ b, l.natAbs ≤ 300000) : PsOk (ps ++ [q]) := by
  intro p hp
  rcases List.mem_append.mp hp with hp | hp
  · exact h p hp
  · rw [List.mem_singleton.mp hp]
    exact hq
/-- a turn of the loop over the planes -/
theorem turn6 (n : Nat) (st : Sto) (ds : List Int) (hd : ds.length = 40) (c ch kind size : Int) (hs : size = 4 ∨ size = 8) (s2 s7 s9 : Sl) (ps : List (List (List Int))) (hps : PsOk ps) (hpl : ps.length ≤ 3) (p : Nat) :
    ∃ (q : List (List Int)) (t2 t7 : Sl), PsOk (ps ++ [q]) ∧ turn (.nm 9) (evSs (gN tab.pg (n + 1) false) l6_0) (.int p)
      [.val (.int c), .val (.int ch), s2, .val (.lst (ds.map .int)), .un, .un, .val (.int kind), s7, .own (ps.map planeD), s9, .val (.int size)] st =
    .nx [.val (.int c), .val (.int ch), t2, .val (.lst (ds.map .int)), .un, .un, .val (.int kind), t7, .own ((ps ++ [q]).map planeD), .val (.int p), .val (.int size)] st := by
  have hl : ps.length < lim := lim_lt (by omega)
  have fin : ∀ (count L : Nat), L ≤ 64 → count ≤ 4 → ∃ (q : List (List Int)) (t2 t7 : Sl), PsOk (ps ++ [q]) ∧
      evS (gN tab.pg (n + 1) false) (.oapp 8 (.fz (.lc [5] (.fz (.lc [4] (.call 5 0 (.sub (.var 3) (.bin .mod (.bin .add (.bin .add (.bin .mul (.cint 7) (.var 9)) (.bin .mul (.cint 5) (.var 5))) (.var 4)) (.cint 40))) .nil) (.nm 4) (.rng1 (.var 7)))) (.nm 5) (.rng1 (.var 2)))))
        [.val (.int c), .val (.int ch), .val (.int count), .val (.lst (ds.map .int)), .un, .un, .val (.int kind), .val (.int L), .own (ps.map planeD), .val (.int p), .val (.int size)] st =
      .nx [.val (.int c), .val (.int ch), t2, .val (.lst (ds.map .int)), .un, .un, .val (.int kind), t7, .own ((ps ++ [q]).map planeD), .val (.int p), .val (.int size)] st := fun count L h1 h2 => by
    refine ⟨plane ds p count L, .val (.int count), .val (.int L), hps.add (plane_ok ds p count L h1 h2), ?_⟩
    rw [sv_oapp]
    simp only [List.getElem?_cons_succ, List.getElem?_cons_zero]
    rw [outer n st ds hd c ch kind size .un (.own (ps.map planeD)) p count L h1 h2, to_okS, List.length_map, if_pos hl]
    simp
  have use : ∀ (count L : Nat) (x y : Int), x = (count : Int) → y = (L : Int) → L ≤ 64 → count ≤ 4 → turn (.nm 9) (evSs (gN tab.pg (n + 1) false) l6_0) (.int p)
      [.val (.int c), .val (.int ch), s2, .val (.lst (ds.map .int)), .un, .un, .val (.int kind), s7, .own (ps.map planeD), s9, .val (.int size)] st =
        (evS (gN tab.pg (n + 1) false) (.oapp 8 (.fz (.lc [5] (.fz (.lc [4] (.call 5 0 (.sub (.var 3) (.bin .mod (.bin .add (.bin .add (.bin .mul (.cint 7) (.var 9)) (.bin .mul (.cint 5) (.var 5))) (.var 4)) (.cint 40))) .nil) (.nm 4) (.rng1 (.var 7)))) (.nm 5) (.rng1 (.var 2)))))
        [.val (.int c), .val (.int ch), .val (.int x), .val (.lst (ds.map .int)), .un, .un, .val (.int kind), .val (.int y), .own (ps.map planeD), .val (.int p), .val (.int size)] st).andThen (kSs (gN tab.pg (n + 1) false) []) →
      ∃ (q : List (List Int)) (t2 t7 : Sl), PsOk (ps ++ [q]) ∧ turn (.nm 9) (evSs (gN tab.pg (n + 1) false) l6_0) (.int p)
      [.val (.int c), .val (.int ch), s2, .val (.lst (ds.map .int)), .un, .un, .val (.int kind), s7, .own (ps.map planeD), s9, .val (.int size)] st =
    .nx [.val (.int c), .val (.int ch), t2, .val (.lst (ds.map .int)), .un, .un, .val (.int kind), t7, .own ((ps ++ [q]).map planeD), .val (.int p), .val (.int size)] st := fun count L x y hx hy h1 h2 e => by
    obtain ⟨q, t2, t7, z1, z2⟩ := fin count L h1 h2
    refine ⟨q, t2, t7, z1, ?_⟩
    subst hx hy
    rw [e, z2]
    rfl
  by_cases hp : 0 < p
  · by_cases hc : ch = 1
    · refine use 1 16 1 16 rfl rfl (by decide) (by decide) ?_
      rcases hs with rfl | rfl <;> simp [turn, l6_0, -sv_oapp, hp, hc]
    · rcases hs with rfl | rfl
      · refine use 4 16 4 16 rfl rfl (by decide) (by decide) ?_
        simp [turn, l6_0, -sv_oapp, hp, hc]
      · refine use 1 64 1 64 rfl rfl (by decide) (by decide) ?_
        simp [turn, l6_0, -sv_oapp, hp, hc]
  · have hp : p = 0 := by omega
    subst hp
    rcases hs with rfl | rfl
    · refine use 4 16 4 16 rfl rfl (by decide) (by decide) ?_
      simp [turn, l6_0, -sv_oapp]
    · refine use 1 64 1 64 rfl rfl (by decide) (by decide) ?_
      simp [turn, l6_0, -sv_oapp]
abbrev ikI : Str := "intra"
abbrev ikE : Str := "inter"
abbrev ikS : Str := "skip"
def Blk (B : D) : Prop := B = .tup [.str ikS] ∨ ∃ (k : Str) (a : D) (z : Int) (ps : List (List (List Int))), (k = ikI ∨ k = ikE) ∧ B = .tup [.str k, a, .int z, .lst (ps.map planeD)] ∧ PsOk ps ∧ ps.length ≤ 3 ∧ fit 19 a = true ∧ (toP a).weight ≤ 1000 ∧ z.natAbs ≤ 8
theorem loop6 (n : Nat) (st : Sto) (ds : List Int) (hd : ds.length = 40) (c ch kind size : Int) (hs : size = 4 ∨ size = 8) (s2 s7 s9 : Sl) (m : Nat) (hm : m ≤ 3) :
    ∃ (ps : List (List (List Int))) (t2 t7 t9 : Sl), PsOk ps ∧ ps.length ≤ 3 ∧ forL (turn (.nm 9) (evSs (gN tab.pg (n + 1) false) l6_0)) ((List.range m).map fun (k : Nat) => .int k)
      [.val (.int c), .val (.int ch), s2, .val (.lst (ds.map .int)), .un, .un, .val (.int kind), s7, .own [], s9, .val (.int size)] st =
    .nx [.val (.int c), .val (.int ch), t2, .val (.lst (ds.map .int)), .un, .un, .val (.int kind), t7, .own (ps.map planeD), t9, .val (.int size)] st := by
  have inv := forL_inv (body := turn (.nm 9) (evSs (gN tab.pg (n + 1) false) l6_0)) (st := st)
    (fun pre en => ∃ (ps : List (List (List Int))) (t2 t7 t9 : Sl), en = [.val (.int c), .val (.int ch), t2, .val (.lst (ds.map .int)), .un, .un, .val (.int kind), t7, .own (ps.map planeD), t9, .val (.int size)] ∧ ps.length = pre.length ∧ PsOk ps)
    ((List.range m).map fun (k : Nat) => D.int k) [] _ ⟨[], s2, s7, s9, rfl, rfl, fun p hp => nomatch hp⟩ ?_
  · obtain ⟨en, ⟨ps, t2, t7, t9, rfl, h1, h2⟩, h3⟩ := inv
    exact ⟨ps, t2, t7, t9, h2, by simp at h1; omega, h3⟩
  · rintro pre x post en e ⟨ps, t2, t7, t9, rfl, h1, h2⟩
    obtain ⟨hk, rfl⟩ := range_at (n := m) (f := fun (k : Nat) => D.int k) e
    obtain ⟨q, u2, u7, z1, z2⟩ := turn6 n st ds hd c ch kind size hs t2 t7 t9 ps h2 (by omega) pre.length
    exact ⟨_, ⟨ps ++ [q], u2, u7, .val (.int pre.length), rfl, by simp [h1], z1⟩, .inl z2⟩
theorem s6 (n : Nat) (c : Nat) (st : Sto) : ∃ B, Blk B ∧ callF tab.pg (n + 2) 6 [.int c] st = .ok B st := by
  rw [callF_eq (d := f6) rfl]
  by_cases hk : (c : Int) % 3 = 2
  · refine ⟨_, .inl rfl, ?_⟩
    simp [f6, startEn, hk, lim]
  · obtain ⟨ds, hd, hb, e3⟩ := s3 n (c / 18) st
    have e3 : callF tab.pg (n + 1) 3 [.int ((c : Int) / 18), .int 5130, .int 40] st = .ok (.lst (ds.map .int)) st := e3
    have hs : 8 - 4 * ((c : Int) / 9 % 2) = 4 ∨ 8 - 4 * ((c : Int) / 9 % 2) = 8 := by omega
    obtain ⟨m, hm, em⟩ : ∃ m : Nat, m ≤ 3 ∧ m = (if (c : Int) / 3 % 3 = 0 then 1 else 3 : Int).toNat := by
      split
      · exact ⟨1, by decide, rfl⟩
      · exact ⟨3, by decide, rfl⟩
    obtain ⟨ps, t2, t7, t9, p1, p2, e6⟩ := loop6 n st ds hd c ((c : Int) / 3 % 3) ((c : Int) % 3) (8 - 4 * ((c : Int) / 9 % 2)) hs .un .un .un m hm
    have hfor : evS (gN tab.pg (n + 1) false) (.for_ (.nm 9) (.rng1 (.ite (.cmp .eq (.var 1) (.cint 0)) (.cint 1) (.cint 3))) l6_0)
        [.val (.int c), .val (.int ((c : Int) / 3 % 3)), .un, .val (.lst (ds.map .int)), .un, .un, .val (.int ((c : Int) % 3)), .un, .own [], .un, .val (.int (8 - 4 * ((c : Int) / 9 % 2)))] st =
      .nx [.val (.int c), .val (.int ((c : Int) / 3 % 3)), t2, .val (.lst (ds.map .int)), .un, .un, .val (.int ((c : Int) % 3)), t7, .own (ps.map planeD), t9, .val (.int (8 - 4 * ((c : Int) / 9 % 2)))] st := by
      rw [sv_for, ← e6, em]
      by_cases hz : (c : Int) / 3 % 3 = 0 <;> simp [hz]
    have h8 : ((c : Int) / 11 % 8).natAbs < 1000000000000 := by omega
    have h8w := wt_int (i := (c : Int) / 11 % 8) (by omega)
    have h9 : ((c : Int) % 9).natAbs < 1000000000000 := by omega
    have h9w := wt_int (i := (c : Int) % 9) (by omega)
    have h0w := wt_int (i := 0) (by decide)
    by_cases hq : (c : Int) % 3 = 0
    · rw [hq] at hfor
      rcases hs with hs | hs
      · refine ⟨_, .inr ⟨ikI, .lst [.int ((c : Int) / 11 % 8), .int ((c : Int) / 11 % 8), .int ((c : Int) / 11 % 8), .int ((c : Int) / 11 % 8)], 0, ps, .inl rfl, rfl, p1, p2, by simp [h8], ?_, by decide⟩, ?_⟩
        · rw [wt_lst, wt_cons, wt_cons, wt_cons, wt_cons, wt_nil]
          omega
        · rw [hs] at hfor
          simp [f6, startEn, hq, call_at, e3, -sv_for, bv_mulL, hs, hfor, lim]
      · refine ⟨_, .inr ⟨ikI, .lst [.int ((c : Int) / 11 % 8)], 0, ps, .inl rfl, rfl, p1, p2, by simp [h8], ?_, by decide⟩, ?_⟩
        · rw [wt_lst, wt_cons, wt_nil]
          omega
        · rw [hs] at hfor
          simp [f6, startEn, hq, call_at, e3, -sv_for, bv_mulL, hs, hfor, lim]
    · refine ⟨_, .inr ⟨ikE, .lst [.tup [.int 0, .int 0, .tup [.int ((c : Int) % 9), .int 0], .non]], 8 - 4 * ((c : Int) / 9 % 2), ps, .inr rfl, rfl, p1, p2, by simp [h9], ?_, by omega⟩, ?_⟩
      · rw [wt_lst, wt_cons, wt_nil, wt_tup, wt_cons, wt_cons, wt_cons, wt_cons, wt_nil, wt_tup, wt_cons, wt_cons, wt_nil, wt_non]
        omega
      · simp [f6, startEn, hk, hq, call_at, e3, -sv_for, bv_mulL, hfor, lim]
/-- what a level costs -/
def cost (l : Int) : Int := if l = 0 then 0 else 2 * (Builtin.Int.intBits (l.natAbs : Int) : Nat) + 1
def costP (p : List (List Int)) : Int := (p.map fun b => (b.map cost).sum).sum
def hCost (l : Int) : Option D := if l = 0 then none else some (.int (2 * (Builtin.Int.intBits (l.natAbs : Int) : Nat) + 1))
theorem cost_ints : ∀ b : List Int, ∃ ns, intsOf (b.filterMap hCost) = some ns ∧ ns.sum = (b.map cost).sum
  | [] => ⟨[], rfl, rfl⟩
  | l :: b => by
    obtain ⟨ns, h1, h2⟩ := cost_ints b
    rw [List.filterMap_cons, List.map_cons, List.sum_cons]
    by_cases hl : l = 0
    · rw [show hCost l = none by unfold hCost; rw [if_pos hl], show cost l = 0 by unfold cost; rw [if_pos hl], Int.zero_add]
      exact ⟨ns, h1, h2⟩
    · rw [show hCost l = some (.int (2 * (Builtin.Int.intBits (l.natAbs : Int) : Nat) + 1)) by unfold hCost; rw [if_neg hl], show cost l = 2 * (Builtin.Int.intBits (l.natAbs : Int) : Nat) + 1 by unfold cost; rw [if_neg hl]]
      refine ⟨(2 * (Builtin.Int.intBits (l.natAbs : Int) : Nat) + 1) :: ns, ?_, by rw [List.sum_cons, h2]⟩
      show (intsOf (b.filterMap hCost)).map _ = _
      rw [h1]
      rfl
theorem turn0 (g : G) (st : Sto) (B : D) (s1 : Sl) (b : List Int) (hb : b.length ≤ 64) (p : Int) (s3 : Sl) : turn (.nm 3) (evSs g l0_0) (.lst (b.map .int)) [.val B, s1, .un, s3, .val (.int p)] st = .nx [.val B, s1, .un, .val (.lst (b.map .int)), .val (.int (p + (b.map cost).sum))] st := by
  obtain ⟨ns, h1, h2⟩ := cost_ints b
  have e : compL (cturnf g [2] (.bin .add (.bin .mul (.cint 2) (.bits (.b1 .abs (.var 2)))) (.cint 1)) (.nm 2) (.cmp .ne (.var 2) (.cint 0)) [.val B, s1, .un, .val (.lst (b.map .int)), .val (.int p)]) (b.map .int) [] st = .ok (b.filterMap hCost) st := by
    refine compL_fm D.int hCost b (fun l _ => ?_) (lim_of (by omega))
    by_cases hl : l = 0
    · simp [cturnf, wipeEn, hl, hCost]
    · simp [cturnf, wipeEn, hl, hCost, bv_mulL]
  simp [turn, l0_0, e, h1, h2]
theorem s0 (n : Nat) (st : Sto) (k : Str) (a : D) (z : Int) (ps : List (List (List Int))) (hk : k = ikI ∨ k = ikE) (hp : PsOk ps) :
    callF tab.pg (n + 1) 0 [.tup [.str k, a, .int z, .lst (ps.map planeD)]] st = .ok (.int ((if k = ikI then 1 else 3) + (ps.map costP).sum)) st := by
  rw [callF_eq (d := f0) rfl]
  have t1 : ∀ q ∈ ps, ∀ (p : Int) (j : Sl × Sl), ∃ j' : Sl × Sl, turn (.nm 1) (evSs (gN tab.pg n false) l0_1) (planeD q) [.val (.tup [.str k, a, .int z, .lst (ps.map planeD)]), j.1, .un, j.2, .val (.int p)] st =
      .nx [.val (.tup [.str k, a, .int z, .lst (ps.map planeD)]), j'.1, .un, j'.2, .val (.int (p + costP q))] st := by
    intro q hq p j
    obtain ⟨s', e⟩ := forL_acc (body := turn (.nm 3) (evSs (gN tab.pg n false) l0_0)) (st := st) (J := Sl) (fun p s => [.val (.tup [.str k, a, .int z, .lst (ps.map planeD)]), .val (planeD q), .un, s, .val (.int p)])
      (fun l : List Int => D.lst (l.map .int)) (fun b => (b.map cost).sum) q (fun b hb p s => ⟨_, turn0 _ st _ _ b ((hp q hq).2 b hb).1 p s⟩) p j.2
    refine ⟨(.val (planeD q), s'), ?_⟩
    show (forL (turn (.nm 3) (evSs (gN tab.pg n false) l0_0)) (q.map fun l : List Int => D.lst (l.map .int)) [.val (.tup [.str k, a, .int z, .lst (ps.map planeD)]), .val (planeD q), .un, j.2, .val (.int p)] st).andThen (kSs (gN tab.pg n false) []) = _
    rw [e]
    rfl
  have all := fun p => forL_acc (body := turn (.nm 1) (evSs (gN tab.pg n false) l0_1)) (st := st) (J := Sl × Sl) (fun p j => [.val (.tup [.str k, a, .int z, .lst (ps.map planeD)]), j.1, .un, j.2, .val (.int p)]) planeD costP ps t1 p (.un, .un)
  have neI : ¬ (ikI = ("skip" : Str)) := by decide +kernel
  have neE : ¬ (ikE = ("skip" : Str)) := by decide +kernel
  have neEI : ¬ (ikE = ikI) := by decide +kernel
  have lI : List.lookup ikI (([("skip", .int 0), ("intra", .int 1), ("inter", .int 3)] : List (Str × D))) = some (.int 1) := by
    rw [List.lookup_cons, show (ikI == ("skip" : Str)) = false by decide +kernel, List.lookup_cons, show (ikI == ("intra" : Str)) = true by decide +kernel]
  have lE : List.lookup ikE (([("skip", .int 0), ("intra", .int 1), ("inter", .int 3)] : List (Str × D))) = some (.int 3) := by
    rw [List.lookup_cons, show (ikE == ("skip" : Str)) = false by decide +kernel, List.lookup_cons, show (ikE == ("intra" : Str)) = false by decide +kernel, List.lookup_cons, show (ikE == ("inter" : Str)) = true by decide +kernel]
  have sub0 : ∀ k : Str, subV (.tup [.str k, a, .int z, .lst (ps.map planeD)]) (.int 0) = some (.str k) := fun k => rfl
  have sub3 : ∀ k : Str, subV (.tup [.str k, a, .int z, .lst (ps.map planeD)]) (.int 3) = some (.lst (ps.map planeD)) := fun k => rfl
  rcases hk with rfl | rfl
  · obtain ⟨j, e⟩ := all 1
    rw [if_pos rfl]
    simp [f0, startEn, sub0, sub3, lI, neI, e]
  · obtain ⟨j, e⟩ := all 3
    rw [if_neg neEI]
    simp [f0, startEn, sub0, sub3, lE, neE, e]
theorem s0s (n : Nat) (st : Sto) : callF tab.pg (n + 1) 0 [.tup [.str ikS]] st = .ok (.int 0) st := by
  rw [callF_eq (d := f0) rfl]
  have eS : ikS = ("skip" : Str) := rfl
  have lS : List.lookup ikS (([("skip", .int 0), ("intra", .int 1), ("inter", .int 3)] : List (Str × D))) = some (.int 0) := by
    rw [List.lookup_cons, show (ikS == ("skip" : Str)) = true by decide +kernel]
  have sub0 : subV (.tup [.str ikS]) (.int 0) = some (.str ikS) := rfl
  simp [f0, startEn, sub0, lS]
theorem s7s (n : Nat) (st : Sto) : callF tab.pg (n + 1) 7 [.tup [.str ikS]] st = .ok (.int 0) st := by
  rw [callF_eq (d := f7) rfl]
  have sub0 : subV (.tup [.str ikS]) (.int 0) = some (.str ikS) := rfl
  simp [f7, startEn, sub0]
theorem bits_sum (w : Nat) : ∀ n : Nat, ((List.range n).map fun k => if 2 ^ k ≤ w then (2 : Int) else 0).sum = 2 * (min n (Builtin.Int.intBits (w : Int)) : Nat)
  | 0 => by simp
  | n + 1 => by
    rw [List.range_succ, List.map_append, List.sum_append, bits_sum w n]
    have hb : Builtin.Int.intBits (w : Int) = if w = 0 then 0 else w.log2 + 1 := by
      show (if ((w : Int) == 0) = true then 0 else (w : Int).natAbs.log2 + 1) = _
      by_cases h : w = 0
      · subst h; rfl
      · rw [if_neg (by simpa using h), if_neg h]
        rfl
    rw [hb]
    by_cases h : w = 0
    · subst h
      have : ¬ (2 ^ n ≤ 0) := by have := Nat.two_pow_pos n; omega
      simp [this]
    · rw [if_neg h]
      have z : 2 ^ n ≤ w ↔ n ≤ w.log2 := (Nat.le_log2 h).symm
      simp only [List.map_cons, List.map_nil, List.sum_cons, List.sum_nil, z]
      split <;> omega
def cost7 (l : Int) : Int := (if 0 < l.natAbs then 1 else 0) + ((List.range 30).map fun k => if 2 ^ k ≤ l.natAbs then (2 : Int) else 0).sum
theorem cost7_eq {l : Int} (h : l.natAbs ≤ 300000) : cost7 l = cost l := by
  unfold cost7 cost
  rw [bits_sum]
  have hb : Builtin.Int.intBits (l.natAbs : Int) ≤ 30 := by
    show (if ((l.natAbs : Int) == 0) = true then 0 else (l.natAbs : Int).natAbs.log2 + 1) ≤ 30
    split
    · decide
    · rename_i hz
      have h0 : l.natAbs ≠ 0 := by simpa using hz
      have h2 : (2 : Nat) ^ 29 = 536870912 := by decide
      have := (Nat.log2_lt h0 (k := 29)).mpr (by omega)
      have e : (l.natAbs : Int).natAbs = l.natAbs := by omega
      rw [e]
      omega
  by_cases hl : l = 0
  · subst hl
    rfl
  · rw [if_pos (by omega), if_neg hl, Nat.min_eq_right hb]
    omega
theorem turn7 (g : G) (st : Sto) (B : D) (s1 s4 : Sl) (l : Int) (p : Int) (j : Sl × (Sl × Sl)) : ∃ j' : Sl × (Sl × Sl), turn (.nm 3) (evSs g l7_1) (.int l) [.val B, s1, j.1, j.2.1, s4, .val (.int p), j.2.2] st =
    .nx [.val B, s1, j'.1, j'.2.1, s4, .val (.int (p + cost7 l)), j'.2.2] st := by
  obtain ⟨j2, e⟩ := forL_acc (body := turn (.nm 2) (evSs g l7_0)) (st := st) (J := Sl) (fun p s => [.val B, s1, s, .val (.int l), s4, .val (.int p), .val (.int l.natAbs)]) (fun k : Nat => D.int k) (fun k => if 2 ^ k ≤ l.natAbs then (2 : Int) else 0) (List.range 30)
    (fun k hk p s => by
      have hk : k < 30 := List.mem_range.mp hk
      have e1 : 0 ≤ (k : Int) ∧ (k : Int) ≤ 1000000 := by omega
      have e2 : ((2 : Int) ^ k ≤ (l.natAbs : Int)) ↔ 2 ^ k ≤ l.natAbs := by
        rw [← Int.ofNat_le]
        push_cast
        rfl
      refine ⟨.val (.int k), ?_⟩
      by_cases h : 2 ^ k ≤ l.natAbs
      · have h2 := e2.mpr h
        simp [turn, l7_0, e1, h, h2]
      · have h2 : ¬ ((2 : Int) ^ k ≤ (l.natAbs : Int)) := fun z => h (e2.mp z)
        simp [turn, l7_0, e1, h, h2]) (p + (if 0 < l.natAbs then 1 else 0)) j.1
  refine ⟨(j2, (.val (.int l), .val (.int l.natAbs))), ?_⟩
  have e0 : p + (if 0 < l.natAbs then 1 else 0) + ((List.range 30).map fun k => if 2 ^ k ≤ l.natAbs then (2 : Int) else 0).sum = p + cost7 l := by
    unfold cost7
    rw [Int.add_assoc]
  rw [e0] at e
  by_cases h : 0 < l.natAbs
  · rw [if_pos h] at e
    have e3 : evS g (.for_ (.nm 2) (.rng1 (.cint 30)) l7_0) [.val B, s1, j.1, .val (.int l), s4, .val (.int (p + 1)), .val (.int l.natAbs)] st = .nx [.val B, s1, j2, .val (.int l), s4, .val (.int (p + cost7 l)), .val (.int l.natAbs)] st := by
      rw [← e]
      rfl
    have hl : ¬ l = 0 := by omega
    simp [turn, l7_1, -sv_for, hl, e3]
  · rw [if_neg h, Int.add_zero] at e
    have e3 : evS g (.for_ (.nm 2) (.rng1 (.cint 30)) l7_0) [.val B, s1, j.1, .val (.int l), s4, .val (.int p), .val (.int l.natAbs)] st = .nx [.val B, s1, j2, .val (.int l), s4, .val (.int (p + cost7 l)), .val (.int l.natAbs)] st := by
      rw [← e]
      rfl
    have hl : l = 0 := by omega
    subst hl
    have e3 : evS g (.for_ (.nm 2) (.rng1 (.cint 30)) l7_0) [.val B, s1, j.1, .val (.int 0), s4, .val (.int p), .val (.int 0)] st = .nx [.val B, s1, j2, .val (.int 0), s4, .val (.int (p + cost7 0)), .val (.int 0)] st := e3
    simp [turn, l7_1, -sv_for, e3]
abbrev J7 : Type := Sl × (Sl × Sl)
theorem turn7b (g : G) (st : Sto) (B : D) (s1 s4 : Sl) (b : List Int) (hb : ∀ l ∈ b, l.natAbs ≤ 300000) (p : Int) (j : J7) : ∃ j' : J7, turn (.nm 4) (evSs g l7_2) (.lst (b.map .int)) [.val B, s1, j.1, j.2.1, s4, .val (.int p), j.2.2] st =
    .nx [.val B, s1, j'.1, j'.2.1, .val (.lst (b.map .int)), .val (.int (p + (b.map cost).sum)), j'.2.2] st := by
  obtain ⟨j', e⟩ := forL_acc (body := turn (.nm 3) (evSs g l7_1)) (st := st) (J := J7) (fun p j => [.val B, s1, j.1, j.2.1, .val (.lst (b.map .int)), .val (.int p), j.2.2]) D.int cost7 b (fun l _ p j => turn7 g st B s1 _ l p j) p j
  refine ⟨j', ?_⟩
  have e0 : b.map cost7 = b.map cost := List.map_congr_left fun l hl => cost7_eq (hb l hl)
  rw [e0] at e
  show (forL (turn (.nm 3) (evSs g l7_1)) (b.map D.int) [.val B, s1, j.1, j.2.1, .val (.lst (b.map .int)), .val (.int p), j.2.2] st).andThen (kSs g []) = _
  rw [e]
  rfl
theorem turn7c (g : G) (st : Sto) (B : D) (s1 s4 : Sl) (q : List (List Int)) (hq : ∀ b ∈ q, ∀ l ∈ b, l.natAbs ≤ 300000) (p : Int) (j : J7) : ∃ (j' : J7) (t4 : Sl), turn (.nm 1) (evSs g l7_3) (planeD q) [.val B, s1, j.1, j.2.1, s4, .val (.int p), j.2.2] st =
    .nx [.val B, .val (planeD q), j'.1, j'.2.1, t4, .val (.int (p + costP q)), j'.2.2] st := by
  obtain ⟨⟨j', t4⟩, e⟩ := forL_acc (body := turn (.nm 4) (evSs g l7_2)) (st := st) (J := J7 × Sl) (fun p j => [.val B, .val (planeD q), j.1.1, j.1.2.1, j.2, .val (.int p), j.1.2.2]) (fun b : List Int => D.lst (b.map .int)) (fun b => (b.map cost).sum) q
    (fun b hb p j => by
      obtain ⟨j', e⟩ := turn7b g st B (.val (planeD q)) j.2 b (hq b hb) p j.1
      exact ⟨(j', .val (.lst (b.map .int))), e⟩) p (j, s4)
  refine ⟨j', t4, ?_⟩
  show (forL (turn (.nm 4) (evSs g l7_2)) (q.map fun b : List Int => D.lst (b.map .int)) [.val B, .val (planeD q), j.1, j.2.1, s4, .val (.int p), j.2.2] st).andThen (kSs g []) = _
  rw [e]
  rfl
theorem s7 (n : Nat) (st : Sto) (k : Str) (a : D) (z : Int) (ps : List (List (List Int))) (hk : k = ikI ∨ k = ikE) (hp : PsOk ps) :
    callF tab.pg (n + 1) 7 [.tup [.str k, a, .int z, .lst (ps.map planeD)]] st = .ok (.int ((if k = ikI then 1 else 3) + (ps.map costP).sum)) st := by
  rw [callF_eq (d := f7) rfl]
  have all := fun p => forL_acc (body := turn (.nm 1) (evSs (gN tab.pg n false) l7_3)) (st := st) (J := Sl × (J7 × Sl)) (fun p j => [.val (.tup [.str k, a, .int z, .lst (ps.map planeD)]), j.1, j.2.1.1, j.2.1.2.1, j.2.2, .val (.int p), j.2.1.2.2]) planeD costP ps
    (fun q hq p j => by
      obtain ⟨j', t4, e⟩ := turn7c (gN tab.pg n false) st (.tup [.str k, a, .int z, .lst (ps.map planeD)]) j.1 j.2.2 q (fun b hb => ((hp q hq).2 b hb).2) p j.2.1
      exact ⟨(.val (planeD q), (j', t4)), e⟩) p (.un, ((.un, (.un, .un)), .un))
  have neI : ¬ (ikI = ("skip" : Str)) := by decide +kernel
  have neE : ¬ (ikE = ("skip" : Str)) := by decide +kernel
  have eqI : ikI = ("intra" : Str) := rfl
  have neEI : ¬ (ikE = ("intra" : Str)) := by decide +kernel
  have sub0 : ∀ k : Str, subV (.tup [.str k, a, .int z, .lst (ps.map planeD)]) (.int 0) = some (.str k) := fun k => rfl
  have sub3 : ∀ k : Str, subV (.tup [.str k, a, .int z, .lst (ps.map planeD)]) (.int 3) = some (.lst (ps.map planeD)) := fun k => rfl
  rcases hk with rfl | rfl
  · obtain ⟨j, e⟩ := all 1
    rw [if_pos rfl]
    simp [f7, startEn, sub0, sub3, neI, e]
  · obtain ⟨j, e⟩ := all 3
    rw [if_neg neEI]
    simp [f7, startEn, sub0, sub3, neE, neEI, e]
/-! a block's text -/
theorem fit_level {n : Nat} {l : Int} (h : l.natAbs ≤ 300000) : fit n (.int l) = true := by
  rw [fit_int]
  exact decide_eq_true (by omega)
theorem plane_fit {q : List (List Int)} (h : q.length ≤ 4 ∧ ∀ b ∈ q, b.length ≤ 64 ∧ ∀ l ∈ b, l.natAbs ≤ 300000) : fit 18 (planeD q) = true ∧ (toP (planeD q)).weight ≤ 20000 := by
  have each : ∀ d ∈ q.map fun l : List Int => D.lst (l.map .int), fit 17 d = true ∧ (toP d).weight ≤ 64 * 41 := by
    intro d hd
    obtain ⟨b, hb, rfl⟩ := List.mem_map.mp hd
    obtain ⟨h1, h2⟩ := h.2 b hb
    have each : ∀ d ∈ b.map D.int, fit 16 d = true ∧ (toP d).weight ≤ 40 := by
      intro d hd
      obtain ⟨l, hl, rfl⟩ := List.mem_map.mp hd
      exact ⟨fit_level (h2 l hl), wt_int (by have := h2 l hl; omega)⟩
    refine ⟨by rw [fit_lst]; exact fits_all fun d hd => (each d hd).1, ?_⟩
    have z := wt_all fun d hd => (each d hd).2
    rw [List.length_map] at z
    rw [wt_lst]
    have := Nat.mul_le_mul_right 41 h1
    omega
  refine ⟨by unfold planeD; rw [fit_lst]; exact fits_all fun d hd => (each d hd).1, ?_⟩
  have z := wt_all fun d hd => (each d hd).2
  rw [List.length_map] at z
  unfold planeD
  rw [wt_lst]
  have := Nat.mul_le_mul_right (64 * 41 + 1) h.1
  omega
theorem blk_repr {B : D} (h : Blk B) : ∃ x, reprV B = some (.str x) := by
  refine ⟨_, fit_repr ?_ ?_⟩
  · rcases h with rfl | ⟨k, a, z, ps, hk, rfl, hp, hl, ha, hw, hz⟩
    · decide +kernel
    · have e1 : fit 19 (.str k) = true := by rcases hk with rfl | rfl <;> decide +kernel
      have e2 : fit 19 (.int z) = true := by rw [fit_int]; exact decide_eq_true (by omega)
      have e3 : fit 19 (.lst (ps.map planeD)) = true := by
        rw [fit_lst]
        refine fits_all fun d hd => ?_
        obtain ⟨q, hq, rfl⟩ := List.mem_map.mp hd
        exact (plane_fit (hp q hq)).1
      rw [fit_tup, fits_cons, fits_cons, fits_cons, fits_cons, fits_nil, e1, ha, e2, e3]
      rfl
  · have e20 : (2 : Nat) ^ 20 = 1048576 := by decide
    rw [e20]
    rcases h with rfl | ⟨k, a, z, ps, hk, rfl, hp, hl, ha, hw, hz⟩
    · decide +kernel
    · have e1 : (toP (.str k)).weight ≤ 10 := by rcases hk with rfl | rfl <;> decide +kernel
      have e2 := wt_int (i := z) (by omega)
      have e3 : (toP (.lst (ps.map planeD))).weight ≤ 3 * 20001 := by
        rw [wt_lst]
        have y := wt_all (B := 20000) (xs := ps.map planeD) fun d hd => by
          obtain ⟨q, hq, rfl⟩ := List.mem_map.mp hd
          exact (plane_fit (hp q hq)).2
        rw [List.length_map] at y
        have := Nat.mul_le_mul_right 20001 hl
        omega
      rw [wt_tup, wt_cons, wt_cons, wt_cons, wt_cons, wt_nil]
      omega
/-! ### the law -/
theorem price_same (n : Nat) (st : Sto) {B : D} (h : Blk B) : ∃ p : Int, callF tab.pg (n + 1) 0 [B] st = .ok (.int p) st ∧ callF tab.pg (n + 1) 7 [B] st = .ok (.int p) st := by
  rcases h with rfl | ⟨k, a, z, ps, hk, rfl, hp, _⟩
  · exact ⟨0, s0s n st, s7s n st⟩
  · exact ⟨_, s0 n st k a z ps hk hp, s7 n st k a z ps hk hp⟩
theorem near_ok (x y : Int) : okEq 20 (near x y) = true := by
  unfold near
  rfl
theorem near_items (x y : Int) : ∃ vs : List (Int × Int), near x y = .lst (vs.map fun v => .tup [.int v.1, .int v.2]) := ⟨[(clip x, clip y), (clip (x + -4), clip y), (clip (x + 4), clip y), (clip x, clip (y + -4)), (clip x, clip (y + 4))], rfl⟩
theorem turn9a (n : Nat) (st : Sto) (s : List Sl) (v : Int × Int) (a0 a1 a2 a3 a4 a5 a6 a7 a8 a9 : Sl) : turn (.nm 7) (evSs (gN tab.pg (n + 1) true) l9_0) (.tup [.int v.1, .int v.2]) [a0, a1, a2, a3, a4, a5, a6, a7, a8, a9] st = .nx [a0, a1, a2, a3, a4, a5, a6, .val (.tup [.int v.1, .int v.2]), a8, a9] st := by
  have e0 : subV (.tup [.int v.1, .int v.2]) (.int 0) = some (.int v.1) := rfl
  have e1 : subV (.tup [.int v.1, .int v.2]) (.int 1) = some (.int v.2) := rfl
  simp [turn, l9_0, e0, e1, call_at, s4]
theorem cv_near (x y : Int) : cmpV .ne (near x y) (near x y) = some false := by
  show (eqV (near x y) (near x y)).map (!·) = some false
  rw [eqV_refl (near_ok x y)]
  rfl
theorem isi_near (x y : Int) : isiV .list (near x y) = some true := rfl
theorem tail9 (st : Sto) (x y : Int) (a0 a1 a2 a3 a4 a5 a6 a7 : Sl) :
    ∃ b5 b7 : Sl, evSs (gN tab.pg 8 true) [.set 5 (.call 1 0 (.tup (.cons (.var 8) (.cons (.var 9) .nil))) .nil), .ite (.orT (.notT (.tru (.isi (.var 5) .list))) (.one (.cmp .ne (.var 5) (.call 8 0 (.var 8) (.cons (.var 9) .nil))))) [.ret (.cbl false)] [], .for_ (.nm 7) (.seq (.var 5)) (l9_0)]
      [a0, a1, a2, a3, a4, a5, a6, a7, .val (.int x), .val (.int y)] st = .nx [a0, a1, a2, a3, a4, b5, a6, b7, .val (.int x), .val (.int y)] st := by
  obtain ⟨vs, hv⟩ := near_items x y
  have lp := forL_inv (body := turn (.nm 7) (evSs (gN tab.pg 8 true) l9_0)) (st := st) (fun pre en => ∃ b7 : Sl, en = [a0, a1, a2, a3, a4, .val (near x y), a6, b7, .val (.int x), .val (.int y)])
    (vs.map fun v => D.tup [.int v.1, .int v.2]) [] _ ⟨a7, rfl⟩ (fun pre d post en e ⟨b7, he⟩ => by
      subst he
      obtain ⟨v, _, rfl⟩ := map_at (xs := vs) (f := fun v => D.tup [.int v.1, .int v.2]) e
      exact ⟨_, ⟨_, rfl⟩, .inl (turn9a 7 st [] v _ _ _ _ _ _ _ _ _ _)⟩)
  obtain ⟨en, ⟨b7, rfl⟩, e⟩ := lp
  refine ⟨.val (near x y), b7, ?_⟩
  have c1 : callF tab.pg 8 1 [.tup [.int x, .int y]] st = .ok (near x y) st := s1 7 x y st
  have c8 : callF tab.pg 8 8 [.int x, .int y] st = .ok (near x y) st := s8 7 x y st
  have e2 : evS (gN tab.pg 8 true) (.for_ (.nm 7) (.seq (.var 5)) (l9_0)) [a0, a1, a2, a3, a4, .val (near x y), a6, a7, .val (.int x), .val (.int y)] st = .nx [a0, a1, a2, a3, a4, .val (near x y), a6, b7, .val (.int x), .val (.int y)] st := by
    rw [← e, hv]
    rfl
  simp [-sv_for, call_at, c1, c8, isi_near, cv_near, e2, lim]
theorem turn9 (st : Sto) (xs : List Int) (k : Nat) (a1 a2 a3 a4 a5 a6 a7 a8 a9 : Sl) : ∃ b1 b2 b3 b4 b5 b6 b7 b8 b9 : Sl,
    turn (.nm 3) (evSs (gN tab.pg 8 true) l9_1) (.int k) [.val (.lst (xs.map .int)), a1, a2, a3, a4, a5, a6, a7, a8, a9] st = .nx [.val (.lst (xs.map .int)), b1, b2, b3, b4, b5, b6, b7, b8, b9] st := by
  obtain ⟨c, e2⟩ := s2 7 xs k st
  have e2 : callF tab.pg 8 2 [.lst (xs.map .int), .int k] st = .ok (.int c) st := e2
  obtain ⟨B, hB, e6⟩ := s6 6 (c + k) st
  have e6 : callF tab.pg 8 6 [.int ((c : Int) + k)] st = .ok B st := e6
  obtain ⟨p, e0, e7⟩ := price_same 7 st hB
  have e0 : callF tab.pg 8 0 [B] st = .ok (.int p) st := e0
  have e7 : callF tab.pg 8 7 [B] st = .ok (.int p) st := e7
  have e4 : callF tab.pg 8 4 [.int p] st = .ok (.bl true) st := s4 7 p st
  obtain ⟨r, er⟩ := blk_repr hB
  have go : ∀ x y : Int, ∃ b5 b7 : Sl, evSs (gN tab.pg 8 true) [.set 5 (.call 1 0 (.tup (.cons (.var 8) (.cons (.var 9) .nil))) .nil), .ite (.orT (.notT (.tru (.isi (.var 5) .list))) (.one (.cmp .ne (.var 5) (.call 8 0 (.var 8) (.cons (.var 9) .nil))))) [.ret (.cbl false)] [], .for_ (.nm 7) (.seq (.var 5)) (l9_0)]
      [.val (.lst (xs.map .int)), .val B, .val (.int ((c : Int) + k)), .val (.int k), .val (.str r), a5, .val (.int p), a7, .val (.int x), .val (.int y)] st = .nx [.val (.lst (xs.map .int)), .val B, .val (.int ((c : Int) + k)), .val (.int k), .val (.str r), b5, .val (.int p), b7, .val (.int x), .val (.int y)] st := fun x y => tail9 st x y _ _ _ _ _ _ _ _
  have step : ∀ x y : Int, evSs (gN tab.pg 8 true) (l9_1.take 9) [.val (.lst (xs.map .int)), a1, a2, .val (.int k), a4, a5, a6, a7, a8, a9] st =
        .nx [.val (.lst (xs.map .int)), .val B, .val (.int ((c : Int) + k)), .val (.int k), .val (.str r), a5, .val (.int p), a7, .val (.int x), .val (.int y)] st →
      ∃ b1 b2 b3 b4 b5 b6 b7 b8 b9 : Sl, turn (.nm 3) (evSs (gN tab.pg 8 true) l9_1) (.int k) [.val (.lst (xs.map .int)), a1, a2, a3, a4, a5, a6, a7, a8, a9] st = .nx [.val (.lst (xs.map .int)), b1, b2, b3, b4, b5, b6, b7, b8, b9] st := fun x y h => by
    obtain ⟨b5, b7, e⟩ := go x y
    refine ⟨.val B, .val (.int ((c : Int) + k)), .val (.int k), .val (.str r), b5, .val (.int p), b7, .val (.int x), .val (.int y), ?_⟩
    show evSs (gN tab.pg 8 true) l9_1 [.val (.lst (xs.map .int)), a1, a2, .val (.int k), a4, a5, a6, a7, a8, a9] st = _
    rw [evSs_cut 9 h]
    exact e
  by_cases z0 : ((c : Int) + k) / 3 % 4 = 0
  · refine step (1023 - ((c : Int) + k) / 11 % 6) (((c : Int) + k) / 7 % 2047 - 1023) ?_
    simp [l9_1, call_at, e2, e6, e0, e7, e4, er, z0]
  · by_cases z1 : ((c : Int) + k) / 3 % 4 = 1
    · refine step (((c : Int) + k) / 5 % 2047 - 1023) (((c : Int) + k) / 11 % 6 - 1023) ?_
      simp [l9_1, call_at, e2, e6, e0, e7, e4, er, z0, z1]
    · refine step (((c : Int) + k) / 5 % 2047 - 1023) (((c : Int) + k) / 7 % 2047 - 1023) ?_
      simp [l9_1, call_at, e2, e6, e0, e7, e4, er, z0, z1]
theorem plain (ns : List Int) (h : ns.length ≤ 63) (hb : ∀ z ∈ ns, Builtin.Int.intBits z ≤ 1048576) : ∃ st, runL tab.pg 8 9 [.lst (ns.map .int)] [] = .ok (.bl true) st := by
  refine ⟨[], ?_⟩
  rw [runL_eq (d := f9) rfl]
  have lp := forL_inv (body := turn (.nm 3) (evSs (gN tab.pg 8 true) l9_1)) (st := []) (fun pre en => ∃ b1 b2 b3 b4 b5 b6 b7 b8 b9 : Sl, en = [.val (.lst (ns.map .int)), b1, b2, b3, b4, b5, b6, b7, b8, b9])
    ((List.range (min (1 + ns.length) 8)).map fun (k : Nat) => D.int k) [] _ ⟨.un, .un, .un, .un, .un, .un, .un, .un, .un, rfl⟩ (fun pre d post en e ⟨b1, b2, b3, b4, b5, b6, b7, b8, b9, he⟩ => by
      subst he
      obtain ⟨_, rfl⟩ := range_at (f := fun (k : Nat) => D.int k) e
      obtain ⟨c1, c2, c3, c4, c5, c6, c7, c8, c9, e⟩ := turn9 [] ns pre.length b1 b2 b3 b4 b5 b6 b7 b8 b9
      exact ⟨_, ⟨c1, c2, c3, c4, c5, c6, c7, c8, c9, rfl⟩, .inl e⟩)
  obtain ⟨en, ⟨b1, b2, b3, b4, b5, b6, b7, b8, b9, rfl⟩, e⟩ := lp
  have hm : (min (1 + (ns.length : Int)) 8) = ((min (1 + ns.length) 8 : Nat) : Int) := by omega
  have hr : -4611686018427387904 ≤ ((min (1 + ns.length) 8 : Nat) : Int) ∧ ((min (1 + ns.length) 8 : Nat) : Int) < 4611686018427387904 := by omega
  have e2 : evS (gN tab.pg 8 true) (.for_ (.nm 3) (.rng1 (.b2 .min (.bin .add (.cint 1) (.b1 .len (.var 0))) (.cint 8))) l9_1) [.val (.lst (ns.map .int)), .un, .un, .un, .un, .un, .un, .un, .un, .un] [] = .nx [.val (.lst (ns.map .int)), b1, b2, b3, b4, b5, b6, b7, b8, b9] [] := by
    have ei : evI (gN tab.pg 8 true) (.rng1 (.b2 .min (.bin .add (.cint 1) (.b1 .len (.var 0))) (.cint 8))) [.val (.lst (ns.map .int)), .un, .un, .un, .un, .un, .un, .un, .un, .un] [] = .ok ((List.range (min (1 + ns.length) 8)).map fun (k : Nat) => D.int k) [] := by
      simp only [ei_rng1, ev_b2, ev_bin, ev_cint, ev_b1, ev_var, List.getElem?_cons_zero, bind_ok, b1_lenL, of_some, bv_add, b2_min, List.length_map, hm, if_pos hr, Int.toNat_natCast]
    rw [sv_for, ei, to_okS]
    exact e
  simp [f9, startEn, -sv_for, e2]
end My

namespace My
open PySem PySem.Spec PyProof.Rows L2 T
theorem st0 : tab.St d0 := ⟨⟨by rfl, by rfl, by rfl, by decide +kernel, by rfl, by decide +kernel, by decide +kernel⟩, by decide +kernel, by decide +kernel, by decide +kernel, rfl, rfl, by decide +kernel, fun _ _ _ _ _ _ us hl => match us, hl with | [_], _ => rfl⟩
theorem st1 : tab.St d1 := ⟨⟨by rfl, by rfl, by rfl, by decide +kernel, by rfl, by decide +kernel, by decide +kernel⟩, by decide +kernel, by decide +kernel, by decide +kernel, rfl, rfl, by decide +kernel, fun _ _ _ _ _ _ us hl => match us, hl with | [_], _ => rfl⟩
theorem st2 : tab.St d2 := ⟨⟨by rfl, by rfl, by rfl, by decide +kernel, by rfl, by decide +kernel, by decide +kernel⟩, by decide +kernel, by decide +kernel, by decide +kernel, rfl, rfl, by decide +kernel, fun _ _ _ _ _ _ us hl => match us, hl with | [_, _], _ => rfl⟩
theorem st3 : tab.St d3 := ⟨⟨by rfl, by rfl, by rfl, by decide +kernel, by rfl, by decide +kernel, by decide +kernel⟩, by decide +kernel, by decide +kernel, by decide +kernel, rfl, rfl, by decide +kernel, fun _ _ _ _ _ _ us hl => match us, hl with | [_, _, _], _ => rfl⟩
theorem st4 : tab.St d4 := ⟨⟨by rfl, by rfl, by rfl, by decide +kernel, by rfl, by decide +kernel, by decide +kernel⟩, by decide +kernel, by decide +kernel, by decide +kernel, rfl, rfl, by decide +kernel, fun _ _ _ _ _ _ us hl => match us, hl with | [_], _ => rfl⟩
theorem st5 : tab.St d5 := ⟨⟨by rfl, by rfl, by rfl, by decide +kernel, by rfl, by decide +kernel, by decide +kernel⟩, by decide +kernel, by decide +kernel, by decide +kernel, rfl, rfl, by decide +kernel, fun _ _ _ _ _ _ us hl => match us, hl with | [_], _ => rfl⟩
theorem st6 : tab.St d6 := ⟨⟨by rfl, by rfl, by rfl, by decide +kernel, by rfl, by decide +kernel, by decide +kernel⟩, by decide +kernel, by decide +kernel, by decide +kernel, rfl, rfl, by decide +kernel, fun _ _ _ _ _ _ us hl => match us, hl with | [_], _ => rfl⟩
theorem st7 : tab.St d7 := ⟨⟨by rfl, by rfl, by rfl, by decide +kernel, by rfl, by decide +kernel, by decide +kernel⟩, by decide +kernel, by decide +kernel, by decide +kernel, rfl, rfl, by decide +kernel, fun _ _ _ _ _ _ us hl => match us, hl with | [_], _ => rfl⟩
theorem st8 : tab.St d8 := ⟨⟨by rfl, by rfl, by rfl, by decide +kernel, by rfl, by decide +kernel, by decide +kernel⟩, by decide +kernel, by decide +kernel, by decide +kernel, rfl, rfl, by decide +kernel, fun _ _ _ _ _ _ us hl => match us, hl with | [_, _], _ => rfl⟩
theorem st9 : tab.St d9 := ⟨⟨by rfl, by rfl, by rfl, by decide +kernel, by rfl, by decide +kernel, by decide +kernel⟩, by decide +kernel, by decide +kernel, by decide +kernel, rfl, rfl, by decide +kernel, fun _ _ _ _ _ _ us hl => match us, hl with | [_], _ => rfl⟩
theorem tab_ok : tab.Ok := ⟨List.forall_mem_cons.mpr ⟨st0, List.forall_mem_cons.mpr ⟨st1, List.forall_mem_cons.mpr ⟨st2, List.forall_mem_cons.mpr ⟨st3, List.forall_mem_cons.mpr ⟨st4, List.forall_mem_cons.mpr ⟨st5, List.forall_mem_cons.mpr ⟨st6, List.forall_mem_cons.mpr ⟨st7, List.forall_mem_cons.mpr ⟨st8, List.forall_mem_cons.mpr ⟨st9, fun _ h => nomatch h⟩⟩⟩⟩⟩⟩⟩⟩⟩⟩, by decide +kernel⟩
def names0 : List Str := ["MAX_VECTOR", "SIDE", "OVERHEAD", "block_price", "near_vectors", "_law_cell", "_law_digits", "_law_is_integer", "_law_level", "_law_block", "_law_price", "_law_near"]
def names : List Str := names0
abbrev row : PySem.W.OpenRow := PySem.W.OpenLaw.row PySem.Challenge.rw_thaumatrope_k67_prices_and_near_vectors
def ob (s : PySem.W.SharedT) : Al := tab.obs (fragT 6 (HandSHeadRun.getT s))
theorem ob_eq (s : PySem.W.SharedT) : ob s = (hookT 6 tab).obs s.abs := hookT_eq (HandSHeadRun.getT_eq s)
abbrev Runs (w : World) : Prop := HandSHeadRun.RunEq row (PySem.W.view row.prog [14]) (hookT 6 tab) ob 8000 names w
theorem run_f (w : World) : Runs (w.withFollow "special-get-raises" false) := by
  intro os
  kernel_rfl
theorem run_t (w : World) : Runs (w.withFollow "special-get-raises" true) := by
  intro os
  kernel_rfl
theorem runs (w : World) : Runs w := PySem.W.byRow2 "special-get-raises" (P := Runs) run_f run_t w
end My

open PySem PySem.W PySem.Calls PyProof.Rows
theorem PySem.Challenge.cw_thaumatrope_k67_prices_and_near_vectors_holds : PySem.Challenge.rw_thaumatrope_k67_prices_and_near_vectors.Holds := by
  w_on; o_law
  refine HandSHeadRun.head_any (r := OpenLaw.row PySem.Challenge.rw_thaumatrope_k67_prices_and_near_vectors) (q := view (OpenLaw.row PySem.Challenge.rw_thaumatrope_k67_prices_and_near_vectors).prog [14])
    (H := T.hookT 6 My.tab) (ob := My.ob) (M := 8000) (loose := My.names) (d := HandSHeadRun.topDef (OpenLaw.row PySem.Challenge.rw_thaumatrope_k67_prices_and_near_vectors).prog 14) (kwd := []) My.ob_eq
    (by kernel_rfl) (fun s => by kernel_rfl) My.runs (by kernel_rfl) (by kernel_rfl) (by kernel_rfl) (by rfl)
    (by first | assumption | decide +kernel) (by decide +kernel) ⟨rfl, rfl, rfl, rfl, rfl, by decide +kernel⟩ ?hw ?hc
  case hw => w_witness2
  case hc =>
    refine T.walkG (l := PySem.Challenge.rw_thaumatrope_k67_prices_and_near_vectors) (n := 63) (k := 2 * 8 + 1) (x := "_law_script") (C := fun w => L2.CX (PySem.Challenge.rw_thaumatrope_k67_prices_and_near_vectors).prog w)
      rfl (by decide) (by kernel_rfl) ⟨rfl, by decide, by decide⟩ ?F ?X
    case X => exact fun w H s e s2 ⟨_, _, _, _, _, _, _, _, _, _, _, _, z⟩ => z
    case F =>
      intro w mg fa h Y G hmg0
      obtain ⟨K, KX, c⟩ := Y
      obtain ⟨fd, sp, h1, h2, h3⟩ := T.Lw.law (L := My.tab) My.tab_ok (P := (PySem.Challenge.rw_thaumatrope_k67_prices_and_near_vectors).prog) (N := 8) (f := 9) (d := My.d9) (x := "_law_script") (n := 63) rfl (by kernel_rfl) KX G c hmg0 My.plain
      exact ⟨K, fd, sp, KX, h1, h2, h3⟩


