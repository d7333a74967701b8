import PyProof.Rows.All
import Wide.All
import OpenK.AllK
import Wide.FinOn
import HandS.ForMost
import HandS.Exc
import HandS.ExcOwn
import HandS.WordsExc
import HandS.Defaults
import HandS.CallSlots
import HandS.HeadHook1
import HandS.HeadHook2
import HandS.Walk
import HandS.Ends
import HandS.HeadEnd
import HandS.Deep
import HandS.IsInst
import PyProof.StrBlock2
import PyProof.Rows.StrMul
import KE.KStateDown
import HandS.Head0
import HandS.Head1
import HandS.Head2
import PySem.Challenge.RW_kindsfill_k00_kind_names
set_option Elab.async false
set_option linter.all false
set_option maxRecDepth 100000
set_option maxHeartbeats 4000000
set_option maxHeartbeats 4000000
/-! Kf: typed mirrors over the hand layer. -/
namespace Kf
open PySem PySem.Spec L2
open PyProof.Rows hiding St

/-! ### what a mirror may end in -/
inductive Pay where
  | non | int (f : Str) (i : Int) | str (f x : Str) | strs (f : Str) (l : List Str)
structure Exc where
  cls : Str
  pay : Pay
inductive Er where
  | stuck | exc (e : Exc)
/-- the pool of a law: the script, the place in it, the number at hand, the draws left, its mode -/
structure Pool where
  scr : List Int
  pos : Int
  cur : Int
  left : Int
  mode : Int
def PM (α : Type) : Type := Pool → Except Er α × Pool
def PM.pure {α : Type} (a : α) : PM α := fun p => (.ok a, p)
def PM.bind {α β : Type} (m : PM α) (f : α → PM β) : PM β := fun p => match m p with
  | (.ok a, p') => f a p'
  | (.error e, p') => (.error e, p')
instance : Monad PM where
  pure := PM.pure
  bind := PM.bind
def stuck {α : Type} : PM α := fun p => (.error .stuck, p)
def raise {α : Type} (e : Exc) : PM α := fun p => (.error (.exc e), p)
theorem run_pure {α : Type} (a : α) (p : Pool) : (pure a : PM α) p = (.ok a, p) := rfl
theorem run_bind {α β : Type} (m : PM α) (f : α → PM β) (p : Pool) : (m >>= f) p = (match m p with
  | (.ok a, p') => f a p'
  | (.error e, p') => (.error e, p')) := rfl
instance : LawfulMonad PM := LawfulMonad.mk'
  (id_map := fun {α} x => by
    funext p
    show PM.bind x _ p = x p
    unfold PM.bind
    rcases x p with ⟨_ | _, _⟩ <;> rfl)
  (pure_bind := fun _ _ => rfl)
  (bind_assoc := fun {α β γ} x f g => by
    funext p
    show PM.bind (PM.bind x f) g p = PM.bind x (fun a => PM.bind (f a) g) p
    unfold PM.bind
    rcases x p with ⟨_ | _, _⟩ <;> rfl)
@[simp] theorem stuck_bind {α β : Type} (f : α → PM β) : (stuck >>= f) = stuck := rfl
@[simp] theorem raise_bind {α β : Type} (e : Exc) (f : α → PM β) : (raise e >>= f) = raise e := rfl

/-! ### how data lie in a heap that stands still -/
structure Rg (X α : Type) where
  rel : Hp → X → α → Prop
  mono : ∀ {F F' : Hp} {v : X} {a : α}, Same F F' → rel F v a → rel F' v a
/-- a value; an object's content; arguments -/
abbrev Rl (α : Type) := Rg V α
abbrev Ro (α : Type) := Rg HO α
abbrev Ra (α : Type) := Rg (List V) α
inductive All2 {α β : Type} (R : α → β → Prop) : List α → List β → Prop where
  | nil : All2 R [] []
  | cons {a b l m} : R a b → All2 R l m → All2 R (a :: l) (b :: m)
theorem All2.imp {α β : Type} {R S : α → β → Prop} (h : ∀ a b, R a b → S a b) : ∀ {l : List α} {m : List β}, All2 R l m → All2 S l m
  | _, _, .nil => .nil
  | _, _, .cons r t => .cons (h _ _ r) (t.imp h)
theorem All2.length {α β : Type} {R : α → β → Prop} : ∀ {l : List α} {m : List β}, All2 R l m → l.length = m.length
  | _, _, .nil => rfl
  | _, _, .cons _ t => by simp [t.length]
theorem All2.append {α β : Type} {R : α → β → Prop} : ∀ {l l' : List α} {m m' : List β}, All2 R l m → All2 R l' m' → All2 R (l ++ l') (m ++ m')
  | _, _, _, _, .nil, s => s
  | _, _, _, _, .cons r t, s => .cons r (t.append s)
theorem All2.get {α β : Type} {R : α → β → Prop} : ∀ {l : List α} {m : List β} {i : Nat} {b : β}, All2 R l m → m[i]? = some b → ∃ a, l[i]? = some a ∧ R a b
  | _, _, 0, b, .cons r _, h => by simp at h; subst h; exact ⟨_, by simp, r⟩
  | _, _, i + 1, b, .cons _ t, h => by
    obtain ⟨a, h1, h2⟩ := t.get (i := i) (by simpa using h)
    exact ⟨a, by simpa using h1, h2⟩
  | _, _, _, _, .nil, h => by simp at h
theorem All2.get' {α β : Type} {R : α → β → Prop} : ∀ {l : List α} {m : List β} {i : Nat} {a : α}, All2 R l m → l[i]? = some a → ∃ b, m[i]? = some b ∧ R a b
  | _, _, 0, b, .cons r _, h => by simp at h; subst h; exact ⟨_, by simp, r⟩
  | _, _, i + 1, b, .cons _ t, h => by
    obtain ⟨a, h1, h2⟩ := t.get' (i := i) (by simpa using h)
    exact ⟨a, by simpa using h1, h2⟩
  | _, _, _, _, .nil, h => by simp at h
theorem All2.set {α β : Type} {R : α → β → Prop} {a : α} {b : β} (r : R a b) : ∀ {l : List α} {m : List β} (i : Nat), All2 R l m → All2 R (l.set i a) (m.set i b)
  | _, _, _, .nil => .nil
  | _, _, 0, .cons _ t => .cons r t
  | _, _, i + 1, .cons q t => .cons q (t.set r i)
theorem All2.drop {α β : Type} {R : α → β → Prop} : ∀ {l : List α} {m : List β} (n : Nat), All2 R l m → All2 R (l.drop n) (m.drop n)
  | _, _, 0, r => r
  | _, _, _ + 1, .nil => .nil
  | _, _, n + 1, .cons _ t => t.drop n
theorem All2.take {α β : Type} {R : α → β → Prop} : ∀ {l : List α} {m : List β} (n : Nat), All2 R l m → All2 R (l.take n) (m.take n)
  | _, _, 0, _ => .nil
  | _, _, _ + 1, .nil => .nil
  | _, _, n + 1, .cons r t => .cons r (t.take n)
theorem All2.reverse {α β : Type} {R : α → β → Prop} : ∀ {l : List α} {m : List β}, All2 R l m → All2 R l.reverse m.reverse
  | _, _, .nil => .nil
  | _, _, .cons r t => by
    rw [List.reverse_cons, List.reverse_cons]
    exact t.reverse.append (.cons r .nil)
theorem All2.mapv {α β : Type} {f : α → β} : ∀ (l : List α), All2 (fun (v : β) a => v = f a) (l.map f) l
  | [] => .nil
  | _ :: l => .cons rfl (All2.mapv l)
theorem All2.eqv {α β : Type} {f : α → β} : ∀ {vs : List β} {l : List α}, All2 (fun (v : β) a => v = f a) vs l → vs = l.map f
  | _, _, .nil => rfl
  | _, _, .cons r t => by rw [r, t.eqv]; rfl

def rInt : Rl Int := ⟨fun _ v i => v = .int i, fun _ h => h⟩
def rBool : Rl Bool := ⟨fun _ v b => v = .bl b, fun _ h => h⟩
def rNone : Rl Unit := ⟨fun _ v _ => v = .non, fun _ h => h⟩
def rStr : Rl Str := ⟨fun _ v x => v = .str x ∧ x.length ≤ sizeLine, fun _ h => h⟩
def rOpt {α : Type} (r : Rl α) : Rl (Option α) := ⟨fun F v o => match o with
  | none => v = .non
  | some a => r.rel F v a, fun {F F' v o} s h => by
    cases o with
    | none => exact h
    | some a => exact r.mono s h⟩
/-- a list that is written -/
def oList {α : Type} (r : Rl α) : Ro (List α) := ⟨fun F ho l => ∃ vs, ho = .lst vs ∧ vs.length ≤ sizeLine ∧ All2 (r.rel F) vs l,
  fun s h => by
    obtain ⟨vs, e, h2, h3⟩ := h
    exact ⟨vs, e, h2, h3.imp fun _ _ => r.mono s⟩⟩
/-- an object that stands still -/
def fz {α : Type} (r : Ro α) : Rl α := ⟨fun F v a => ∃ p ho, v = .ref p ∧ F p = some ho ∧ r.rel F ho a,
  fun s h => by
    obtain ⟨p, ho, e, h1, h2⟩ := h
    exact ⟨p, ho, e, s _ _ h1, r.mono s h2⟩⟩
def rList {α : Type} (r : Rl α) : Rl (List α) := fz (oList r)
section
variable (K : PySem.W.Frag)
theorem SqT.same {K : PySem.W.Frag} {H H' : Hp} {a : Addr} {xs : List V} (e : Same H H') (h : SqT K H a xs) : SqT K H' a xs := by
  rcases h with (h | ⟨o, h⟩) | h
  · exact .inl (.inl (e _ _ h))
  · exact .inl (.inr ⟨o, e _ _ h⟩)
  · exact .inr h
/-- a tuple of any length, all items of one kind -/
def rTup {α : Type} (r : Rl α) : Rl (List α) := ⟨fun F v l => ∃ p vs, v = .ref p ∧ SqT K F p vs ∧ vs.length ≤ sizeLine ∧ All2 (r.rel F) vs l,
  fun s h => by
    obtain ⟨p, vs, e, h1, h2, h3⟩ := h
    exact ⟨p, vs, e, SqT.same s h1, h2, h3.imp fun _ _ => r.mono s⟩⟩
def rPair {α β : Type} (r : Rl α) (u : Rl β) : Rl (α × β) := ⟨fun F v x => ∃ p a b, v = .ref p ∧ SqT K F p [a, b] ∧ r.rel F a x.1 ∧ u.rel F b x.2,
  fun s h => by
    obtain ⟨p, a, b, e, h1, h2, h3⟩ := h
    exact ⟨p, a, b, e, SqT.same s h1, r.mono s h2, u.mono s h3⟩⟩
def rTrip {α β γ : Type} (r : Rl α) (u : Rl β) (w : Rl γ) : Rl (α × β × γ) := ⟨fun F v x => ∃ p a b c, v = .ref p ∧ SqT K F p [a, b, c] ∧ r.rel F a x.1 ∧ u.rel F b x.2.1 ∧ w.rel F c x.2.2,
  fun s h => by
    obtain ⟨p, a, b, c, e, h1, h2, h3, h4⟩ := h
    exact ⟨p, a, b, c, e, SqT.same s h1, r.mono s h2, u.mono s h3, w.mono s h4⟩⟩
end
/-- needs no heap -/
def Rl.Flat {α : Type} (r : Rl α) : Prop := ∀ F F' v a, r.rel F v a → r.rel F' v a
theorem flatInt : rInt.Flat := fun _ _ _ _ h => h
theorem flatBool : rBool.Flat := fun _ _ _ _ h => h
theorem flatNone : rNone.Flat := fun _ _ _ _ h => h
theorem flatStr : rStr.Flat := fun _ _ _ _ h => h
theorem flatOpt {α : Type} {r : Rl α} (h : r.Flat) : (rOpt r).Flat := fun F F' v o q => by
  cases o with
  | none => exact q
  | some a => exact h F F' v a q

/-! ### slots -/
inductive Sl : Type 1 where
  | any
  | val {α : Type} (r : Rl α) (a : α)
  | own {α : Type} (r : Ro α) (a : α)
def SlOk (F H : Hp) : Sl → Option V → Prop
  | .any, _ => True
  | .val r a, o => ∃ v, o = some v ∧ r.rel F v a
  | .own r a, o => ∃ p ho, o = some (.ref p) ∧ H p = some ho ∧ r.rel F ho a
def ownA : List Sl → St → List Addr
  | .own _ _ :: Γ, some (.ref p) :: σ => p :: ownA Γ σ
  | _ :: Γ, _ :: σ => ownA Γ σ
  | _, _ => []
inductive SlsOk (F H : Hp) : List Sl → St → Prop where
  | nil : SlsOk F H [] []
  | cons {s o Γ σ} : SlOk F H s o → SlsOk F H Γ σ → SlsOk F H (s :: Γ) (o :: σ)
/-- what a law's run leans on: the written part, the pool's address, what is wanted of exceptions -/
structure Cf where
  K : PySem.W.Frag
  q : Option Addr
  s : Addr
  W : WX
def PoolOk (q : Option Addr) (sc : Addr) (F H : Hp) (p : Pool) : Prop := match q with
  | none => True
  | some a => F a = none ∧ H a = some (.lst [.ref sc, .int p.pos, .int p.cur, .int p.left, .int p.mode]) ∧ F sc = some (.lst (p.scr.map V.int)) ∧ p.scr.length ≤ 1000
def payR (H : Hp) (d : Option Addr) : Pay → Prop
  | .non => d = none
  | .int f i => ∃ dx, d = some dx ∧ H dx = some (.xd [(f, .int i)])
  | .str f x => ∃ dx, d = some dx ∧ x.length ≤ sizeLine ∧ H dx = some (.xd [(f, .str x)])
  | .strs f l => ∃ dx t, d = some dx ∧ H dx = some (.xd [(f, .ref t)]) ∧ H t = some (.tup (l.map V.str)) ∧ ∀ x ∈ l, x.length ≤ sizeLine
/-- an exception of the program's -/
def ExR (K : PySem.W.Frag) (H : Hp) (e : Exc) (cls : Value) (d : Option Addr) : Prop := cls = .ref (He.ga K e.cls) ∧ payR H d e.pay
structure Ext (q : Option Addr) (F H F' H' : Hp) : Prop where
  sub : Same F F'
  sub' : Same F' H'
  keep : ∀ b o, H b = some o → q ≠ some b → H' b = some o
  new : ∀ b o, F' b = some o → F b = some o ∨ H b = none
theorem Ext.refl {q : Option Addr} {F H : Hp} (s : Same F H) : Ext q F H F H := ⟨Same.refl _, s, fun _ _ h _ => h, fun _ _ h => .inl h⟩
theorem Ext.trans {q : Option Addr} {F H F1 H1 F2 H2 : Hp} (a : Ext q F H F1 H1) (b : Ext q F1 H1 F2 H2) (hq : ∀ x, q = some x → H1 x ≠ none) : Ext q F H F2 H2 where
  sub := a.sub.trans b.sub
  sub' := b.sub'
  keep := fun c o h n => b.keep c o (a.keep c o h n) n
  new := fun c o h => by
    rcases b.new c o h with h1 | h1
    · exact a.new c o h1
    · right
      cases e : H c with
      | none => rfl
      | some u =>
        by_cases n : q = some c
        · exact absurd h1 (hq c n)
        · rw [a.keep c u e n] at h1; cases h1
theorem PoolOk.there {q : Option Addr} {sc : Addr} {F H : Hp} {p : Pool} (h : PoolOk q sc F H p) : ∀ x, q = some x → H x ≠ none := fun x e => by
  subst e
  obtain ⟨_, h1, _⟩ := h
  rw [h1]; simp
theorem Ext.tr {q : Option Addr} {sc : Addr} {F H F1 H1 F2 H2 : Hp} {p : Pool} (a : Ext q F H F1 H1) (b : Ext q F1 H1 F2 H2) (hp : PoolOk q sc F1 H1 p) : Ext q F H F2 H2 := a.trans b hp.there
/-- a state of a def's run: S is its entry -/
structure Good (S : Hp × Hp) (q : Option Addr) (sc : Addr) (Γ : List Sl) (σ : St) (F H : Hp) (p : Pool) : Prop where
  sub : Same F H
  sl : SlsOk F H Γ σ
  nd : (ownA Γ σ).Nodup
  of : ∀ a ∈ ownA Γ σ, F a = none
  oq : ∀ a ∈ ownA Γ σ, q ≠ some a
  os : ∀ a ∈ ownA Γ σ, S.2 a = none
  ent : Ext q S.1 S.2 F H
  pl : PoolOk q sc F H p
theorem SlsOk.ext {F H F' H' : Hp} (s : Same F F') : ∀ {Γ : List Sl} {σ : St}, (∀ a ∈ ownA Γ σ, ∀ o, H a = some o → H' a = some o) → SlsOk F H Γ σ → SlsOk F' H' Γ σ
  | _, _, _, .nil => .nil
  | s1 :: Γ, o1 :: σ, k, .cons h t => by
    refine .cons ?_ (SlsOk.ext s (fun a ha => k a ?_) t)
    · cases s1 with
      | any => trivial
      | val r a => obtain ⟨v, e, h⟩ := h; exact ⟨v, e, r.mono s h⟩
      | own r a =>
        obtain ⟨p, ho, e, h1, h2⟩ := h
        subst e
        exact ⟨p, ho, rfl, k p List.mem_cons_self _ h1, r.mono s h2⟩
    · cases s1 with
      | any => exact ha
      | val r a => exact ha
      | own r a =>
        obtain ⟨p, ho, e, h1, h2⟩ := h
        subst e
        exact List.mem_cons_of_mem _ ha
theorem SlsOk.ownAt {F H : Hp} : ∀ {Γ : List Sl} {σ : St}, SlsOk F H Γ σ → ∀ a ∈ ownA Γ σ, ∃ o, H a = some o
  | _, _, .nil, a, ha => nomatch ha
  | s1 :: Γ, o1 :: σ, .cons h t, a, ha => by
    cases s1 with
    | any => exact t.ownAt a ha
    | val r x => exact t.ownAt a ha
    | own r x =>
      obtain ⟨p, ho, e, h1, h2⟩ := h
      subst e
      rcases List.mem_cons.mp ha with e | ha
      · subst e; exact ⟨_, h1⟩
      · exact t.ownAt a ha
theorem Good.ext {S : Hp × Hp} {q : Option Addr} {sc : Addr} {Γ : List Sl} {σ : St} {F H F' H' : Hp} {p p' : Pool} (g : Good S q sc Γ σ F H p) (e : Ext q F H F' H') (pl : PoolOk q sc F' H' p') : Good S q sc Γ σ F' H' p' where
  sub := e.sub'
  sl := g.sl.ext e.sub fun a ha o h => e.keep a o h (g.oq a ha)
  nd := g.nd
  of := fun a ha => by
    cases h : F' a with
    | none => rfl
    | some o =>
      obtain ⟨u, hu⟩ := g.sl.ownAt a ha
      rcases e.new a o h with h1 | h1
      · rw [g.of a ha] at h1; cases h1
      · rw [hu] at h1; cases h1
  oq := g.oq
  os := g.os
  ent := g.ent.tr e g.pl
  pl := pl

/-! ### what is wanted behind an expression -/
def Post {X α : Type} (c : Cf) (σ : St) (F H : Hp) (r : Rg X α) (Q : X → Hp → Prop) : Except Er α × Pool → Prop
  | (.ok a, p') => ∀ v F' H', Ext c.q F H F' H' → PoolOk c.q c.s F' H' p' → r.rel F' v a → Q v H'
  | (.error (.exc e), p') => ∀ cls d F' H', Ext c.q F H F' H' → PoolOk c.q c.s F' H' p' → ExR c.K H' e cls d → c.W cls d σ H'
  | (.error .stuck, _) => False
section
variable {c : Cf} {σ : St} {F H F1 H1 : Hp} {p p1 : Pool} {X Y : Type} {Q : X → Hp → Prop}
theorem Post.later {α : Type} {r : Rg X α} {x : Except Er α × Pool} (h : Post c σ F H r Q x) (e : Ext c.q F H F1 H1) (hp : PoolOk c.q c.s F1 H1 p) : Post c σ F1 H1 r Q x := by
  rcases x with ⟨_ | _, p'⟩
  · rename_i er
    cases er with
    | stuck => exact h
    | exc ex => exact fun cls d F' H' e' pl k => h cls d F' H' (e.tr e' hp) pl k
  · exact fun v F' H' e' pl k => h v F' H' (e.tr e' hp) pl k
theorem Post.seq {α β : Type} {r : Rg X α} {r' : Rg Y β} {m : PM α} {f : α → PM β} {Q' : Y → Hp → Prop} (h : Post c σ F H r' Q' ((m >>= f) p))
    (k : ∀ a p1 v F1 H1, Ext c.q F H F1 H1 → PoolOk c.q c.s F1 H1 p1 → r.rel F1 v a → Post c σ F1 H1 r' Q' (f a p1) → Q v H1) : Post c σ F H r Q (m p) := by
  rw [run_bind] at h
  cases e : m p with
  | mk x p1 =>
    rw [e] at h
    cases x with
    | error er =>
      cases er with
      | stuck => exact h
      | exc ex => exact h
    | ok a => exact fun v F1 H1 e1 pl1 r1 => k a p1 v F1 H1 e1 pl1 r1 (Post.later h e1 pl1)
/-- nothing happens: the value as it is -/
theorem Post.now {α : Type} {r : Rg X α} {a : α} {v : X} (h : Post c σ F H r Q ((pure a : PM α) p)) (s : Same F H) (pl : PoolOk c.q c.s F H p) (k : r.rel F v a) : Q v H := h v F H (Ext.refl s) pl k
end
/-- the reading of an expression: its value is the mirror's -/
def Ev {α : Type} (c : Cf) (Γ : List Sl) (t : TE) (m : PM α) (r : Rl α) : Prop :=
  ∀ (S : Hp × Hp) (σ : St) (F H : Hp) (p : Pool) (Q : VK), Good S c.q c.s Γ σ F H p → Post c σ F H r Q (m p) → t σ H Q
/-- a test -/
def Et (c : Cf) (Γ : List Sl) (t : TT) (m : PM Bool) : Prop :=
  ∀ (S : Hp × Hp) (σ : St) (F H : Hp) (p : Pool) (Q : Bool → Hp → Prop), Good S c.q c.s Γ σ F H p → Post c σ F H rBool (fun v H' => ∀ b, v = .bl b → Q b H') (m p) → t σ H Q
/-- arguments -/
def aNil : Ra Unit := ⟨fun _ vs _ => vs = [], fun _ h => h⟩
def aCons {α A : Type} (r : Rl α) (ra : Ra A) : Ra (α × A) := ⟨fun F vs x => ∃ v ws, vs = v :: ws ∧ r.rel F v x.1 ∧ ra.rel F ws x.2,
  fun s h => by
    obtain ⟨v, ws, e, h1, h2⟩ := h
    exact ⟨v, ws, e, r.mono s h1, ra.mono s h2⟩⟩
def Ea {A : Type} (c : Cf) (Γ : List Sl) (t : TA) (m : PM A) (r : Ra A) : Prop :=
  ∀ (S : Hp × Hp) (σ : St) (F H : Hp) (p : Pool) (Q : List V → Hp → Prop), Good S c.q c.s Γ σ F H p → Post c σ F H r Q (m p) → t σ H Q
end Kf

set_option maxHeartbeats 4000000
namespace Kf
open PySem PySem.Spec L2
open PyProof.Rows hiding St
def nth : List Sl → Nat → Sl
  | [], _ => .any
  | s :: _, 0 => s
  | _ :: Γ, n + 1 => nth Γ n
def put : List Sl → Nat → Sl → List Sl
  | [], _, _ => []
  | _ :: Γ, 0, s => s :: Γ
  | x :: Γ, n + 1, s => x :: put Γ n s
theorem SlsOk.at {F H : Hp} : ∀ {Γ : List Sl} {σ : St} {i : Nat}, SlsOk F H Γ σ → nth Γ i ≠ .any → ∃ o, σ[i]? = some o ∧ SlOk F H (nth Γ i) o
  | _, _, _, .nil, h => absurd rfl h
  | _, _, 0, .cons h _, _ => ⟨_, rfl, h⟩
  | _, _, i + 1, .cons _ t, h => by
    obtain ⟨o, h1, h2⟩ := t.at (i := i) h
    exact ⟨o, by simpa using h1, h2⟩
theorem SlsOk.val {F H : Hp} {Γ : List Sl} {σ : St} {i : Nat} {α : Type} {r : Rl α} {a : α} (h : SlsOk F H Γ σ) (e : nth Γ i = .val r a) : ∃ v, σ[i]? = some (some v) ∧ r.rel F v a := by
  obtain ⟨o, h1, h2⟩ := h.at (i := i) (by rw [e]; intro z; cases z)
  rw [e] at h2
  obtain ⟨v, e2, h3⟩ := h2
  subst e2
  exact ⟨v, h1, h3⟩
theorem own_mem : ∀ {Γ : List Sl} {σ : St} {i : Nat} {α : Type} {r : Ro α} {a : α} {p : Addr}, nth Γ i = .own r a → σ[i]? = some (some (.ref p)) → p ∈ ownA Γ σ
  | s :: Γ, o :: σ, 0, α, r, a, p, h1, h2 => by
    have e : s = .own r a := h1
    have e2 : o = some (.ref p) := by simpa using h2
    subst e e2
    exact List.mem_cons_self
  | s :: Γ, o :: σ, i + 1, α, r, a, p, h1, h2 => by
    have ih := own_mem (Γ := Γ) (σ := σ) (i := i) (r := r) (a := a) (p := p) h1 (by simpa using h2)
    cases s with
    | any => exact ih
    | val _ _ => exact ih
    | own _ _ =>
      cases o with
      | none => exact ih
      | some v => cases v with
        | ref q => exact List.mem_cons_of_mem _ ih
        | _ => exact ih
  | [], _, i, _, _, _, _, h1, _ => by cases i <;> cases h1
  | _ :: _, [], i, _, _, _, _, _, h2 => by simp at h2
theorem SlsOk.own {F H : Hp} {Γ : List Sl} {σ : St} {i : Nat} {α : Type} {r : Ro α} {a : α} (h : SlsOk F H Γ σ) (e : nth Γ i = .own r a) : ∃ p ho, σ[i]? = some (some (.ref p)) ∧ H p = some ho ∧ r.rel F ho a ∧ p ∈ ownA Γ σ := by
  obtain ⟨o, h1, h2⟩ := h.at (i := i) (by rw [e]; intro z; cases z)
  rw [e] at h2
  obtain ⟨p, ho, e2, h3, h4⟩ := h2
  subst e2
  exact ⟨p, ho, h1, h3, h4, own_mem e h1⟩

section
variable {c : Cf} {Γ : List Sl} {ta tb tc : TE} {α β : Type}
/-! ### names and constants -/
theorem ev_var (i : Nat) {r : Rl α} {a : α} (h : nth Γ i = .val r a) : Ev c Γ (tVar i) (pure a) r := fun S σ F H p Q g q => by
  obtain ⟨v, h1, h2⟩ := g.sl.val h
  exact ⟨v, h1, q.now g.sub g.pl h2⟩
theorem ev_c {r : Rl α} {v : V} {a : α} (h : ∀ F, r.rel F v a) : Ev c Γ (tC v) (pure a) r := fun S σ F H p Q g q => q.now g.sub g.pl (h F)
theorem ev_int {i : Int} : Ev c Γ (tC (.int i)) (pure i) rInt := ev_c fun _ => rfl
theorem ev_bl {b : Bool} : Ev c Γ (tC (.bl b)) (pure b) rBool := ev_c fun _ => rfl
theorem ev_non : Ev c Γ (tC .non) (pure ()) rNone := ev_c fun _ => rfl
theorem ev_nonO {r : Rl α} : Ev c Γ (tC .non) (pure none) (rOpt r) := ev_c fun _ => rfl
theorem ev_str {x : Str} (h : x.length ≤ sizeLine) : Ev c Γ (tC (.str x)) (pure x) rStr := ev_c fun _ => ⟨rfl, h⟩
/-- a value where an optional one is told -/
theorem ev_some {t : TE} {r : Rl α} {m : PM α} (h : Ev c Γ t m r) : Ev c Γ t (m >>= fun a => pure (some a)) (rOpt r) := fun S σ F H p Q g q =>
  h S σ F H p Q g (q.seq fun a p1 v F1 H1 e1 pl1 r1 h1 => h1.now (g.ext e1 pl1).sub pl1 r1)

/-! ### operators -/
theorem ev_op {rr : R2} {ra : Rl α} {rb : Rl β} {γ : Type} {rc : Rl γ} {ma : PM α} {mb : PM β} {f : α → β → PM γ} (ha : Ev c Γ ta ma ra) (hb : Ev c Γ tb mb rb)
    (k : ∀ a b S σ F H p x y Q, Good S c.q c.s Γ σ F H p → ra.rel F x a → rb.rel F y b → Post c σ F H rc Q (f a b p) → rr x y H Q) : Ev c Γ (tOp rr ta tb) (ma >>= fun a => mb >>= fun b => f a b) rc := fun S σ F H p Q g q =>
  ha S σ F H p _ g (q.seq fun a p1 v F1 H1 e1 pl1 r1 h1 => hb S σ F1 H1 p1 _ (g.ext e1 pl1) (h1.seq fun b p2 w F2 H2 e2 pl2 r2 h2 =>
    k a b S σ F2 H2 p2 v w Q ((g.ext e1 pl1).ext e2 pl2) (ra.mono e2.sub r1) r2 h2))

theorem ev_i0 {g : Int → Int → Int} {ma mb : PM Int} (ha : Ev c Γ ta ma rInt) (hb : Ev c Γ tb mb rInt) : Ev c Γ (tOp (rI0 fun i j => .int (g i j)) ta tb) (ma >>= fun a => mb >>= fun b => pure (g a b)) rInt :=
  ev_op ha hb fun a b S σ F H p x y Q gd hx hy q => ⟨a, b, hx, hy, q.now gd.sub gd.pl rfl⟩
theorem ev_add {ma mb : PM Int} (ha : Ev c Γ ta ma rInt) (hb : Ev c Γ tb mb rInt) : Ev c Γ (tOp (rI0 fun i j => .int (i + j)) ta tb) (ma >>= fun a => mb >>= fun b => pure (a + b)) rInt := ev_i0 (g := fun a b => a + b) ha hb
theorem ev_sub {ma mb : PM Int} (ha : Ev c Γ ta ma rInt) (hb : Ev c Γ tb mb rInt) : Ev c Γ (tOp (rI0 fun i j => .int (i - j)) ta tb) (ma >>= fun a => mb >>= fun b => pure (a - b)) rInt := ev_i0 (g := fun a b => a - b) ha hb
def guardM {α : Type} (C : Prop) [Decidable C] (a : α) : PM α := if C then pure a else stuck
@[simp] theorem guardM_pos {α : Type} {C : Prop} [Decidable C] {a : α} (h : C) : guardM C a = pure a := if_pos h
theorem ev_iC {C : Int → Int → Prop} [∀ i j, Decidable (C i j)] {g : Int → Int → Int} {ma mb : PM Int} (ha : Ev c Γ ta ma rInt) (hb : Ev c Γ tb mb rInt) :
    Ev c Γ (tOp (rI C fun i j => .int (g i j)) ta tb) (ma >>= fun a => mb >>= fun b => guardM (C a b) (g a b)) rInt :=
  ev_op ha hb fun a b S σ F H p x y Q gd hx hy q => by
    unfold guardM at q
    by_cases h : C a b
    · rw [if_pos h] at q
      exact ⟨a, b, hx, hy, h, q.now gd.sub gd.pl rfl⟩
    · rw [if_neg h] at q
      exact q.elim
instance (i j : Int) : Decidable (CMul i j) := inferInstanceAs (Decidable (_ ∨ _))
instance (i j : Int) : Decidable (CDiv i j) := inferInstanceAs (Decidable (_ ∧ _))
instance (i j : Int) : Decidable (CDivN i j) := inferInstanceAs (Decidable (_ ∧ _))
instance (i j : Int) : Decidable (CPow i j) := inferInstanceAs (Decidable (_ ∧ _))
def mulM (a b : Int) : PM Int := guardM (CMul a b) (a * b)
def divM (a b : Int) : PM Int := guardM (CDiv a b) (a / b)
def modM (a b : Int) : PM Int := guardM (0 < b) (a % b)
def powM (a b : Int) : PM Int := guardM (CPow a b) (a ^ b.toNat)
def shlM (a b : Int) : PM Int := guardM (CPow a b) (a * 2 ^ b.toNat)
theorem ev_mul {ma mb : PM Int} (ha : Ev c Γ ta ma rInt) (hb : Ev c Γ tb mb rInt) : Ev c Γ (tOp (rI CMul fun i j => .int (i * j)) ta tb) (ma >>= fun a => mb >>= fun b => mulM a b) rInt := ev_iC (g := fun a b => a * b) ha hb
theorem ev_div {ma mb : PM Int} (ha : Ev c Γ ta ma rInt) (hb : Ev c Γ tb mb rInt) : Ev c Γ (tOp (rI CDiv fun i j => .int (i / j)) ta tb) (ma >>= fun a => mb >>= fun b => divM a b) rInt := ev_iC (g := fun a b => a / b) ha hb
theorem ev_mod {ma mb : PM Int} (ha : Ev c Γ ta ma rInt) (hb : Ev c Γ tb mb rInt) : Ev c Γ (tOp (rI (fun _ j => 0 < j) fun i j => .int (i % j)) ta tb) (ma >>= fun a => mb >>= fun b => modM a b) rInt := ev_iC (C := fun _ j => 0 < j) (g := fun a b => a % b) ha hb
theorem ev_pow {ma mb : PM Int} (ha : Ev c Γ ta ma rInt) (hb : Ev c Γ tb mb rInt) : Ev c Γ (tOp (rI CPow fun i j => .int (i ^ j.toNat)) ta tb) (ma >>= fun a => mb >>= fun b => powM a b) rInt := ev_iC (g := fun a b => a ^ b.toNat) ha hb
theorem ev_shl {ma mb : PM Int} (ha : Ev c Γ ta ma rInt) (hb : Ev c Γ tb mb rInt) : Ev c Γ (tOp (rI CPow fun i j => .int (i * 2 ^ j.toNat)) ta tb) (ma >>= fun a => mb >>= fun b => shlM a b) rInt := ev_iC (g := fun a b => a * 2 ^ b.toNat) ha hb
theorem ev_neg {ma : PM Int} (ha : Ev c Γ ta ma rInt) : Ev c Γ (tUn (rU fun i => .int (-i)) ta) (ma >>= fun a => pure (-a)) rInt := fun S σ F H p Q g q =>
  ha S σ F H p _ g (q.seq fun a p1 v F1 H1 e1 pl1 r1 h1 => ⟨a, r1, h1.now (g.ext e1 pl1).sub pl1 rfl⟩)
/-- comparisons of ints -/
theorem ev_cI {g : Int → Int → Bool} {ma mb : PM Int} (ha : Ev c Γ ta ma rInt) (hb : Ev c Γ tb mb rInt) : Ev c Γ (tOp (rI0 fun i j => .bl (g i j)) ta tb) (ma >>= fun a => mb >>= fun b => pure (g a b)) rBool :=
  ev_op ha hb fun a b S σ F H p x y Q gd hx hy q => ⟨a, b, hx, hy, q.now gd.sub gd.pl rfl⟩
theorem ev_lt {ma mb : PM Int} (ha : Ev c Γ ta ma rInt) (hb : Ev c Γ tb mb rInt) : Ev c Γ (tOp (rI0 fun i j => .bl (decide (i < j))) ta tb) (ma >>= fun a => mb >>= fun b => pure (decide (a < b))) rBool := ev_cI (g := fun a b => decide (a < b)) ha hb
theorem ev_le {ma mb : PM Int} (ha : Ev c Γ ta ma rInt) (hb : Ev c Γ tb mb rInt) : Ev c Γ (tOp (rI0 fun i j => .bl (decide (i ≤ j))) ta tb) (ma >>= fun a => mb >>= fun b => pure (decide (a ≤ b))) rBool := ev_cI (g := fun a b => decide (a ≤ b)) ha hb
theorem ev_gt {ma mb : PM Int} (ha : Ev c Γ ta ma rInt) (hb : Ev c Γ tb mb rInt) : Ev c Γ (tOp (rI0 fun i j => .bl (decide (j < i))) ta tb) (ma >>= fun a => mb >>= fun b => pure (decide (b < a))) rBool := ev_cI (g := fun a b => decide (b < a)) ha hb
theorem ev_ge {ma mb : PM Int} (ha : Ev c Γ ta ma rInt) (hb : Ev c Γ tb mb rInt) : Ev c Γ (tOp (rI0 fun i j => .bl (decide (j ≤ i))) ta tb) (ma >>= fun a => mb >>= fun b => pure (decide (b ≤ a))) rBool := ev_cI (g := fun a b => decide (b ≤ a)) ha hb
/-- values that are compared by what they are -/
structure Scal {α : Type} (r : Rl α) (f : α → V) : Prop where
  v : ∀ {F v a}, r.rel F v a → v = f a
  inj : ∀ {a b}, f a = f b ↔ a = b
  sc : ∀ a b, scal (f a) (f b) = true
theorem scInt : Scal rInt V.int := ⟨fun h => h, ⟨fun h => by injection h, fun h => by rw [h]⟩, fun _ _ => rfl⟩
theorem scStr : Scal rStr V.str := ⟨fun h => h.1, ⟨fun h => by injection h, fun h => by rw [h]⟩, fun _ _ => rfl⟩
theorem scBool : Scal rBool V.bl := ⟨fun h => h, ⟨fun h => by injection h, fun h => by rw [h]⟩, fun _ _ => rfl⟩
theorem ev_eq {r : Rl α} {f : α → V} (sc : Scal r f) [DecidableEq α] {ma mb : PM α} (ha : Ev c Γ ta ma r) (hb : Ev c Γ tb mb r) : Ev c Γ (tOp rEq ta tb) (ma >>= fun a => mb >>= fun b => pure (decide (a = b))) rBool :=
  ev_op ha hb fun a b S σ F H p x y Q gd hx hy q => by
    rw [sc.v hx, sc.v hy]
    refine ⟨sc.sc a b, ?_⟩
    have e : decide (f a = f b) = decide (a = b) := by
      by_cases h : a = b
      · rw [decide_eq_true h, decide_eq_true (sc.inj.mpr h)]
      · rw [decide_eq_false h, decide_eq_false fun z => h (sc.inj.mp z)]
    rw [e]
    exact q.now gd.sub gd.pl rfl
theorem ev_ne {r : Rl α} {f : α → V} (sc : Scal r f) [DecidableEq α] {ma mb : PM α} (ha : Ev c Γ ta ma r) (hb : Ev c Γ tb mb r) : Ev c Γ (tOp rNe ta tb) (ma >>= fun a => mb >>= fun b => pure (!decide (a = b))) rBool :=
  ev_op ha hb fun a b S σ F H p x y Q gd hx hy q => by
    rw [sc.v hx, sc.v hy]
    refine ⟨sc.sc a b, ?_⟩
    have e : decide (f a = f b) = decide (a = b) := by
      by_cases h : a = b
      · rw [decide_eq_true h, decide_eq_true (sc.inj.mpr h)]
      · rw [decide_eq_false h, decide_eq_false fun z => h (sc.inj.mp z)]
    rw [e]
    exact q.now gd.sub gd.pl rfl
/-- is None -/
theorem ev_isN {r : Rl α} {ma : PM (Option α)} (hr : ∀ {F v a}, r.rel F v a → v ≠ .non) (ha : Ev c Γ ta ma (rOpt r)) :
    Ev c Γ (tOp (fun x y H Q => y = .non ∧ Q (.bl (decide (x = .non))) H) ta (tC .non)) (ma >>= fun a => pure a.isNone) rBool := fun S σ F H p Q g q =>
  ha S σ F H p _ g (q.seq fun a p1 v F1 H1 e1 pl1 r1 h1 => by
    refine ⟨rfl, h1.now (g.ext e1 pl1).sub pl1 ?_⟩
    cases a with
    | none => rw [show v = .non from r1]; rfl
    | some a => exact congrArg V.bl (decide_eq_false (hr r1)))
theorem ev_notN {r : Rl α} {ma : PM (Option α)} (hr : ∀ {F v a}, r.rel F v a → v ≠ .non) (ha : Ev c Γ ta ma (rOpt r)) :
    Ev c Γ (tOp (fun x y H Q => y = .non ∧ Q (.bl (!decide (x = .non))) H) ta (tC .non)) (ma >>= fun a => pure a.isSome) rBool := fun S σ F H p Q g q =>
  ha S σ F H p _ g (q.seq fun a p1 v F1 H1 e1 pl1 r1 h1 => by
    refine ⟨rfl, h1.now (g.ext e1 pl1).sub pl1 ?_⟩
    cases a with
    | none => rw [show v = .non from r1]; rfl
    | some a => exact congrArg V.bl (by rw [decide_eq_false (hr r1)]; rfl))
/-- a chain of two comparisons of ints -/
theorem ev_chain {g1 g2 : Int → Int → Bool} {ma mb mc : PM Int} (ha : Ev c Γ ta ma rInt) (hb : Ev c Γ tb mb rInt) (hc : Ev c Γ tc mc rInt) :
    Ev c Γ (tChain (rI0 fun i j => .bl (g1 i j)) (rI0 fun i j => .bl (g2 i j)) ta tb tc) (ma >>= fun a => mb >>= fun b => if g1 a b = true then mc >>= fun d => pure (g2 b d) else pure false) rBool := fun S σ F H p Q g q =>
  ha S σ F H p _ g (q.seq fun a p1 v F1 H1 e1 pl1 r1 h1 => hb S σ F1 H1 p1 _ (g.ext e1 pl1) (h1.seq fun b p2 w F2 H2 e2 pl2 r2 h2 => by
    refine ⟨a, b, r1, r2, _, rfl, ?_⟩
    by_cases hg : g1 a b = true
    · rw [if_pos hg] at h2 ⊢
      exact hc S σ F2 H2 p2 _ ((g.ext e1 pl1).ext e2 pl2) (h2.seq fun d p3 u F3 H3 e3 pl3 r3 h3 => ⟨b, d, r2, r3, h3.now (((g.ext e1 pl1).ext e2 pl2).ext e3 pl3).sub pl3 rfl⟩)
    · rw [if_neg hg] at h2 ⊢
      exact h2.now ((g.ext e1 pl1).ext e2 pl2).sub pl2 rfl))
/-! ### and, or, not as values -/
theorem ev_and {ma mb : PM Bool} (ha : Ev c Γ ta ma rBool) (hb : Ev c Γ tb mb rBool) : Ev c Γ (tAndV ta tb) (ma >>= fun a => if a = true then mb else pure false) rBool := fun S σ F H p Q g q =>
  ha S σ F H p _ g (q.seq fun a p1 v F1 H1 e1 pl1 r1 h1 => by
    refine ⟨a, r1, ?_⟩
    by_cases hg : a = true
    · rw [if_pos hg] at h1 ⊢
      exact hb S σ F1 H1 p1 _ (g.ext e1 pl1) h1
    · rw [if_neg hg] at h1 ⊢
      exact h1.now (g.ext e1 pl1).sub pl1 rfl)
theorem ev_or {ma mb : PM Bool} (ha : Ev c Γ ta ma rBool) (hb : Ev c Γ tb mb rBool) : Ev c Γ (tOrV ta tb) (ma >>= fun a => if a = true then pure true else mb) rBool := fun S σ F H p Q g q =>
  ha S σ F H p _ g (q.seq fun a p1 v F1 H1 e1 pl1 r1 h1 => by
    refine ⟨a, r1, ?_⟩
    by_cases hg : a = true
    · rw [if_pos hg] at h1 ⊢
      exact h1.now (g.ext e1 pl1).sub pl1 rfl
    · rw [if_neg hg] at h1 ⊢
      exact hb S σ F1 H1 p1 _ (g.ext e1 pl1) h1)
theorem ev_not {ma : PM Bool} (ha : Ev c Γ ta ma rBool) : Ev c Γ (tNotV ta) (ma >>= fun a => pure (!a)) rBool := fun S σ F H p Q g q =>
  ha S σ F H p _ g (q.seq fun a p1 v F1 H1 e1 pl1 r1 h1 => ⟨a, r1, h1.now (g.ext e1 pl1).sub pl1 rfl⟩)
/-! ### tests -/
variable {t1 t2 : TT} {m1 m2 : PM Bool}
theorem et_val {ma : PM Bool} (ha : Ev c Γ ta ma rBool) : Et c Γ (tB ta) ma := fun S σ F H p Q g q =>
  ha S σ F H p _ g (by
    rcases e : ma p with ⟨_ | a, p1⟩
    · rw [e] at q; rename_i er; cases er <;> exact q
    · rw [e] at q
      exact fun v F1 H1 e1 pl1 r1 => ⟨a, r1, q v F1 H1 e1 pl1 r1 a r1⟩)
theorem et_test {ma : PM Bool} (ha : Ev c Γ ta ma rBool) : Et c Γ (tTest ta) ma := et_val ha
/-- the way of a test's continuation -/
theorem Post.seqT {S : Hp × Hp} {σ : St} {F H : Hp} {p : Pool} {Y γ : Type} {r' : Rg Y γ} {f : Bool → PM γ} {Q' : Y → Hp → Prop} {Q : Bool → Hp → Prop} (h : Post c σ F H r' Q' ((m1 >>= f) p))
    (k : ∀ a p1 F1 H1, Ext c.q F H F1 H1 → PoolOk c.q c.s F1 H1 p1 → Post c σ F1 H1 r' Q' (f a p1) → Q a H1) : Post c σ F H rBool (fun v H' => ∀ b, v = .bl b → Q b H') (m1 p) :=
  h.seq fun a p1 v F1 H1 e1 pl1 r1 h1 b eb => by
    have : a = b := by rw [show v = .bl a from r1] at eb; injection eb
    subst this
    exact k a p1 F1 H1 e1 pl1 h1
theorem et_and (h1 : Et c Γ t1 m1) (h2 : Et c Γ t2 m2) : Et c Γ (tAnd t1 t2) (m1 >>= fun a => if a = true then m2 else pure false) := fun S σ F H p Q g q =>
  h1 S σ F H p _ g (q.seqT (S := S) fun a p1 F1 H1 e1 pl1 q1 => by
    by_cases hg : a = true
    · rw [if_pos hg] at q1 ⊢
      exact h2 S σ F1 H1 p1 _ (g.ext e1 pl1) q1
    · rw [if_neg hg] at q1 ⊢
      exact q1 (.bl false) F1 H1 (Ext.refl (g.ext e1 pl1).sub) pl1 rfl false rfl)
theorem et_or (h1 : Et c Γ t1 m1) (h2 : Et c Γ t2 m2) : Et c Γ (tOr t1 t2) (m1 >>= fun a => if a = true then pure true else m2) := fun S σ F H p Q g q =>
  h1 S σ F H p _ g (q.seqT (S := S) fun a p1 F1 H1 e1 pl1 q1 => by
    by_cases hg : a = true
    · rw [if_pos hg] at q1 ⊢
      exact q1 (.bl true) F1 H1 (Ext.refl (g.ext e1 pl1).sub) pl1 rfl true rfl
    · rw [if_neg hg] at q1 ⊢
      exact h2 S σ F1 H1 p1 _ (g.ext e1 pl1) q1)
theorem et_not (h1 : Et c Γ t1 m1) : Et c Γ (tNot t1) (m1 >>= fun a => pure (!a)) := fun S σ F H p Q g q =>
  h1 S σ F H p _ g (q.seqT (S := S) fun a p1 F1 H1 e1 pl1 q1 => q1 (.bl (!a)) F1 H1 (Ext.refl (g.ext e1 pl1).sub) pl1 rfl (!a) rfl)
theorem ev_if {r : Rl α} {ma mb : PM α} (h1 : Et c Γ t1 m1) (ha : Ev c Γ ta ma r) (hb : Ev c Γ tb mb r) : Ev c Γ (tIf t1 ta tb) (m1 >>= fun a => if a = true then ma else mb) r := fun S σ F H p Q g q =>
  h1 S σ F H p _ g (q.seqT (S := S) fun a p1 F1 H1 e1 pl1 q1 => by
    by_cases hg : a = true
    · rw [if_pos hg] at q1 ⊢
      exact ha S σ F1 H1 p1 _ (g.ext e1 pl1) q1
    · rw [if_neg hg] at q1 ⊢
      exact hb S σ F1 H1 p1 _ (g.ext e1 pl1) q1)
/-! ### arguments -/
theorem ea_nil : Ea c Γ tNil (pure ()) aNil := fun S σ F H p Q g q => q.now g.sub g.pl rfl
theorem ea_cons {A : Type} {r : Rl α} {ra : Ra A} {t : TA} {ma : PM α} {mr : PM A} (ha : Ev c Γ ta ma r) (hr : Ea c Γ t mr ra) : Ea c Γ (tCons ta t) (ma >>= fun a => mr >>= fun as => pure (a, as)) (aCons r ra) := fun S σ F H p Q g q =>
  ha S σ F H p _ g (q.seq fun a p1 v F1 H1 e1 pl1 r1 h1 => hr S σ F1 H1 p1 _ (g.ext e1 pl1) (h1.seq fun b p2 w F2 H2 e2 pl2 r2 h2 =>
    h2.now ((g.ext e1 pl1).ext e2 pl2).sub pl2 ⟨v, w, rfl, r.mono e2.sub r1, r2⟩))
/-- the last argument -/
theorem ea_one {r : Rl α} {ma : PM α} (ha : Ev c Γ ta ma r) : Ea c Γ (tCons ta tNil) (ma >>= fun a => pure (a, ())) (aCons r aNil) := fun S σ F H p Q g q =>
  ha S σ F H p _ g (q.seq fun a p1 v F1 H1 e1 pl1 r1 h1 => h1.now (g.ext e1 pl1).sub pl1 ⟨v, [], rfl, r1, rfl⟩)
end
end Kf

set_option maxHeartbeats 4000000
namespace Kf
open PySem PySem.Spec L2
open PyProof.Rows hiding St
theorem rList.of {α : Type} {r : Rl α} {F : Hp} {v : V} {l : List α} (h : (rList r).rel F v l) : ∃ p vs, v = .ref p ∧ F p = some (.lst vs) ∧ vs.length ≤ sizeLine ∧ All2 (r.rel F) vs l := by
  obtain ⟨p, ho, e, h1, vs, e2, h2, h3⟩ := h
  subst e2
  exact ⟨p, vs, e, h1, h2, h3⟩
theorem rList.mk {α : Type} {r : Rl α} {F : Hp} {p : Addr} {vs : List V} {l : List α} (h1 : F p = some (.lst vs)) (h2 : vs.length ≤ sizeLine) (h3 : All2 (r.rel F) vs l) : (rList r).rel F (.ref p) l := ⟨p, _, rfl, h1, vs, rfl, h2, h3⟩
/-! ### new objects -/
theorem same_upd {H : Hp} {p : Addr} {o : HO} (h : H p = none) : Same H (upd H p o) := fun b x e => by
  rw [upd_ne (ne_of_none e h)]
  exact e
theorem Same.none {F H : Hp} {p : Addr} (s : Same F H) (h : H p = none) : F p = none := s.free h
theorem same_updupd {F H : Hp} {p : Addr} {o : HO} (s : Same F H) : Same (upd F p o) (upd H p o) := fun b x e => by
  unfold upd at *
  by_cases hb : b = p
  · rw [if_pos hb] at e ⊢; exact e
  · rw [if_neg hb] at e ⊢; exact s _ _ e
/-- a new object that stands still -/
theorem Ext.new' {q : Option Addr} {F H : Hp} {p : Addr} {o : HO} (s : Same F H) (h : H p = none) : Ext q F H (upd F p o) (upd H p o) where
  sub := same_upd (Same.none s h)
  sub' := same_updupd s
  keep := fun b x e _ => same_upd h b x e
  new := fun b x e => by
    by_cases hb : b = p
    · subst hb; exact .inr h
    · rw [upd_ne hb] at e; exact .inl e
/-- .. that does not -/
theorem Ext.loose {q : Option Addr} {F H : Hp} {p : Addr} {o : HO} (s : Same F H) (h : H p = none) : Ext q F H F (upd H p o) where
  sub := Same.refl _
  sub' := s.trans (same_upd h)
  keep := fun b x e _ => same_upd h b x e
  new := fun _ _ e => .inl e
theorem PoolOk.up {q : Option Addr} {sc : Addr} {F H F' H' : Hp} {p : Pool} (h : PoolOk q sc F H p) (e : Ext none F H F' H') : PoolOk q sc F' H' p := by
  cases q with
  | none => trivial
  | some a =>
    obtain ⟨h1, h2, h3⟩ := h
    have k : H' a = _ := e.keep a _ h2 (by simp)
    refine ⟨?_, k, e.sub _ _ h3.1, h3.2⟩
    cases z : F' a with
    | none => rfl
    | some o =>
      rcases e.new a o z with y | y
      · rw [h1] at y; cases y
      · rw [h2] at y; cases y
theorem Ext.widen {q : Option Addr} {F H F' H' : Hp} (e : Ext none F H F' H') : Ext q F H F' H' := ⟨e.sub, e.sub', fun b o h _ => e.keep b o h (by simp), e.new⟩
/-- what is wanted behind an expression that makes an object -/
def PostN {α : Type} (c : Cf) (σ : St) (F H : Hp) (r : Ro α) (Q : VK) : Except Er α × Pool → Prop
  | (.ok a, p') => ∀ p ho F' H', Ext c.q F H F' H' → PoolOk c.q c.s F' H' p' → H p = none → F' p = none → H' p = some ho → c.q ≠ some p → r.rel F' ho a → Q (.ref p) H'
  | (.error (.exc e), p') => ∀ cls d F' H', Ext c.q F H F' H' → PoolOk c.q c.s F' H' p' → ExR c.K H' e cls d → c.W cls d σ H'
  | (.error .stuck, _) => False
def En {α : Type} (c : Cf) (Γ : List Sl) (t : TE) (m : PM α) (r : Ro α) : Prop :=
  ∀ (S : Hp × Hp) (σ : St) (F H : Hp) (p : Pool) (Q : VK), Good S c.q c.s Γ σ F H p → PostN c σ F H r Q (m p) → t σ H Q
section
variable {c : Cf} {σ : St} {F H F1 H1 : Hp} {p p1 : Pool} {X : Type} {Q : X → Hp → Prop} {α β : Type}
theorem PostN.later {r : Ro α} {x : Except Er α × Pool} {Q : VK} (h : PostN c σ F H r Q x) (e : Ext c.q F H F1 H1) (hp : PoolOk c.q c.s F1 H1 p) : PostN c σ F1 H1 r Q x := by
  rcases x with ⟨_ | _, p'⟩
  · rename_i er
    cases er with
    | stuck => exact h
    | exc ex => exact fun cls d F' H' e' pl k => h cls d F' H' (e.tr e' hp) pl k
  · refine fun q ho F' H' e' pl hn => h q ho F' H' (e.tr e' hp) pl ?_
    cases z : H q with
    | none => rfl
    | some o =>
      by_cases y : c.q = some q
      · exact absurd hn (hp.there q y)
      · rw [e.keep q o z y] at hn; cases hn
theorem PostN.seq {r : Rg X α} {r' : Ro β} {m : PM α} {f : α → PM β} {Q' : VK} (h : PostN c σ F H r' Q' ((m >>= f) p))
    (k : ∀ a p1 v F1 H1, Ext c.q F H F1 H1 → PoolOk c.q c.s F1 H1 p1 → r.rel F1 v a → PostN c σ F1 H1 r' Q' (f a p1) → Q v H1) : Post c σ F H r Q (m p) := by
  rw [run_bind] at h
  cases e : m p with
  | mk x p1 =>
    rw [e] at h
    cases x with
    | error er =>
      cases er with
      | stuck => exact h
      | exc ex => exact h
    | ok a => exact fun v F1 H1 e1 pl1 r1 => k a p1 v F1 H1 e1 pl1 r1 (PostN.later h e1 pl1)
/-- the new object at p -/
theorem PostN.now {r : Ro α} {a : α} {Q : VK} {q : Addr} {o : HO} (h : PostN c σ F H r Q ((pure a : PM α) p)) (s : Same F H) (pl : PoolOk c.q c.s F H p) (hq : H q = none) (k : r.rel F o a) : Q (.ref q) (upd H q o) :=
  h q o F (upd H q o) (Ext.loose s hq) (pl.up (Ext.loose s hq)) hq (Same.none s hq) upd_same (fun z => pl.there q z hq) k
end
section
variable {c : Cf} {Γ : List Sl} {ta tb tc : TE} {α β : Type}
/-- what is made may stand still -/
theorem ev_fz {t : TE} {m : PM α} {r : Ro α} (h : En c Γ t m r) : Ev c Γ t m (fz r) := fun S σ F H p Q g q =>
  h S σ F H p Q g (by
    rcases e : m p with ⟨_ | a, p1⟩
    · rw [e] at q; rename_i er; cases er <;> exact q
    · rw [e] at q
      intro x ho F1 H1 e1 pl1 hn hf hh hq rr
      have e2 : Ext c.q F H (upd F1 x ho) H1 := by
        refine ⟨e1.sub.trans (same_upd hf), fun b o z => ?_, e1.keep, fun b o z => ?_⟩
        · by_cases hb : b = x
          · subst hb; rw [upd_same] at z; rw [← z]; exact hh
          · rw [upd_ne hb] at z; exact e1.sub' b o z
        · by_cases hb : b = x
          · subst hb; exact .inr hn
          · rw [upd_ne hb] at z; exact e1.new b o z
      refine q (.ref x) (upd F1 x ho) H1 e2 ?_ ⟨x, ho, rfl, upd_same, r.mono (same_upd hf) rr⟩
      cases cq : c.q with
      | none => trivial
      | some a0 =>
        rw [cq] at pl1
        obtain ⟨h1, h2, h3⟩ := pl1
        have ne : a0 ≠ x := fun z => hq (by rw [cq, z])
        exact ⟨by rw [upd_ne ne]; exact h1, h2, same_upd hf _ _ h3.1, h3.2⟩)
/-! ### displays -/
/-- n items of one kind -/
def aAll (r : Rl α) (n : Nat) : Ra (List α) := ⟨fun F vs l => vs.length = n ∧ All2 (r.rel F) vs l, fun s h => ⟨h.1, h.2.imp fun _ _ => r.mono s⟩⟩
theorem ea_lnil {r : Rl α} : Ea c Γ tNil (pure []) (aAll r 0) := fun S σ F H p Q g q => q.now g.sub g.pl ⟨rfl, .nil⟩
theorem ea_lcons {r : Rl α} {n : Nat} {t : TA} {ma : PM α} {mr : PM (List α)} (ha : Ev c Γ ta ma r) (hr : Ea c Γ t mr (aAll r n)) : Ea c Γ (tCons ta t) (ma >>= fun a => mr >>= fun as => pure (a :: as)) (aAll r (n + 1)) := fun S σ F H p Q g q =>
  ha S σ F H p _ g (q.seq fun a p1 v F1 H1 e1 pl1 r1 h1 => hr S σ F1 H1 p1 _ (g.ext e1 pl1) (h1.seq fun b p2 w F2 H2 e2 pl2 r2 h2 =>
    h2.now ((g.ext e1 pl1).ext e2 pl2).sub pl2 ⟨by rw [List.length_cons, r2.1], .cons (r.mono e2.sub r1) r2.2⟩))
theorem en_lst {r : Rl α} {n : Nat} {t : TA} {m : PM (List α)} (h : Ea c Γ t m (aAll r n)) (hn : n ≤ sizeLine := by decide) : En c Γ (tLst t) m (oList r) := fun S σ F H p Q g q =>
  h S σ F H p _ g (by
    have q' : PostN c σ F H (oList r) Q ((m >>= fun l => pure l) p) := by rw [bind_pure]; exact q
    exact q'.seq fun a p1 v F1 H1 e1 pl1 r1 h1 => ⟨by rw [r1.1]; exact hn, fun x hx => h1.now (g.ext e1 pl1).sub pl1 hx ⟨v, rfl, by rw [r1.1]; exact hn, r1.2⟩⟩)
/-- a new tuple -/
theorem Post.tup {σ : St} {F H : Hp} {p : Pool} {r : Rl α} {a : α} {Q : VK} {x : Addr} {xs : List V} (h : Post c σ F H r Q ((pure a : PM α) p)) (s : Same F H) (pl : PoolOk c.q c.s F H p) (hx : H x = none)
    (k : r.rel (upd F x (.tup xs)) (.ref x) a) : Q (.ref x) (upd H x (.tup xs)) :=
  h (.ref x) (upd F x (.tup xs)) (upd H x (.tup xs)) (Ext.new' s hx) (pl.up (Ext.new' s hx)) k
theorem ev_pair {r : Rl α} {u : Rl β} {t : TA} {m : PM (α × β × Unit)} (h : Ea c Γ t m (aCons r (aCons u aNil))) : Ev c Γ (tTup t) (m >>= fun x => pure (x.1, x.2.1)) (rPair c.K r u) := fun S σ F H p Q g q =>
  h S σ F H p _ g (q.seq fun a p1 v F1 H1 e1 pl1 r1 h1 => by
    obtain ⟨y, ws, rfl, ry, z, ws', rfl, rz, rfl⟩ := r1
    have gs := (g.ext e1 pl1).sub
    refine ⟨(by decide : (2 : Nat) ≤ sizeLine), fun x hx => h1.tup gs pl1 hx ⟨x, y, z, rfl, SqT.of upd_same, r.mono (same_upd (Same.none gs hx)) ry, u.mono (same_upd (Same.none gs hx)) rz⟩⟩)
theorem ev_trip {γ : Type} {r : Rl α} {u : Rl β} {w : Rl γ} {t : TA} {m : PM (α × β × γ × Unit)} (h : Ea c Γ t m (aCons r (aCons u (aCons w aNil)))) : Ev c Γ (tTup t) (m >>= fun x => pure (x.1, x.2.1, x.2.2.1)) (rTrip c.K r u w) := fun S σ F H p Q g q =>
  h S σ F H p _ g (q.seq fun a p1 v F1 H1 e1 pl1 r1 h1 => by
    obtain ⟨y, ws, rfl, ry, z, ws', rfl, rz, z2, ws2, rfl, rz2, rfl⟩ := r1
    have gs := (g.ext e1 pl1).sub
    refine ⟨(by decide : (3 : Nat) ≤ sizeLine), fun x hx => h1.tup gs pl1 hx ⟨x, y, z, z2, rfl, SqT.of upd_same, r.mono (same_upd (Same.none gs hx)) ry, u.mono (same_upd (Same.none gs hx)) rz, w.mono (same_upd (Same.none gs hx)) rz2⟩⟩)
theorem ev_tupN {r : Rl α} {n : Nat} {t : TA} {m : PM (List α)} (h : Ea c Γ t m (aAll r n)) (hn : n ≤ sizeLine := by decide) : Ev c Γ (tTup t) m (rTup c.K r) := fun S σ F H p Q g q =>
  h S σ F H p _ g (by
    have q' : Post c σ F H (rTup c.K r) Q ((m >>= fun l => pure l) p) := by rw [bind_pure]; exact q
    exact q'.seq fun a p1 v F1 H1 e1 pl1 r1 h1 => ⟨by rw [r1.1]; exact hn, fun x hx => h1.tup (g.ext e1 pl1).sub pl1 hx ⟨x, v, rfl, SqT.of upd_same, by rw [r1.1]; exact hn, r1.2.imp fun _ _ => r.mono (same_upd (Same.none (g.ext e1 pl1).sub hx))⟩⟩)
/-! ### subscripts -/
/-- xs[i] -/
def getM (l : List α) (i : Int) : PM α := match atI l i with
  | some a => pure a
  | none => stuck
theorem All2.atI {R : V → α → Prop} {vs : List V} {l : List α} {i : Int} {a : α} (h : All2 R vs l) (e : L2.atI l i = some a) : ∃ v, L2.atI vs i = some v ∧ R v a := by
  unfold L2.atI at e ⊢
  rw [h.length]
  cases z : ixN l.length i with
  | none => rw [z] at e; cases e
  | some j =>
    rw [z] at e
    exact h.get (i := j) e
theorem ev_ixL {r : Rl α} {ma : PM (List α)} {mb : PM Int} (ha : Ev c Γ ta ma (rList r)) (hb : Ev c Γ tb mb rInt) : Ev c Γ (tOp (rIxL c.K) ta tb) (ma >>= fun l => mb >>= fun i => getM l i) r :=
  ev_op ha hb fun l i S σ F H p x y Q gd hx hy q => by
    obtain ⟨a, vs, rfl, h1, h2, h3⟩ := rList.of hx
    unfold getM at q
    cases e : L2.atI l i with
    | none => rw [e] at q; exact q.elim
    | some b =>
      rw [e] at q
      obtain ⟨v, h4, h5⟩ := h3.atI e
      exact ⟨a, vs, i, v, rfl, hy, SqL.of (gd.sub _ _ h1), h4, q.now gd.sub gd.pl h5⟩
theorem ev_ixT {r : Rl α} {ma : PM (List α)} {mb : PM Int} (ha : Ev c Γ ta ma (rTup c.K r)) (hb : Ev c Γ tb mb rInt) : Ev c Γ (tOp (rIxT c.K) ta tb) (ma >>= fun l => mb >>= fun i => getM l i) r :=
  ev_op ha hb fun l i S σ F H p x y Q gd hx hy q => by
    obtain ⟨a, vs, rfl, h1, h2, h3⟩ := hx
    unfold getM at q
    cases e : L2.atI l i with
    | none => rw [e] at q; exact q.elim
    | some b =>
      rw [e] at q
      obtain ⟨v, h4, h5⟩ := h3.atI e
      exact ⟨a, vs, i, v, rfl, hy, SqT.same gd.sub h1, h4, q.now gd.sub gd.pl h5⟩
def getS (x : Str) (i : Int) : PM Str := match atI x.cps.toList i with
  | some ch => pure ⟨#[ch]⟩
  | none => stuck
theorem one_le : ((1 : Nat) ≤ sizeLine) := by decide
theorem ev_ixS {ma : PM Str} {mb : PM Int} (ha : Ev c Γ ta ma rStr) (hb : Ev c Γ tb mb rInt) : Ev c Γ (tOp rIxS ta tb) (ma >>= fun l => mb >>= fun i => getS l i) rStr :=
  ev_op ha hb fun l i S σ F H p x y Q gd hx hy q => by
    obtain ⟨rfl, hl⟩ := hx
    unfold getS at q
    cases e : L2.atI l.cps.toList i with
    | none => rw [e] at q; exact q.elim
    | some b =>
      rw [e] at q
      exact ⟨l, i, b, rfl, hy, hl, e, q.now gd.sub gd.pl ⟨rfl, one_le⟩⟩
/-- an item of a pair by its written place -/
theorem ev_fst {r : Rl α} {u : Rl β} {ma : PM (α × β)} (ha : Ev c Γ ta ma (rPair c.K r u)) : Ev c Γ (tOp (rIxT c.K) ta (tC (.int 0))) (ma >>= fun x => pure x.1) r := fun S σ F H p Q g q =>
  ha S σ F H p _ g (q.seq fun a p1 v F1 H1 e1 pl1 r1 h1 => by
    obtain ⟨x, y, z, rfl, k1, k2, k3⟩ := r1
    exact ⟨x, _, 0, y, rfl, rfl, SqT.same (g.ext e1 pl1).sub k1, rfl, h1.now (g.ext e1 pl1).sub pl1 k2⟩)
theorem ev_snd {r : Rl α} {u : Rl β} {ma : PM (α × β)} (ha : Ev c Γ ta ma (rPair c.K r u)) : Ev c Γ (tOp (rIxT c.K) ta (tC (.int 1))) (ma >>= fun x => pure x.2) u := fun S σ F H p Q g q =>
  ha S σ F H p _ g (q.seq fun a p1 v F1 H1 e1 pl1 r1 h1 => by
    obtain ⟨x, y, z, rfl, k1, k2, k3⟩ := r1
    exact ⟨x, _, 1, z, rfl, rfl, SqT.same (g.ext e1 pl1).sub k1, rfl, h1.now (g.ext e1 pl1).sub pl1 k3⟩)
theorem ev_t1 {γ : Type} {r : Rl α} {u : Rl β} {w : Rl γ} {ma : PM (α × β × γ)} (ha : Ev c Γ ta ma (rTrip c.K r u w)) : Ev c Γ (tOp (rIxT c.K) ta (tC (.int 0))) (ma >>= fun x => pure x.1) r := fun S σ F H p Q g q =>
  ha S σ F H p _ g (q.seq fun a p1 v F1 H1 e1 pl1 r1 h1 => by
    obtain ⟨x, y, z, z2, rfl, k1, k2, k3, k4⟩ := r1
    exact ⟨x, _, 0, y, rfl, rfl, SqT.same (g.ext e1 pl1).sub k1, rfl, h1.now (g.ext e1 pl1).sub pl1 k2⟩)
theorem ev_t2 {γ : Type} {r : Rl α} {u : Rl β} {w : Rl γ} {ma : PM (α × β × γ)} (ha : Ev c Γ ta ma (rTrip c.K r u w)) : Ev c Γ (tOp (rIxT c.K) ta (tC (.int 1))) (ma >>= fun x => pure x.2.1) u := fun S σ F H p Q g q =>
  ha S σ F H p _ g (q.seq fun a p1 v F1 H1 e1 pl1 r1 h1 => by
    obtain ⟨x, y, z, z2, rfl, k1, k2, k3, k4⟩ := r1
    exact ⟨x, _, 1, z, rfl, rfl, SqT.same (g.ext e1 pl1).sub k1, rfl, h1.now (g.ext e1 pl1).sub pl1 k3⟩)
theorem ev_t3 {γ : Type} {r : Rl α} {u : Rl β} {w : Rl γ} {ma : PM (α × β × γ)} (ha : Ev c Γ ta ma (rTrip c.K r u w)) : Ev c Γ (tOp (rIxT c.K) ta (tC (.int 2))) (ma >>= fun x => pure x.2.2) w := fun S σ F H p Q g q =>
  ha S σ F H p _ g (q.seq fun a p1 v F1 H1 e1 pl1 r1 h1 => by
    obtain ⟨x, y, z, z2, rfl, k1, k2, k3, k4⟩ := r1
    exact ⟨x, _, 2, z2, rfl, rfl, SqT.same (g.ext e1 pl1).sub k1, rfl, h1.now (g.ext e1 pl1).sub pl1 k4⟩)
/-! ### slices -/
def Eo (c : Cf) (Γ : List Sl) (t : TO) (m : PM (Option Int)) : Prop :=
  ∀ (S : Hp × Hp) (σ : St) (F H : Hp) (p : Pool) (Q : Option Int → Hp → Prop), Good S c.q c.s Γ σ F H p → Post c σ F H (⟨fun _ x o => x = o, fun _ h => h⟩ : Rg (Option Int) (Option Int)) Q (m p) → t σ H Q
theorem eo_none : Eo c Γ tNoPart (pure none) := fun S σ F H p Q g q => q.now g.sub g.pl rfl
theorem eo_some {mb : PM Int} (hb : Ev c Γ tb mb rInt) : Eo c Γ (tPart tb) (mb >>= fun i => pure (some i)) := fun S σ F H p Q g q =>
  hb S σ F H p _ g (q.seq fun a p1 v F1 H1 e1 pl1 r1 h1 => ⟨a, r1, h1.now (g.ext e1 pl1).sub pl1 rfl⟩)
theorem ev_slS {tl th : TO} {ma : PM Str} {ml mh : PM (Option Int)} (ha : Ev c Γ ta ma rStr) (hl : Eo c Γ tl ml) (hh : Eo c Γ th mh) : Ev c Γ (tSl rSlS ta tl th) (ma >>= fun x => ml >>= fun l => mh >>= fun h => pure (cutS x l h)) rStr := fun S σ F H p Q g q =>
  ha S σ F H p _ g (q.seq fun a p1 v F1 H1 e1 pl1 r1 h1 => hl S σ F1 H1 p1 _ (g.ext e1 pl1) (h1.seq fun l p2 lv F2 H2 e2 pl2 r2 h2 => hh S σ F2 H2 p2 _ ((g.ext e1 pl1).ext e2 pl2) (h2.seq fun h p3 hv F3 H3 e3 pl3 r3 h3 => by
    obtain ⟨rfl, k⟩ := r1
    subst r2 r3
    exact ⟨a, rfl, k, h3.now (((g.ext e1 pl1).ext e2 pl2).ext e3 pl3).sub pl3 ⟨rfl, Nat.le_trans (cutS_length a lv hv) k⟩⟩)))
def cutL (l : List α) (lo hi : Option Int) : List α := (l.drop (HT.sIx l.length 0 lo)).take (HT.sIx l.length l.length hi - HT.sIx l.length 0 lo)
theorem All2.cut {R : V → α → Prop} {vs : List V} {l : List α} (h : All2 R vs l) (lo hi : Option Int) : All2 R (cutV vs lo hi) (cutL l lo hi) := by
  unfold cutV cutL
  rw [h.length]
  exact (h.drop _).take _
theorem en_slL {r : Rl α} {tl th : TO} {ma : PM (List α)} {ml mh : PM (Option Int)} (ha : Ev c Γ ta ma (rList r)) (hl : Eo c Γ tl ml) (hh : Eo c Γ th mh) : En c Γ (tSl (rSlL c.K) ta tl th) (ma >>= fun x => ml >>= fun l => mh >>= fun h => pure (cutL x l h)) (oList r) := fun S σ F H p Q g q =>
  ha S σ F H p _ g (q.seq fun a p1 v F1 H1 e1 pl1 r1 h1 => hl S σ F1 H1 p1 _ (g.ext e1 pl1) (h1.seq fun l p2 lv F2 H2 e2 pl2 r2 h2 => hh S σ F2 H2 p2 _ ((g.ext e1 pl1).ext e2 pl2) (h2.seq fun h p3 hv F3 H3 e3 pl3 r3 h3 => by
    obtain ⟨x, vs, rfl, k1, k2, k3⟩ := rList.of ((rList r).mono (e2.sub.trans e3.sub) r1)
    subst r2 r3
    have gs := (((g.ext e1 pl1).ext e2 pl2).ext e3 pl3).sub
    exact ⟨x, vs, rfl, SqL.of (gs _ _ k1), fun y hy => h3.now gs pl3 hy ⟨_, rfl, Nat.le_trans (cutV_length vs lv hv) k2, k3.cut lv hv⟩⟩)))
/-! ### texts -/
def catS (x y : Str) : PM Str := guardM (x.length + y.length ≤ sizeLine) (x ++ y)
theorem length_app (x y : Str) : (x ++ y).length = x.length + y.length := by
  show (x.cps ++ y.cps).size = x.cps.size + y.cps.size
  simp
theorem ev_catS {ma mb : PM Str} (ha : Ev c Γ ta ma rStr) (hb : Ev c Γ tb mb rStr) : Ev c Γ (tOp (fun x y H Q => ∃ i j, x = .str i ∧ y = .str j ∧ i.length + j.length ≤ sizeLine ∧ Q (.str (i ++ j)) H) ta tb) (ma >>= fun a => mb >>= fun b => catS a b) rStr :=
  ev_op ha hb fun a b S σ F H p x y Q gd hx hy q => by
    unfold catS guardM at q
    by_cases h : a.length + b.length ≤ sizeLine
    · rw [if_pos h] at q
      exact ⟨a, b, hx.1, hy.1, h, q.now gd.sub gd.pl ⟨rfl, by rw [length_app]; exact h⟩⟩
    · rw [if_neg h] at q
      exact q.elim
def inSign (x z : Str) : PM Bool := match x.cps.toList with
  | [ch] => pure (decide (ch ∈ z.cps.toList))
  | _ => stuck
theorem sign_of {x : Str} {ch : Nat} (h : x.cps.toList = [ch]) : x = ⟨#[ch]⟩ := by
  obtain ⟨a⟩ := x
  congr 1
  exact Array.toList_inj.mp h
theorem inSign_ok {x z : Str} {γ : Type} {f : Bool → PM γ} {P : Except Er γ × Pool → Prop} {p : Pool} (h : P ((inSign x z >>= f) p)) (hs : ¬ P (.error .stuck, p)) : ∃ ch, x.cps.toList = [ch] ∧ P (f (decide (ch ∈ z.cps.toList)) p) := by
  unfold inSign at h
  generalize x.cps.toList = l at h ⊢
  match l, h with
  | [], h => exact absurd h hs
  | [ch], h => exact ⟨ch, rfl, h⟩
  | _ :: _ :: _, h => exact absurd h hs
theorem ev_inS {ma mb : PM Str} (ha : Ev c Γ ta ma rStr) (hb : Ev c Γ tb mb rStr) : Ev c Γ (tOp (fun x y H Q => ∃ (ch : Nat) (z : Str), x = .str ⟨#[ch]⟩ ∧ y = .str z ∧ Q (.bl (decide (ch ∈ z.cps.toList))) H) ta tb) (ma >>= fun a => mb >>= fun b => inSign a b) rBool :=
  ev_op ha hb fun a b S σ F H p x y Q gd hx hy q => by
    obtain ⟨ch, e, q⟩ := inSign_ok (f := pure) (P := Post c σ F H rBool Q) (by rw [bind_pure]; exact q) fun z => z
    exact ⟨ch, b, by rw [hx.1, sign_of e], hy.1, q.now gd.sub gd.pl rfl⟩
theorem ev_ninS {ma mb : PM Str} (ha : Ev c Γ ta ma rStr) (hb : Ev c Γ tb mb rStr) : Ev c Γ (tOp (fun x y H Q => ∃ (ch : Nat) (z : Str), x = .str ⟨#[ch]⟩ ∧ y = .str z ∧ Q (.bl (!decide (ch ∈ z.cps.toList))) H) ta tb) (ma >>= fun a => mb >>= fun b => inSign a b >>= fun k => pure (!k)) rBool :=
  ev_op ha hb fun a b S σ F H p x y Q gd hx hy q => by
    obtain ⟨ch, e, q⟩ := inSign_ok (P := Post c σ F H rBool Q) q fun z => z
    exact ⟨ch, b, by rw [hx.1, sign_of e], hy.1, q.now gd.sub gd.pl rfl⟩
/-! ### lists -/
def catL (a b : List α) : PM (List α) := guardM (a.length + b.length ≤ sizeLine) (a ++ b)
theorem en_cat {r : Rl α} {ma mb : PM (List α)} (ha : Ev c Γ ta ma (rList r)) (hb : Ev c Γ tb mb (rList r)) : En c Γ (tOp rCat ta tb) (ma >>= fun a => mb >>= fun b => catL a b) (oList r) := fun S σ F H p Q g q =>
  ha S σ F H p _ g (q.seq fun a p1 v F1 H1 e1 pl1 r1 h1 => hb S σ F1 H1 p1 _ (g.ext e1 pl1) (h1.seq fun b p2 w F2 H2 e2 pl2 r2 h2 => by
    obtain ⟨x, vs, rfl, k1, k2, k3⟩ := rList.of ((rList r).mono e2.sub r1)
    obtain ⟨y, ws, rfl, j1, j2, j3⟩ := rList.of r2
    have gs := ((g.ext e1 pl1).ext e2 pl2).sub
    unfold catL guardM at h2
    by_cases h : a.length + b.length ≤ sizeLine
    · rw [if_pos h] at h2
      have h' : vs.length + ws.length ≤ sizeLine := by rw [k3.length, j3.length]; exact h
      exact ⟨x, y, vs, ws, rfl, rfl, gs _ _ k1, gs _ _ j1, h', fun z hz => h2.now gs pl2 hz ⟨_, rfl, by rw [List.length_append]; exact h', k3.append j3⟩⟩
    · rw [if_neg h] at h2
      exact h2.elim))
/-! ### built-in functions -/
theorem ev_cb {A : Type} {γ : Type} {rr : List V → Hp → VK → Prop} {t : TA} {ra : Ra A} {rc : Rl γ} {m : PM A} {f : A → PM γ} (h : Ea c Γ t m ra)
    (k : ∀ a S σ F H p vs Q, Good S c.q c.s Γ σ F H p → ra.rel F vs a → Post c σ F H rc Q (f a p) → rr vs H Q) : Ev c Γ (tCB rr t) (m >>= f) rc := fun S σ F H p Q g q =>
  h S σ F H p _ g (q.seq fun a p1 v F1 H1 e1 pl1 r1 h1 => k a S σ F1 H1 p1 v Q (g.ext e1 pl1) r1 h1)
theorem ev_lenS {ma : PM Str} (ha : Ev c Γ ta ma rStr) : Ev c Γ (tCB (fun xs H Q => ∃ z : Str, xs = [.str z] ∧ z.length ≤ sizeLine ∧ Q (.int z.length) H) (tCons ta tNil)) (ma >>= fun x => pure (x.length : Int)) rInt := fun S σ F H p Q g q =>
  ha S σ F H p _ g (q.seq fun a p1 v F1 H1 e1 pl1 r1 h1 => ⟨a, by rw [r1.1], r1.2, h1.now (g.ext e1 pl1).sub pl1 rfl⟩)
abbrev rLenQ (K : PySem.W.Frag) : List V → Hp → VK → Prop := fun xs H Q => ∃ p ys, xs = [.ref p] ∧ (SqL K H p ys ∨ SqT K H p ys) ∧ Q (.int ys.length) H
theorem ev_lenL {r : Rl α} {ma : PM (List α)} (ha : Ev c Γ ta ma (rList r)) : Ev c Γ (tCB (rLenQ c.K) (tCons ta tNil)) (ma >>= fun x => pure (x.length : Int)) rInt := fun S σ F H p Q g q =>
  ha S σ F H p _ g (q.seq fun a p1 v F1 H1 e1 pl1 r1 h1 => by
    obtain ⟨x, vs, rfl, k1, k2, k3⟩ := rList.of r1
    refine ⟨x, vs, rfl, .inl (SqL.of ((g.ext e1 pl1).sub _ _ k1)), ?_⟩
    rw [k3.length]
    exact h1.now (g.ext e1 pl1).sub pl1 rfl)
theorem ev_lenT {r : Rl α} {ma : PM (List α)} (ha : Ev c Γ ta ma (rTup c.K r)) : Ev c Γ (tCB (rLenQ c.K) (tCons ta tNil)) (ma >>= fun x => pure (x.length : Int)) rInt := fun S σ F H p Q g q =>
  ha S σ F H p _ g (q.seq fun a p1 v F1 H1 e1 pl1 r1 h1 => by
    obtain ⟨x, vs, rfl, k1, k2, k3⟩ := r1
    refine ⟨x, vs, rfl, .inr (SqT.same (g.ext e1 pl1).sub k1), ?_⟩
    rw [k3.length]
    exact h1.now (g.ext e1 pl1).sub pl1 rfl)
/-- len of an own list -/
theorem ev_lenO (i : Nat) {r : Rl α} {l : List α} (h : nth Γ i = .own (oList r) l) : Ev c Γ (tCB (rLenQ c.K) (tCons (tVar i) tNil)) (pure (l.length : Int)) rInt := fun S σ F H p Q g q => by
  obtain ⟨x, ho, h1, h2, ⟨vs, rfl, k2, k3⟩, _⟩ := g.sl.own h
  refine ⟨_, h1, x, vs, rfl, .inl (SqL.of h2), ?_⟩
  rw [k3.length]
  exact q.now g.sub g.pl rfl
theorem ev_int1 {ma : PM Int} (ha : Ev c Γ ta ma rInt) : Ev c Γ (tCB (fun xs H Q => (∃ i, xs = [.int i] ∧ Q (.int i) H) ∨ ∃ k, xs = [.bl k] ∧ Q (.int (if k then 1 else 0)) H) (tCons ta tNil)) ma rInt := fun S σ F H p Q g q =>
  ha S σ F H p _ g (by
    have q' : Post c σ F H rInt Q ((ma >>= fun l => pure l) p) := by rw [bind_pure]; exact q
    exact q'.seq fun a p1 v F1 H1 e1 pl1 r1 h1 => .inl ⟨a, by rw [show v = .int a from r1], h1.now (g.ext e1 pl1).sub pl1 rfl⟩)
theorem ev_abs {ma : PM Int} (ha : Ev c Γ ta ma rInt) : Ev c Γ (tCB (fun xs H Q => ∃ i, xs = [.int i] ∧ Q (.int (if i < 0 then -i else i)) H) (tCons ta tNil)) (ma >>= fun i => pure (if i < 0 then -i else i)) rInt := fun S σ F H p Q g q =>
  ha S σ F H p _ g (q.seq fun a p1 v F1 H1 e1 pl1 r1 h1 => ⟨a, by rw [show v = .int a from r1], h1.now (g.ext e1 pl1).sub pl1 rfl⟩)
def strM (i : Int) : PM Str := guardM (i.natAbs.log2 < 1920 ∧ (Str.ofString (toString i)).length ≤ sizeLine) (toString i : Str)
theorem ev_strI {ma : PM Int} (ha : Ev c Γ ta ma rInt) : Ev c Γ (tCB (fun xs H Q => ∃ i : Int, xs = [.int i] ∧ i.natAbs.log2 < 1920 ∧ Q (.str (toString i)) H) (tCons ta tNil)) (ma >>= fun i => strM i) rStr := fun S σ F H p Q g q =>
  ha S σ F H p _ g (q.seq fun a p1 v F1 H1 e1 pl1 r1 h1 => by
    unfold strM guardM at h1
    by_cases h : a.natAbs.log2 < 1920 ∧ (Str.ofString (toString a)).length ≤ sizeLine
    · rw [if_pos h] at h1
      exact ⟨a, by rw [show v = .int a from r1], h.1, h1.now (g.ext e1 pl1).sub pl1 ⟨rfl, h.2⟩⟩
    · rw [if_neg h] at h1
      exact h1.elim)
/-- all(xs), any(xs) -/
theorem All2.bools {F : Hp} : ∀ {vs : List V} {l : List Bool}, All2 (rBool.rel F) vs l → vs = l.map V.bl
  | _, _, .nil => rfl
  | _, _, .cons r t => by rw [show _ = V.bl _ from r, t.bools]; rfl
theorem ev_all {ma : PM (List Bool)} (ha : Ev c Γ ta ma (rList rBool)) : Ev c Γ (tCB (rAll c.K) (tCons ta tNil)) (ma >>= fun l => pure (l.all id)) rBool := fun S σ F H p Q g q =>
  ha S σ F H p _ g (q.seq fun a p1 v F1 H1 e1 pl1 r1 h1 => by
    obtain ⟨x, vs, rfl, k1, k2, k3⟩ := rList.of r1
    rw [k3.bools] at k1
    exact ⟨x, a, rfl, SqL.of ((g.ext e1 pl1).sub _ _ k1), h1.now (g.ext e1 pl1).sub pl1 rfl⟩)
theorem ev_any {ma : PM (List Bool)} (ha : Ev c Γ ta ma (rList rBool)) : Ev c Γ (tCB (rAny c.K) (tCons ta tNil)) (ma >>= fun l => pure (l.any id)) rBool := fun S σ F H p Q g q =>
  ha S σ F H p _ g (q.seq fun a p1 v F1 H1 e1 pl1 r1 h1 => by
    obtain ⟨x, vs, rfl, k1, k2, k3⟩ := rList.of r1
    rw [k3.bools] at k1
    exact ⟨x, a, rfl, SqL.of ((g.ext e1 pl1).sub _ _ k1), h1.now (g.ext e1 pl1).sub pl1 rfl⟩)
/-- list(xs), tuple(xs) -/
abbrev rListOf (K : PySem.W.Frag) : List V → Hp → VK → Prop := fun xs H Q => ∃ p ys, xs = [.ref p] ∧ (SqL K H p ys ∨ SqT K H p ys) ∧ ∀ l, H l = none → Q (.ref l) (upd H l (.lst ys))
theorem en_listL {r : Rl α} {ma : PM (List α)} (ha : Ev c Γ ta ma (rList r)) : En c Γ (tCB (rListOf c.K) (tCons ta tNil)) ma (oList r) := fun S σ F H p Q g q =>
  ha S σ F H p _ g (by
    have q' : PostN c σ F H (oList r) Q ((ma >>= fun l => pure l) p) := by rw [bind_pure]; exact q
    exact q'.seq fun a p1 v F1 H1 e1 pl1 r1 h1 => by
      obtain ⟨x, vs, rfl, k1, k2, k3⟩ := rList.of r1
      have gs := (g.ext e1 pl1).sub
      exact ⟨x, vs, rfl, .inl (SqL.of (gs _ _ k1)), fun z hz => h1.now gs pl1 hz ⟨_, rfl, k2, k3⟩⟩)
theorem en_listT {r : Rl α} {ma : PM (List α)} (ha : Ev c Γ ta ma (rTup c.K r)) : En c Γ (tCB (rListOf c.K) (tCons ta tNil)) ma (oList r) := fun S σ F H p Q g q =>
  ha S σ F H p _ g (by
    have q' : PostN c σ F H (oList r) Q ((ma >>= fun l => pure l) p) := by rw [bind_pure]; exact q
    exact q'.seq fun a p1 v F1 H1 e1 pl1 r1 h1 => by
      obtain ⟨x, vs, rfl, k1, k2, k3⟩ := r1
      have gs := (g.ext e1 pl1).sub
      exact ⟨x, vs, rfl, .inr (SqT.same gs k1), fun z hz => h1.now gs pl1 hz ⟨_, rfl, k2, k3⟩⟩)
abbrev rTupOf (K : PySem.W.Frag) : List V → Hp → VK → Prop := fun xs H Q => ∃ p ys, xs = [.ref p] ∧ ((SqL K H p ys ∧ ∀ l, H l = none → Q (.ref l) (upd H l (.tup ys))) ∨ (SqT K H p ys ∧ Q (.ref p) H))
theorem ev_tupL {r : Rl α} {ma : PM (List α)} (ha : Ev c Γ ta ma (rList r)) : Ev c Γ (tCB (rTupOf c.K) (tCons ta tNil)) ma (rTup c.K r) := fun S σ F H p Q g q =>
  ha S σ F H p _ g (by
    have q' : Post c σ F H (rTup c.K r) Q ((ma >>= fun l => pure l) p) := by rw [bind_pure]; exact q
    exact q'.seq fun a p1 v F1 H1 e1 pl1 r1 h1 => by
      obtain ⟨x, vs, rfl, k1, k2, k3⟩ := rList.of r1
      have gs := (g.ext e1 pl1).sub
      exact ⟨x, vs, rfl, .inl ⟨SqL.of (gs _ _ k1), fun z hz => h1.tup gs pl1 hz ⟨z, vs, rfl, SqT.of upd_same, k2, k3.imp fun _ _ => r.mono (same_upd (Same.none gs hz))⟩⟩⟩)
theorem ev_tupT {r : Rl α} {ma : PM (List α)} (ha : Ev c Γ ta ma (rTup c.K r)) : Ev c Γ (tCB (rTupOf c.K) (tCons ta tNil)) ma (rTup c.K r) := fun S σ F H p Q g q =>
  ha S σ F H p _ g (by
    have q' : Post c σ F H (rTup c.K r) Q ((ma >>= fun l => pure l) p) := by rw [bind_pure]; exact q
    exact q'.seq fun a p1 v F1 H1 e1 pl1 r1 h1 => by
      obtain ⟨x, vs, rfl, k1, k2, k3⟩ := id r1
      have gs := (g.ext e1 pl1).sub
      exact ⟨x, vs, rfl, .inr ⟨SqT.same gs k1, h1.now gs pl1 r1⟩⟩)
end
end Kf

set_option maxHeartbeats 4000000
namespace Kf
open PySem PySem.Spec L2
open PyProof.Rows hiding St
/-! ### states changed -/
theorem own_put_val : ∀ {Γ : List Sl} {σ : St} {i : Nat} {s : Sl} {o : Option V}, (∀ α (r : Ro α) a, s ≠ .own r a) → (ownA (put Γ i s) (σ.set i o)).Sublist (ownA Γ σ)
  | [], σ, i, s, o, _ => by cases i <;> cases σ <;> exact List.Sublist.refl _
  | x :: Γ, [], i, s, o, _ => by cases i <;> cases s <;> cases x <;> exact List.Sublist.refl _
  | x :: Γ, y :: σ, 0, s, o, h => by
    have e : ownA (put (x :: Γ) 0 s) ((y :: σ).set 0 o) = ownA Γ σ := by
      cases s with
      | any => rfl
      | val _ _ => rfl
      | own r a => exact absurd rfl (h _ r a)
    rw [e]
    cases x with
    | any => exact List.Sublist.refl _
    | val _ _ => exact List.Sublist.refl _
    | own r a =>
      cases y with
      | none => exact List.Sublist.refl _
      | some v => cases v with
        | ref p => exact List.sublist_cons_self _ _
        | _ => exact List.Sublist.refl _
  | x :: Γ, y :: σ, i + 1, s, o, h => by
    have ih := own_put_val (Γ := Γ) (σ := σ) (i := i) (s := s) (o := o) h
    cases x with
    | any => exact ih
    | val _ _ => exact ih
    | own r a =>
      cases y with
      | none => exact ih
      | some v => cases v with
        | ref p => exact ih.cons_cons _
        | _ => exact ih
theorem own_put_new : ∀ {Γ : List Sl} {σ : St} {i : Nat} {α : Type} {r : Ro α} {a : α} {p : Addr}, p ∉ ownA Γ σ → (ownA Γ σ).Nodup →
    (ownA (put Γ i (.own r a)) (σ.set i (some (.ref p)))).Nodup ∧ ∀ x ∈ ownA (put Γ i (.own r a)) (σ.set i (some (.ref p))), x = p ∨ x ∈ ownA Γ σ
  | [], σ, i, α, r, a, p, _, h => by cases i <;> cases σ <;> exact ⟨h, fun x hx => nomatch hx⟩
  | s :: Γ, [], i, α, r, a, p, _, h => by cases i <;> cases s <;> exact ⟨h, fun x hx => nomatch hx⟩
  | s :: Γ, o :: σ, 0, α, r, a, p, hp, h => by
    have sub : (ownA Γ σ).Sublist (ownA (s :: Γ) (o :: σ)) := by
      cases s with
      | any => exact List.Sublist.refl _
      | val _ _ => exact List.Sublist.refl _
      | own _ _ =>
        cases o with
        | none => exact List.Sublist.refl _
        | some v => cases v with
          | ref q => exact List.sublist_cons_self _ _
          | _ => exact List.Sublist.refl _
    exact ⟨List.nodup_cons.mpr ⟨fun z => hp (sub.subset z), h.sublist sub⟩, fun x hx => (List.mem_cons.mp hx).imp id fun z => sub.subset z⟩
  | s :: Γ, o :: σ, i + 1, α, r, a, p, hp, h => by
    cases s with
    | any => exact own_put_new (Γ := Γ) (σ := σ) (i := i) hp h
    | val _ _ => exact own_put_new (Γ := Γ) (σ := σ) (i := i) hp h
    | own r' a' =>
      cases o with
      | none => exact own_put_new (Γ := Γ) (σ := σ) (i := i) hp h
      | some v => cases v with
        | ref q =>
          have hp' : p ∉ q :: ownA Γ σ := hp
          have h' : (q :: ownA Γ σ).Nodup := h
          obtain ⟨n1, n2⟩ := List.nodup_cons.mp h'
          obtain ⟨k1, k2⟩ := own_put_new (Γ := Γ) (σ := σ) (i := i) (r := r) (a := a) (fun z => hp' (List.mem_cons_of_mem _ z)) n2
          refine ⟨List.nodup_cons.mpr ⟨fun z => ?_, k1⟩, fun x hx => ?_⟩
          · rcases k2 q z with e | e
            · exact hp' (by rw [e]; exact List.mem_cons_self)
            · exact n1 e
          · rcases List.mem_cons.mp hx with e | e
            · exact .inr (by rw [e]; exact List.mem_cons_self)
            · rcases k2 x e with e | e
              · exact .inl e
              · exact .inr (List.mem_cons_of_mem _ e)
        | _ => exact own_put_new (Γ := Γ) (σ := σ) (i := i) hp h
theorem SlsOk.putS {F H : Hp} {s : Sl} {o : Option V} (h : SlOk F H s o) : ∀ {Γ : List Sl} {σ : St} (i : Nat), SlsOk F H Γ σ → SlsOk F H (put Γ i s) (σ.set i o)
  | _, _, i, .nil => by cases i <;> exact .nil
  | _, _, 0, .cons _ t => .cons h t
  | _, _, i + 1, .cons q t => .cons q (SlsOk.putS h i t)
section
variable {S : Hp × Hp} {q : Option Addr} {sc : Addr} {Γ : List Sl} {σ : St} {F H : Hp} {p : Pool} {α β : Type}
theorem Good.setv (g : Good S q sc Γ σ F H p) (i : Nat) {r : Rl α} {a : α} {v : V} (h : r.rel F v a) : Good S q sc (put Γ i (.val r a)) (σ.set i (some v)) F H p := by
  have sub := own_put_val (Γ := Γ) (σ := σ) (i := i) (s := .val r a) (o := some v) (fun _ _ _ z => by cases z)
  exact ⟨g.sub, SlsOk.putS (s := .val r a) (o := some v) ⟨v, rfl, h⟩ i g.sl, g.nd.sublist sub, fun a ha => g.of a (sub.subset ha), fun a ha => g.oq a (sub.subset ha), fun a ha => g.os a (sub.subset ha), g.ent, g.pl⟩
/-- a slot forgotten -/
theorem Good.seta (g : Good S q sc Γ σ F H p) (i : Nat) {o : Option V} : Good S q sc (put Γ i .any) (σ.set i o) F H p := by
  have sub := own_put_val (Γ := Γ) (σ := σ) (i := i) (s := .any) (o := o) (fun _ _ _ z => by cases z)
  exact ⟨g.sub, SlsOk.putS (s := .any) (o := o) trivial i g.sl, g.nd.sublist sub, fun a ha => g.of a (sub.subset ha), fun a ha => g.oq a (sub.subset ha), fun a ha => g.os a (sub.subset ha), g.ent, g.pl⟩
/-- a slot gets a new object -/
theorem Good.seto (g : Good S q sc Γ σ F H p) (i : Nat) {r : Ro α} {a : α} {x : Addr} {ho : HO} (hH : H x = some ho) (hF : F x = none) (hS : S.2 x = none) (hq : q ≠ some x) (hx : x ∉ ownA Γ σ) (h : r.rel F ho a) : Good S q sc (put Γ i (.own r a)) (σ.set i (some (.ref x))) F H p := by
  obtain ⟨n1, n2⟩ := own_put_new (Γ := Γ) (σ := σ) (i := i) (r := r) (a := a) (p := x) hx g.nd
  refine ⟨g.sub, SlsOk.putS (s := .own r a) (o := some (.ref x)) ⟨x, ho, rfl, hH, h⟩ i g.sl, n1, fun b hb => ?_, fun b hb => ?_, fun b hb => ?_, g.ent, g.pl⟩
  · rcases n2 b hb with e | e
    · rw [e]; exact hF
    · exact g.of b e
  · rcases n2 b hb with e | e
    · rw [e]; exact hq
    · exact g.oq b e
  · rcases n2 b hb with e | e
    · rw [e]; exact hS
    · exact g.os b e
theorem sls_upd {x : Addr} {ho' : HO} {r : Ro α} {a : α} {r' : Ro β} {a' : β} (hr : r'.rel F ho' a') : ∀ {Γ : List Sl} {σ : St} {i : Nat}, SlsOk F H Γ σ → (ownA Γ σ).Nodup → nth Γ i = .own r a → σ[i]? = some (some (.ref x)) →
    SlsOk F (upd H x ho') (put Γ i (.own r' a')) σ ∧ ownA (put Γ i (.own r' a')) σ = ownA Γ σ
  | _, _, i, .nil, _, h, _ => by cases i <;> cases h
  | s :: Γ, o :: σ, 0, .cons h t, nd, e, e2 => by
    have e3 : s = .own r a := e
    have e4 : o = some (.ref x) := by simpa using e2
    subst e3 e4
    have nd' : (x :: ownA Γ σ).Nodup := nd
    refine ⟨.cons ⟨x, ho', rfl, upd_same, hr⟩ (t.ext (Same.refl _) fun b hb o ho => ?_), rfl⟩
    rw [upd_ne (fun z => (List.nodup_cons.mp nd').1 (by rw [← z]; exact hb))]
    exact ho
  | s :: Γ, o :: σ, i + 1, .cons h t, nd, e, e2 => by
    have hm := own_mem (Γ := Γ) (σ := σ) (i := i) (r := r) (a := a) (p := x) e (by simpa using e2)
    have ih := fun n => sls_upd (Γ := Γ) (σ := σ) (i := i) hr t n e (by simpa using e2)
    cases s with
    | any => exact ⟨.cons trivial (ih nd).1, (ih nd).2⟩
    | val _ _ => exact ⟨.cons h (ih nd).1, (ih nd).2⟩
    | own r2 a2 =>
      obtain ⟨y, hy, rfl, k1, k2⟩ := h
      have nd' : (y :: ownA Γ σ).Nodup := nd
      obtain ⟨n1, n2⟩ := List.nodup_cons.mp nd'
      refine ⟨.cons ⟨y, hy, rfl, ?_, k2⟩ (ih n2).1, congrArg (y :: ·) (ih n2).2⟩
      rw [upd_ne (fun z => n1 (by rw [z]; exact hm))]
      exact k1
/-- an own object is changed -/
theorem Good.updo (g : Good S q sc Γ σ F H p) {i : Nat} {r : Ro α} {a : α} {r' : Ro β} {a' : β} {x : Addr} {ho' : HO} (e : nth Γ i = .own r a) (e2 : σ[i]? = some (some (.ref x))) (hr : r'.rel F ho' a') : Good S q sc (put Γ i (.own r' a')) σ F (L2.upd H x ho') p := by
  have hm := own_mem e e2
  obtain ⟨k1, k2⟩ := sls_upd (ho' := ho') hr g.sl g.nd e e2
  have nF := g.of x hm
  have nS := g.os x hm
  have nq := g.oq x hm
  have sF : Same F (L2.upd H x ho') := fun b o h => by
    rw [upd_ne (fun z => by rw [z, nF] at h; cases h)]
    exact g.sub b o h
  refine ⟨sF, k1, by rw [k2]; exact g.nd, by rw [k2]; exact g.of, by rw [k2]; exact g.oq, by rw [k2]; exact g.os, ⟨g.ent.sub, sF, fun b o h n => ?_, g.ent.new⟩, ?_⟩
  · rw [upd_ne (fun z => by rw [z, nS] at h; cases h)]
    exact g.ent.keep b o h n
  · have pl := g.pl
    cases q with
    | none => trivial
    | some y =>
      obtain ⟨h1, h2, h3⟩ := pl
      exact ⟨h1, by rw [upd_ne (fun z => nq (by rw [z]))]; exact h2, h3⟩
theorem own_put_fz : ∀ {Γ : List Sl} {σ : St} {i : Nat} {r : Ro α} {a : α} {x : Addr}, (ownA Γ σ).Nodup → nth Γ i = .own r a → σ[i]? = some (some (.ref x)) → (ownA (put Γ i (.val (fz r) a)) σ).Sublist (ownA Γ σ) ∧ x ∉ ownA (put Γ i (.val (fz r) a)) σ
  | [], _, i, _, _, _, _, h, _ => by cases i <;> cases h
  | _ :: _, [], i, _, _, _, _, _, h => by simp at h
  | s :: Γ, o :: σ, 0, r, a, x, nd, e, e2 => by
    have e3 : s = .own r a := e
    have e4 : o = some (.ref x) := by simpa using e2
    subst e3 e4
    exact ⟨List.sublist_cons_self _ _, (List.nodup_cons.mp (show (x :: ownA Γ σ).Nodup from nd)).1⟩
  | s :: Γ, o :: σ, i + 1, r, a, x, nd, e, e2 => by
    have hm := own_mem (Γ := Γ) (σ := σ) (i := i) (r := r) (a := a) (p := x) e (by simpa using e2)
    have ih := fun n => own_put_fz (Γ := Γ) (σ := σ) (i := i) (r := r) (a := a) (x := x) n e (by simpa using e2)
    cases s with
    | any => exact ih nd
    | val _ _ => exact ih nd
    | own r2 a2 =>
      cases o with
      | none => exact ih nd
      | some v => cases v with
        | ref y =>
          have nd' : (y :: ownA Γ σ).Nodup := nd
          obtain ⟨n1, n2⟩ := List.nodup_cons.mp nd'
          obtain ⟨k1, k2⟩ := ih n2
          exact ⟨k1.cons_cons _, fun z => (List.mem_cons.mp z).elim (fun e => n1 (by rw [← e]; exact hm)) k2⟩
        | _ => exact ih nd
theorem SlsOk.fz {x : Addr} {ho : HO} (hF : F x = none) {r : Ro α} {a : α} (hr : r.rel F ho a) : ∀ {Γ : List Sl} {σ : St} {i : Nat}, SlsOk F H Γ σ → σ[i]? = some (some (.ref x)) → SlsOk (upd F x ho) H (Kf.put Γ i (.val (fz r) a)) σ
  | _, _, i, .nil, h => by simp at h
  | s :: Γ, o :: σ, 0, .cons h t, e2 => by
    have e4 : o = some (.ref x) := by simpa using e2
    subst e4
    exact .cons ⟨_, rfl, x, ho, rfl, upd_same, r.mono (same_upd hF) hr⟩ (t.ext (same_upd hF) fun _ _ _ h => h)
  | s :: Γ, o :: σ, i + 1, .cons h t, e2 => by
    refine .cons ?_ (SlsOk.fz hF hr t (by simpa using e2))
    cases s with
    | any => trivial
    | val r' a' => obtain ⟨v, e, h⟩ := h; exact ⟨v, e, r'.mono (same_upd hF) h⟩
    | own r' a' => obtain ⟨y, hy, e, h1, h2⟩ := h; exact ⟨y, hy, e, h1, r'.mono (same_upd hF) h2⟩
/-- an own object stands still from here on -/
theorem Good.fz (g : Good S q sc Γ σ F H p) {i : Nat} {r : Ro α} {a : α} (e : nth Γ i = .own r a) : ∃ F', Same F F' ∧ Good S q sc (put Γ i (.val (fz r) a)) σ F' H p := by
  obtain ⟨x, ho, e2, h1, h2, hm⟩ := g.sl.own e
  have nF := g.of x hm
  obtain ⟨s1, s2⟩ := own_put_fz g.nd e e2
  refine ⟨upd F x ho, same_upd nF, ⟨fun b o z => ?_, g.sl.fz nF h2 e2, g.nd.sublist s1, fun b hb => ?_, fun b hb => g.oq b (s1.subset hb), fun b hb => g.os b (s1.subset hb), ⟨g.ent.sub.trans (same_upd nF), fun b o z => ?_, g.ent.keep, fun b o z => ?_⟩, ?_⟩⟩
  · by_cases hb : b = x
    · subst hb; rw [upd_same] at z; rw [← z]; exact h1
    · rw [upd_ne hb] at z; exact g.sub b o z
  · rw [upd_ne (fun z => s2 (by rw [← z]; exact hb))]; exact g.of b (s1.subset hb)
  · by_cases hb : b = x
    · subst hb; rw [upd_same] at z; rw [← z]; exact h1
    · rw [upd_ne hb] at z; exact g.sub b o z
  · by_cases hb : b = x
    · subst hb; exact .inr (g.os b hm)
    · rw [upd_ne hb] at z; exact g.ent.new b o z
  · have pl := g.pl
    have nq := g.oq x hm
    cases q with
    | none => trivial
    | some y =>
      obtain ⟨k1, k2, k3⟩ := pl
      exact ⟨by rw [upd_ne (fun z => nq (by rw [z]))]; exact k1, k2, same_upd nF _ _ k3.1, k3.2⟩
end
/-! ### weaker slots -/
inductive Wk : List Sl → List Sl → Prop where
  | nil : Wk [] []
  | same {s Γ Δ} : Wk Γ Δ → Wk (s :: Γ) (s :: Δ)
  | any {s Γ Δ} : Wk Γ Δ → Wk (s :: Γ) (.any :: Δ)
theorem Wk.own : ∀ {Γ Δ : List Sl} {σ : St}, Wk Γ Δ → (ownA Δ σ).Sublist (ownA Γ σ)
  | _, _, σ, .nil => by cases σ <;> exact List.Sublist.refl _
  | _, _, [], .same _ => by rename_i s _ _ _; cases s <;> exact List.Sublist.refl _
  | _, _, [], .any _ => by rename_i s _ _ _; cases s <;> exact List.Sublist.refl _
  | s :: _, _, o :: σ, .same t => by
    have ih := Wk.own (σ := σ) t
    cases s with
    | any => exact ih
    | val _ _ => exact ih
    | own _ _ =>
      cases o with
      | none => exact ih
      | some v => cases v with
        | ref y => exact ih.cons_cons _
        | _ => exact ih
  | s :: _, _, o :: σ, .any t => by
    have ih := Wk.own (σ := σ) t
    cases s with
    | any => exact ih
    | val _ _ => exact ih
    | own _ _ =>
      cases o with
      | none => exact ih
      | some v => cases v with
        | ref y => exact ih.trans (List.sublist_cons_self _ _)
        | _ => exact ih
theorem Wk.sls {F H : Hp} : ∀ {Γ Δ : List Sl} {σ : St}, Wk Γ Δ → SlsOk F H Γ σ → SlsOk F H Δ σ
  | _, _, _, .nil, h => h
  | _, _, _, .same t, .cons h k => .cons h (t.sls k)
  | _, _, _, .any t, .cons _ k => .cons trivial (t.sls k)
theorem Wk.good {S : Hp × Hp} {q : Option Addr} {sc : Addr} {Γ Δ : List Sl} {σ : St} {F H : Hp} {p : Pool} (w : Wk Γ Δ) (g : Good S q sc Γ σ F H p) : Good S q sc Δ σ F H p := by
  have s := w.own (σ := σ)
  exact ⟨g.sub, w.sls g.sl, g.nd.sublist s, fun b hb => g.of b (s.subset hb), fun b hb => g.oq b (s.subset hb), fun b hb => g.os b (s.subset hb), g.ent, g.pl⟩
theorem Wk.refl : ∀ Γ : List Sl, Wk Γ Γ
  | [] => .nil
  | _ :: Γ => .same (Wk.refl Γ)
/-! ### targets -/
def Eg {α : Type} (c : Cf) (Γ : List Sl) (g : TG) (r : Rl α) (Γ' : α → List Sl) (ws : List Nat) : Prop :=
  ∀ (a : α) (v : V) (S : Hp × Hp) (σ : St) (F H : Hp) (p : Pool) (Q : St → Hp → Prop), Good S c.q c.s Γ σ F H p → r.rel F v a →
    (∀ σ', Good S c.q c.s (Γ' a) σ' F H p → (∀ vs : List Nat, (∀ i ∈ ws, i ∈ vs) → wipe σ' vs = wipe σ vs) → Q σ' H) → g v σ H Q
theorem wipe_comm (σ : St) (i : Nat) (o : Option V) : ∀ vs : List Nat, i ∈ vs → wipe (σ.set i o) vs = wipe σ vs
  | [], h => nomatch h
  | v :: vs, h => by
    unfold wipe
    by_cases e : i ∈ vs
    · rw [wipe_comm σ i o vs e]
    · have e2 : i = v := (List.mem_cons.mp h).resolve_right e
      subst e2
      have : ∀ vs : List Nat, i ∉ vs → wipe (σ.set i o) vs = (wipe σ vs).set i o := fun vs => by
        induction vs with
        | nil => intro _; rfl
        | cons w ws ih =>
          intro hn
          unfold wipe
          rw [ih fun z => hn (List.mem_cons_of_mem _ z), List.set_comm]
          exact fun z => hn (by rw [z]; exact List.mem_cons_self)
      rw [this vs e, List.set_set]
section
variable {c : Cf} {Γ : List Sl} {α β γ : Type}
theorem eg_name (i : Nat) {r : Rl α} : Eg c Γ (gName i) r (fun a => put Γ i (.val r a)) [i] := fun a v S σ F H p Q g h k =>
  k _ (g.setv i h) fun vs hv => wipe_comm σ i _ vs (hv i (List.mem_singleton.mpr rfl))
theorem eg_pair {r : Rl α} {u : Rl β} {g1 g2 : TG} {Γ1 : α → List Sl} {Γ2 : α → β → List Sl} {w1 w2 : List Nat} (h1 : Eg c Γ g1 r Γ1 w1) (h2 : ∀ a, Eg c (Γ1 a) g2 u (Γ2 a) w2) :
    Eg c Γ (gTup c.K 2 (gCons g1 (gCons g2 gNil))) (rPair c.K r u) (fun x => Γ2 x.1 x.2) (w1 ++ w2) := fun a v S σ F H p Q g h k => by
  obtain ⟨x, y, z, rfl, k1, k2, k3⟩ := h
  refine ⟨x, [y, z], rfl, SqT.same g.sub k1, rfl, y, [z], rfl, h1 _ _ S σ F H p _ g k2 fun σ1 g1 e1 => ⟨z, [], rfl, h2 _ _ _ S σ1 F H p _ g1 k3 fun σ2 g2 e2 => ⟨rfl, k σ2 g2 fun vs hv => ?_⟩⟩⟩
  rw [e2 vs fun i hi => hv i (List.mem_append_right _ hi), e1 vs fun i hi => hv i (List.mem_append_left _ hi)]
theorem eg_trip {r : Rl α} {u : Rl β} {w : Rl γ} {g1 g2 g3 : TG} {Γ1 : α → List Sl} {Γ2 : α → β → List Sl} {Γ3 : α → β → γ → List Sl} {w1 w2 w3 : List Nat} (h1 : Eg c Γ g1 r Γ1 w1) (h2 : ∀ a, Eg c (Γ1 a) g2 u (Γ2 a) w2) (h3 : ∀ a b, Eg c (Γ2 a b) g3 w (Γ3 a b) w3) :
    Eg c Γ (gTup c.K 3 (gCons g1 (gCons g2 (gCons g3 gNil)))) (rTrip c.K r u w) (fun x => Γ3 x.1 x.2.1 x.2.2) (w1 ++ (w2 ++ w3)) := fun a v S σ F H p Q g h k => by
  obtain ⟨x, y, z, z2, rfl, k1, k2, k3, k4⟩ := h
  refine ⟨x, [y, z, z2], rfl, SqT.same g.sub k1, rfl, y, [z, z2], rfl, h1 _ _ S σ F H p _ g k2 fun σ1 g1 e1 => ⟨z, [z2], rfl, h2 _ _ _ S σ1 F H p _ g1 k3 fun σ2 g2 e2 => ⟨z2, [], rfl, h3 _ _ _ _ S σ2 F H p _ g2 k4 fun σ3 g3 e3 => ⟨rfl, k σ3 g3 fun vs hv => ?_⟩⟩⟩⟩
  rw [e3 vs fun i hi => hv i (List.mem_append_right _ (List.mem_append_right _ hi)), e2 vs fun i hi => hv i (List.mem_append_right _ (List.mem_append_left _ hi)), e1 vs fun i hi => hv i (List.mem_append_left _ hi)]
end
end Kf

set_option maxHeartbeats 4000000
namespace Kf
open PySem PySem.Spec L2
open PyProof.Rows hiding St
/-- how a statement ends: it goes on, or it leaves the def -/
inductive Fl (β ρ : Type) where
  | nx (b : β)
  | rt (a : ρ)
/-- what is wanted behind a statement that goes on -/
def PostS {β : Type} (c : Cf) (S : Hp × Hp) (Γ' : β → List Sl) (D : Ends) : Except Er β × Pool → Prop
  | (.ok b, p') => ∀ σ' F' H', Good S c.q c.s (Γ' b) σ' F' H' p' → D.nx σ' H'
  | (.error (.exc e), p') => ∀ cls d σ' F' H', Ext c.q S.1 S.2 F' H' → PoolOk c.q c.s F' H' p' → ExR c.K H' e cls d → c.W cls d σ' H'
  | (.error .stuck, _) => False
/-- .. that may leave the def -/
def PostF {β ρ : Type} (c : Cf) (S : Hp × Hp) (rr : Rl ρ) (Γ' : β → List Sl) (D : Ends) : Except Er (Fl β ρ) × Pool → Prop
  | (.ok (.nx b), p') => ∀ σ' F' H', Good S c.q c.s (Γ' b) σ' F' H' p' → D.nx σ' H'
  | (.ok (.rt a), p') => ∀ v F' H', Ext c.q S.1 S.2 F' H' → PoolOk c.q c.s F' H' p' → rr.rel F' v a → D.rt v H'
  | (.error (.exc e), p') => ∀ cls d σ' F' H', Ext c.q S.1 S.2 F' H' → PoolOk c.q c.s F' H' p' → ExR c.K H' e cls d → c.W cls d σ' H'
  | (.error .stuck, _) => False
/-- .. that leaves it -/
def PostL {ρ : Type} (c : Cf) (S : Hp × Hp) (rr : Rl ρ) (D : Ends) : Except Er ρ × Pool → Prop
  | (.ok a, p') => ∀ v F' H', Ext c.q S.1 S.2 F' H' → PoolOk c.q c.s F' H' p' → rr.rel F' v a → D.rt v H'
  | (.error (.exc e), p') => ∀ cls d σ' F' H', Ext c.q S.1 S.2 F' H' → PoolOk c.q c.s F' H' p' → ExR c.K H' e cls d → c.W cls d σ' H'
  | (.error .stuck, _) => False
def Es {β : Type} (c : Cf) (Γ : List Sl) (t : TS) (m : PM β) (Γ' : β → List Sl) : Prop :=
  ∀ (S : Hp × Hp) (σ : St) (F H : Hp) (p : Pool) (D : Ends), Good S c.q c.s Γ σ F H p → PostS c S Γ' D (m p) → t D σ H
def Ef {β ρ : Type} (c : Cf) (rr : Rl ρ) (Γ : List Sl) (t : TS) (m : PM (Fl β ρ)) (Γ' : β → List Sl) : Prop :=
  ∀ (S : Hp × Hp) (σ : St) (F H : Hp) (p : Pool) (D : Ends), Good S c.q c.s Γ σ F H p → PostF c S rr Γ' D (m p) → t D σ H
/-- fall: it may come to its end (None is handed back) -/
def El {ρ : Type} (c : Cf) (rr : Rl ρ) (fall : Prop) (Γ : List Sl) (t : TS) (m : PM ρ) : Prop :=
  ∀ (S : Hp × Hp) (σ : St) (F H : Hp) (p : Pool) (D : Ends), Good S c.q c.s Γ σ F H p → (fall → ∀ σ H, D.rt .non H → D.nx σ H) → PostL c S rr D (m p) → t D σ H
section
variable {c : Cf} {Γ : List Sl} {ta tb : TE} {α β γ ρ : Type} {rr : Rl ρ}
/-! ### from what is wanted of the whole to what is wanted of its first part -/
theorem PostS.seqE {X : Type} {S : Hp × Hp} {σ : St} {F H : Hp} {p : Pool} {D : Ends} {Γ' : β → List Sl} {r : Rg X α} {m : PM α} {f : α → PM β} {Q : X → Hp → Prop} (g : Good S c.q c.s Γ σ F H p) (h : PostS c S Γ' D ((m >>= f) p))
    (k : ∀ a p1 v F1 H1, Good S c.q c.s Γ σ F1 H1 p1 → Same F F1 → r.rel F1 v a → (∀ x, H x = none → H1 x ≠ none → True) → PostS c S Γ' D (f a p1) → Q v H1) : Post c σ F H r Q (m p) := by
  rw [run_bind] at h
  cases e : m p with
  | mk x p1 =>
    rw [e] at h
    cases x with
    | error er =>
      cases er with
      | stuck => exact h
      | exc ex => exact fun cls d F' H' e' pl k => h cls d σ F' H' (g.ent.tr e' g.pl) pl k
    | ok a => exact fun v F1 H1 e1 pl1 r1 => k a p1 v F1 H1 (g.ext e1 pl1) e1.sub r1 (fun _ _ _ => trivial) h
theorem PostS.seqT {S : Hp × Hp} {σ : St} {F H : Hp} {p : Pool} {D : Ends} {Γ' : β → List Sl} {m : PM Bool} {f : Bool → PM β} {Q : Bool → Hp → Prop} (g : Good S c.q c.s Γ σ F H p) (h : PostS c S Γ' D ((m >>= f) p))
    (k : ∀ a p1 F1 H1, Good S c.q c.s Γ σ F1 H1 p1 → PostS c S Γ' D (f a p1) → Q a H1) : Post c σ F H rBool (fun v H' => ∀ b, v = .bl b → Q b H') (m p) :=
  h.seqE g fun a p1 v F1 H1 g1 _ r1 _ h1 b eb => by
    have : a = b := by rw [show v = .bl a from r1] at eb; injection eb
    subst this
    exact k a p1 F1 H1 g1 h1
theorem PostF.seqE {X : Type} {S : Hp × Hp} {σ : St} {F H : Hp} {p : Pool} {D : Ends} {Γ' : β → List Sl} {r : Rg X α} {m : PM α} {f : α → PM (Fl β ρ)} {Q : X → Hp → Prop} (g : Good S c.q c.s Γ σ F H p) (h : PostF c S rr Γ' D ((m >>= f) p))
    (k : ∀ a p1 v F1 H1, Good S c.q c.s Γ σ F1 H1 p1 → Same F F1 → r.rel F1 v a → PostF c S rr Γ' D (f a p1) → Q v H1) : Post c σ F H r Q (m p) := by
  rw [run_bind] at h
  cases e : m p with
  | mk x p1 =>
    rw [e] at h
    cases x with
    | error er =>
      cases er with
      | stuck => exact h
      | exc ex => exact fun cls d F' H' e' pl k => h cls d σ F' H' (g.ent.tr e' g.pl) pl k
    | ok a => exact fun v F1 H1 e1 pl1 r1 => k a p1 v F1 H1 (g.ext e1 pl1) e1.sub r1 h
theorem PostF.seqT {S : Hp × Hp} {σ : St} {F H : Hp} {p : Pool} {D : Ends} {Γ' : β → List Sl} {m : PM Bool} {f : Bool → PM (Fl β ρ)} {Q : Bool → Hp → Prop} (g : Good S c.q c.s Γ σ F H p) (h : PostF c S rr Γ' D ((m >>= f) p))
    (k : ∀ a p1 F1 H1, Good S c.q c.s Γ σ F1 H1 p1 → PostF c S rr Γ' D (f a p1) → Q a H1) : Post c σ F H rBool (fun v H' => ∀ b, v = .bl b → Q b H') (m p) :=
  h.seqE g fun a p1 v F1 H1 g1 _ r1 h1 b eb => by
    have : a = b := by rw [show v = .bl a from r1] at eb; injection eb
    subst this
    exact k a p1 F1 H1 g1 h1
theorem PostL.seqE {X : Type} {S : Hp × Hp} {σ : St} {F H : Hp} {p : Pool} {D : Ends} {r : Rg X α} {m : PM α} {f : α → PM ρ} {Q : X → Hp → Prop} (g : Good S c.q c.s Γ σ F H p) (h : PostL c S rr D ((m >>= f) p))
    (k : ∀ a p1 v F1 H1, Good S c.q c.s Γ σ F1 H1 p1 → Same F F1 → r.rel F1 v a → PostL c S rr D (f a p1) → Q v H1) : Post c σ F H r Q (m p) := by
  rw [run_bind] at h
  cases e : m p with
  | mk x p1 =>
    rw [e] at h
    cases x with
    | error er =>
      cases er with
      | stuck => exact h
      | exc ex => exact fun cls d F' H' e' pl k => h cls d σ F' H' (g.ent.tr e' g.pl) pl k
    | ok a => exact fun v F1 H1 e1 pl1 r1 => k a p1 v F1 H1 (g.ext e1 pl1) e1.sub r1 h
theorem PostL.seqT {S : Hp × Hp} {σ : St} {F H : Hp} {p : Pool} {D : Ends} {m : PM Bool} {f : Bool → PM ρ} {Q : Bool → Hp → Prop} (g : Good S c.q c.s Γ σ F H p) (h : PostL c S rr D ((m >>= f) p))
    (k : ∀ a p1 F1 H1, Good S c.q c.s Γ σ F1 H1 p1 → PostL c S rr D (f a p1) → Q a H1) : Post c σ F H rBool (fun v H' => ∀ b, v = .bl b → Q b H') (m p) :=
  h.seqE g fun a p1 v F1 H1 g1 _ r1 h1 b eb => by
    have : a = b := by rw [show v = .bl a from r1] at eb; injection eb
    subst this
    exact k a p1 F1 H1 g1 h1
/-- behind a statement -/
theorem PostS.seqS {S : Hp × Hp} {p : Pool} {D : Ends} {Γ1 : α → List Sl} {Γ' : β → List Sl} {m : PM α} {f : α → PM β} {u : TS} (h : PostS c S Γ' D ((m >>= f) p))
    (k : ∀ a p1 σ1 F1 H1, Good S c.q c.s (Γ1 a) σ1 F1 H1 p1 → PostS c S Γ' D (f a p1) → u D σ1 H1) : PostS c S Γ1 { D with nx := u D } (m p) := by
  rw [run_bind] at h
  cases e : m p with
  | mk x p1 =>
    rw [e] at h
    cases x with
    | error er => cases er <;> exact h
    | ok a => exact fun σ1 F1 H1 g1 => k a p1 σ1 F1 H1 g1 h
theorem PostF.seqS {S : Hp × Hp} {p : Pool} {D : Ends} {Γ1 : α → List Sl} {Γ' : β → List Sl} {m : PM α} {f : α → PM (Fl β ρ)} {u : TS} (h : PostF c S rr Γ' D ((m >>= f) p))
    (k : ∀ a p1 σ1 F1 H1, Good S c.q c.s (Γ1 a) σ1 F1 H1 p1 → PostF c S rr Γ' D (f a p1) → u D σ1 H1) : PostS c S Γ1 { D with nx := u D } (m p) := by
  rw [run_bind] at h
  cases e : m p with
  | mk x p1 =>
    rw [e] at h
    cases x with
    | error er => cases er <;> exact h
    | ok a => exact fun σ1 F1 H1 g1 => k a p1 σ1 F1 H1 g1 h
theorem PostL.seqS {S : Hp × Hp} {p : Pool} {D : Ends} {Γ1 : α → List Sl} {m : PM α} {f : α → PM ρ} {u : TS} (h : PostL c S rr D ((m >>= f) p))
    (k : ∀ a p1 σ1 F1 H1, Good S c.q c.s (Γ1 a) σ1 F1 H1 p1 → PostL c S rr D (f a p1) → u D σ1 H1) : PostS c S Γ1 { D with nx := u D } (m p) := by
  rw [run_bind] at h
  cases e : m p with
  | mk x p1 =>
    rw [e] at h
    cases x with
    | error er => cases er <;> exact h
    | ok a => exact fun σ1 F1 H1 g1 => k a p1 σ1 F1 H1 g1 h
/-! ### statements -/
theorem es_pass : Es c Γ tNext (pure ()) fun _ => Γ := fun S σ F H p D g q => q σ F H g
theorem es_expr {r : Rl α} {m : PM α} (h : Ev c Γ ta m r) : Es c Γ (tDrop ta) (m >>= fun _ => pure ()) fun _ => Γ := fun S σ F H p D g q =>
  h S σ F H p _ g (q.seqE g fun a p1 v F1 H1 g1 _ r1 _ h1 => h1 σ F1 H1 g1)
theorem es_asg {r : Rl α} {m : PM α} {g : TG} {Γ' : α → List Sl} {ws : List Nat} (h : Ev c Γ ta m r) (hg : Eg c Γ g r Γ' ws) : Es c Γ (tAsg ta g) m Γ' := fun S σ F H p D gd q =>
  h S σ F H p _ gd (by
    have q' : PostS c S Γ' D ((m >>= fun a => pure a) p) := by rw [bind_pure]; exact q
    exact q'.seqE gd fun a p1 v F1 H1 g1 _ r1 _ h1 => hg a v S σ F1 H1 p1 _ g1 r1 fun σ' g' _ => h1 σ' F1 H1 g')
theorem es_set (i : Nat) {r : Rl α} {m : PM α} (h : Ev c Γ ta m r) : Es c Γ (tAsg ta (gName i)) m fun a => put Γ i (.val r a) := es_asg h (eg_name i)
/-- a new object of the def's own -/
theorem es_new (i : Nat) {r : Ro α} {m : PM α} (h : En c Γ ta m r) : Es c Γ (tAsg ta (gName i)) m fun a => put Γ i (.own r a) := fun S σ F H p D g q =>
  h S σ F H p _ g (by
    rcases e : m p with ⟨_ | a, p1⟩
    · rw [e] at q
      rename_i er
      cases er with
      | stuck => exact q
      | exc ex => exact fun cls d F' H' e' pl k => q cls d σ F' H' (g.ent.tr e' g.pl) pl k
    · rw [e] at q
      intro x ho F1 H1 e1 pl1 hn hf hh hq rr
      have nS : S.2 x = none := by
        cases z : S.2 x with
        | none => rfl
        | some o => rw [g.ent.keep x o z (fun y => hq y)] at hn; cases hn
      have no : x ∉ ownA Γ σ := fun hm => by
        obtain ⟨o, ho⟩ := g.sl.ownAt x hm
        rw [hn] at ho; cases ho
      exact q _ F1 H1 ((g.ext e1 pl1).seto i hh hf nS hq no rr))
/-- x += e, whole numbers -/
theorem es_aug (i : Nat) {f : Int → Int → Int} {x : Int} {m : PM Int} (hx : nth Γ i = .val rInt x) (h : Ev c Γ ta m rInt) : Es c Γ (tAug i ta (ipI f)) (m >>= fun y => pure (f x y)) fun z => put Γ i (.val rInt z) := fun S σ F H p D g q => by
  obtain ⟨v, h1, h2⟩ := g.sl.val hx
  refine ⟨v, h1, h S σ F H p _ g (q.seqE g fun a p1 w F1 H1 g1 _ r1 _ h3 => ⟨x, a, h2, r1, ?_⟩)⟩
  exact h3 _ F1 H1 (g1.setv i rfl)
def appM (l : List α) (a : α) : PM (List α) := guardM (l.length < sizeLine) (l ++ [a])
theorem es_app (i : Nat) {r : Rl α} {l : List α} {m : PM α} (hx : nth Γ i = .own (oList r) l) (h : Ev c Γ ta m r) :
    Es c Γ (tDrop (tBM c.K "list" rAppend (tVar i) (tCons ta tNil))) (m >>= fun a => appM l a) fun l' => put Γ i (.own (oList r) l') := fun S σ F H p D g q => by
  obtain ⟨x, ho, h1, h2, ⟨vs, rfl, k2, k3⟩, hm⟩ := g.sl.own hx
  refine ⟨_, h1, .inl ⟨rfl, _, SqL.of h2⟩, h S σ F H p _ g (q.seqE g fun a p1 w F1 H1 g1 s1 r1 _ h3 => ?_)⟩
  obtain ⟨x', ho', h1', h2', ⟨vs', rfl, k2', k3'⟩, hm'⟩ := g1.sl.own hx
  have ex : x' = x := by rw [h1] at h1'; injection h1' with z; injection z with z; injection z with z; exact z.symm
  subst ex
  unfold appM guardM at h3
  by_cases hl : l.length < sizeLine
  · rw [if_pos hl] at h3
    have hl' : vs'.length < sizeLine := by rw [k3'.length]; exact hl
    refine ⟨x', vs', w, rfl, rfl, h2', hl', ?_⟩
    exact h3 σ F1 _ (g1.updo hx h1' ⟨_, rfl, by rw [List.length_append]; exact hl', k3'.append (.cons r1 .nil)⟩)
  · rw [if_neg hl] at h3
    exact h3.elim
theorem es_seq {t u : TS} {m : PM α} {Γ1 : α → List Sl} {k : α → PM β} {Γ' : β → List Sl} (h1 : Es c Γ t m Γ1) (h2 : ∀ a, Es c (Γ1 a) u (k a) Γ') : Es c Γ (tSeq t u) (m >>= k) Γ' := fun S σ F H p D g q =>
  h1 S σ F H p _ g (q.seqS fun a p1 σ1 F1 H1 g1 q1 => h2 a S σ1 F1 H1 p1 D g1 q1)
theorem es_if {tt : TT} {t u : TS} {mt : PM Bool} {m1 m2 : PM β} {Γ' : β → List Sl} (ht : Et c Γ tt mt) (h1 : Es c Γ t m1 Γ') (h2 : Es c Γ u m2 Γ') : Es c Γ (tIfS tt t u) (mt >>= fun b => if b = true then m1 else m2) Γ' := fun S σ F H p D g q =>
  ht S σ F H p _ g (q.seqT g fun a p1 F1 H1 g1 q1 => by
    by_cases hg : a = true
    · rw [if_pos hg] at q1 ⊢; exact h1 S σ F1 H1 p1 D g1 q1
    · rw [if_neg hg] at q1 ⊢; exact h2 S σ F1 H1 p1 D g1 q1)
/-- the state behind it said otherwise -/
theorem es_weak {t : TS} {m : PM α} {Γ1 : α → List Sl} {Γ' : β → List Sl} (f : α → β) (h : Es c Γ t m Γ1) (w : ∀ a, Wk (Γ1 a) (Γ' (f a))) : Es c Γ t (m >>= fun a => pure (f a)) Γ' := fun S σ F H p D g q =>
  h S σ F H p D g (by
    rw [run_bind] at q
    rcases e : m p with ⟨_ | a, p1⟩
    · rw [e] at q; rename_i er; cases er <;> exact q
    · rw [e] at q; exact fun σ1 F1 H1 g1 => q σ1 F1 H1 ((w a).good g1))
/-- an own object stands still from here on -/
theorem es_fz (i : Nat) {r : Ro α} {a : α} {t : TS} {m : PM β} {Γ' : β → List Sl} (e : nth Γ i = .own r a) (h : Es c (put Γ i (.val (fz r) a)) t m Γ') : Es c Γ t m Γ' := fun S σ F H p D g q => by
  obtain ⟨F', _, g'⟩ := g.fz e
  exact h S σ F' H p D g' q
theorem ef_fz (i : Nat) {r : Ro α} {a : α} {t : TS} {m : PM (Fl β ρ)} {Γ' : β → List Sl} (e : nth Γ i = .own r a) (h : Ef c rr (put Γ i (.val (fz r) a)) t m Γ') : Ef c rr Γ t m Γ' := fun S σ F H p D g q => by
  obtain ⟨F', _, g'⟩ := g.fz e
  exact h S σ F' H p D g' q
theorem el_fz (i : Nat) {r : Ro α} {a : α} {t : TS} {m : PM ρ} {fall : Prop} (e : nth Γ i = .own r a) (h : El c rr fall (put Γ i (.val (fz r) a)) t m) : El c rr fall Γ t m := fun S σ F H p D g hf q => by
  obtain ⟨F', _, g'⟩ := g.fz e
  exact h S σ F' H p D g' hf q
/-! ### that may leave -/
theorem ef_of {t : TS} {m : PM β} {Γ' : β → List Sl} (h : Es c Γ t m Γ') : Ef c rr Γ t (m >>= fun b => pure (.nx b)) Γ' := fun S σ F H p D g q =>
  h S σ F H p D g (by
    rw [run_bind] at q
    rcases e : m p with ⟨_ | a, p1⟩
    · rw [e] at q; rename_i er; cases er <;> exact q
    · rw [e] at q; exact q)
theorem ef_ol {t : TS} {m : PM ρ} {Γ' : β → List Sl} (h : El c rr False Γ t m) : Ef c rr Γ t (m >>= fun a => pure (.rt a)) Γ' := fun S σ F H p D g q =>
  h S σ F H p D g (fun z => z.elim) (by
    rw [run_bind] at q
    rcases e : m p with ⟨_ | a, p1⟩
    · rw [e] at q; rename_i er; cases er <;> exact q
    · rw [e] at q; exact q)
theorem ef_seq {t u : TS} {m : PM α} {Γ1 : α → List Sl} {k : α → PM (Fl β ρ)} {Γ' : β → List Sl} (h1 : Es c Γ t m Γ1) (h2 : ∀ a, Ef c rr (Γ1 a) u (k a) Γ') : Ef c rr Γ (tSeq t u) (m >>= k) Γ' := fun S σ F H p D g q =>
  h1 S σ F H p _ g (q.seqS fun a p1 σ1 F1 H1 g1 q1 => h2 a S σ1 F1 H1 p1 D g1 q1)
def andThen {α β ρ : Type} (k : α → PM (Fl β ρ)) : Fl α ρ → PM (Fl β ρ)
  | .nx b => k b
  | .rt a => pure (.rt a)
def orElse {α ρ : Type} (k : α → PM ρ) : Fl α ρ → PM ρ
  | .nx b => k b
  | .rt a => pure a
@[simp] theorem andThen_nx {α β ρ : Type} (k : α → PM (Fl β ρ)) (b : α) : andThen k (.nx b) = k b := rfl
@[simp] theorem andThen_rt {α β ρ : Type} (k : α → PM (Fl β ρ)) (a : ρ) : andThen k (.rt a) = pure (.rt a) := rfl
@[simp] theorem orElse_nx {α ρ : Type} (k : α → PM ρ) (b : α) : orElse k (.nx b) = k b := rfl
@[simp] theorem orElse_rt {α ρ : Type} (k : α → PM ρ) (a : ρ) : orElse k (.rt a) = pure a := rfl
theorem ef_seqF {t u : TS} {m : PM (Fl α ρ)} {Γ1 : α → List Sl} {k : α → PM (Fl β ρ)} {Γ' : β → List Sl} (h1 : Ef c rr Γ t m Γ1) (h2 : ∀ a, Ef c rr (Γ1 a) u (k a) Γ') : Ef c rr Γ (tSeq t u) (m >>= andThen k) Γ' := fun S σ F H p D g q =>
  h1 S σ F H p _ g (by
    rw [run_bind] at q
    rcases e : m p with ⟨_ | a, p1⟩
    · rw [e] at q; rename_i er; cases er <;> exact q
    · rw [e] at q
      cases a with
      | nx b => exact fun σ1 F1 H1 g1 => h2 b S σ1 F1 H1 p1 D g1 q
      | rt a => exact q)
theorem ef_if {tt : TT} {t u : TS} {mt : PM Bool} {m1 m2 : PM (Fl β ρ)} {Γ' : β → List Sl} (ht : Et c Γ tt mt) (h1 : Ef c rr Γ t m1 Γ') (h2 : Ef c rr Γ u m2 Γ') : Ef c rr Γ (tIfS tt t u) (mt >>= fun b => if b = true then m1 else m2) Γ' := fun S σ F H p D g q =>
  ht S σ F H p _ g (q.seqT g fun a p1 F1 H1 g1 q1 => by
    by_cases hg : a = true
    · rw [if_pos hg] at q1 ⊢; exact h1 S σ F1 H1 p1 D g1 q1
    · rw [if_neg hg] at q1 ⊢; exact h2 S σ F1 H1 p1 D g1 q1)
theorem ef_weak {t : TS} {m : PM (Fl α ρ)} {Γ1 : α → List Sl} {Γ' : β → List Sl} (f : α → β) (h : Ef c rr Γ t m Γ1) (w : ∀ a, Wk (Γ1 a) (Γ' (f a))) : Ef c rr Γ t (m >>= andThen fun a => pure (.nx (f a))) Γ' := fun S σ F H p D g q =>
  h S σ F H p D g (by
    rw [run_bind] at q
    rcases e : m p with ⟨_ | a, p1⟩
    · rw [e] at q; rename_i er; cases er <;> exact q
    · rw [e] at q
      cases a with
      | nx b => exact fun σ1 F1 H1 g1 => q σ1 F1 H1 ((w b).good g1)
      | rt a => exact q)
/-! ### that leaves -/
theorem el_ret {m : PM ρ} {fall : Prop} (h : Ev c Γ ta m rr) : El c rr fall Γ (tRet ta) m := fun S σ F H p D g _ q =>
  h S σ F H p _ g (by
    have q' : PostL c S rr D ((m >>= fun a => pure a) p) := by rw [bind_pure]; exact q
    exact q'.seqE g fun a p1 v F1 H1 g1 _ r1 h1 => h1 v F1 H1 g1.ent g1.pl r1)
theorem el_retN {fall : Prop} : El c rNone fall Γ tRetN (pure ()) := fun S σ F H p D g _ q => q .non F H g.ent g.pl rfl
theorem el_nil {fall : Prop} (hf : fall) : El c rNone fall Γ tNext (pure ()) := fun S σ F H p D g k q => k hf σ H (q .non F H g.ent g.pl rfl)
theorem el_seq {t u : TS} {m : PM α} {Γ1 : α → List Sl} {k : α → PM ρ} {fall : Prop} (h1 : Es c Γ t m Γ1) (h2 : ∀ a, El c rr fall (Γ1 a) u (k a)) : El c rr fall Γ (tSeq t u) (m >>= k) := fun S σ F H p D g hf q =>
  h1 S σ F H p _ g (q.seqS fun a p1 σ1 F1 H1 g1 q1 => h2 a S σ1 F1 H1 p1 D g1 hf q1)
theorem el_seqF {t u : TS} {m : PM (Fl α ρ)} {Γ1 : α → List Sl} {k : α → PM ρ} {fall : Prop} (h1 : Ef c rr Γ t m Γ1) (h2 : ∀ a, El c rr fall (Γ1 a) u (k a)) : El c rr fall Γ (tSeq t u) (m >>= orElse k) := fun S σ F H p D g hf q =>
  h1 S σ F H p _ g (by
    rw [run_bind] at q
    rcases e : m p with ⟨_ | a, p1⟩
    · rw [e] at q; rename_i er; cases er <;> exact q
    · rw [e] at q
      cases a with
      | nx b => exact fun σ1 F1 H1 g1 => h2 b S σ1 F1 H1 p1 D g1 hf q
      | rt a => exact q)
theorem el_if {tt : TT} {t u : TS} {mt : PM Bool} {m1 m2 : PM ρ} {fall : Prop} (ht : Et c Γ tt mt) (h1 : El c rr fall Γ t m1) (h2 : El c rr fall Γ u m2) : El c rr fall Γ (tIfS tt t u) (mt >>= fun b => if b = true then m1 else m2) := fun S σ F H p D g hf q =>
  ht S σ F H p _ g (q.seqT g fun a p1 F1 H1 g1 q1 => by
    by_cases hg : a = true
    · rw [if_pos hg] at q1 ⊢; exact h1 S σ F1 H1 p1 D g1 hf q1
    · rw [if_neg hg] at q1 ⊢; exact h2 S σ F1 H1 p1 D g1 hf q1)
/-- if t: (leaves); what follows -/
theorem el_guard {tt : TT} {t u : TS} {mt : PM Bool} {m1 m2 : PM ρ} {fall : Prop} (ht : Et c Γ tt mt) (h1 : El c rr False Γ t m1) (h2 : El c rr fall Γ u m2) : El c rr fall Γ (tSeq (tIfS tt t tNext) u) (mt >>= fun b => if b = true then m1 else m2) := fun S σ F H p D g hf q =>
  ht S σ F H p _ g (q.seqT g fun a p1 F1 H1 g1 q1 => by
    by_cases hg : a = true
    · rw [if_pos hg] at q1 ⊢; exact h1 S σ F1 H1 p1 _ g1 (fun z => z.elim) q1
    · rw [if_neg hg] at q1 ⊢; exact h2 S σ F1 H1 p1 D g1 hf q1)
/-- .. that is all -/
theorem el_one {t : TS} {m : PM α} {Γ1 : α → List Sl} {fall : Prop} (hf : fall) (h : Es c Γ t m Γ1) : El c rNone fall Γ t (m >>= fun _ => pure ()) := fun S σ F H p D g k q =>
  h S σ F H p D g (by
    rw [run_bind] at q
    rcases e : m p with ⟨_ | a, p1⟩
    · rw [e] at q; rename_i er; cases er <;> exact q
    · rw [e] at q
      exact fun σ1 F1 H1 g1 => k hf σ1 H1 (q .non F1 H1 g1.ent g1.pl rfl))
theorem el_oneF {t : TS} {m : PM (Fl α Unit)} {Γ1 : α → List Sl} {fall : Prop} (hf : fall) (h : Ef c rNone Γ t m Γ1) : El c rNone fall Γ t (m >>= orElse fun _ => pure ()) := fun S σ F H p D g k q =>
  h S σ F H p D g (by
    rw [run_bind] at q
    rcases e : m p with ⟨_ | a, p1⟩
    · rw [e] at q; rename_i er; cases er <;> exact q
    · rw [e] at q
      cases a with
      | nx b => exact fun σ1 F1 H1 g1 => k hf σ1 H1 (q .non F1 H1 g1.ent g1.pl rfl)
      | rt a => exact q)
/-! ### what is walked -/
def PostI {α : Type} (c : Cf) (σ : St) (F H : Hp) (r : Rl α) (R : It → Hp → Prop) : Except Er (List α) × Pool → Prop
  | (.ok l, p') => ∀ J F' H' G Y, Ext c.q F H F' H' → PoolOk c.q c.s F' H' p' → Walk J l.length G Y → (∀ H2, Same F' H2 → G H2) →
      (∀ i x F2 H2 H3, i < l.length → Same F' F2 → Same F2 H2 → Y i H2 x H3 → ∃ F3, Ext none F2 H2 F3 H3 ∧ ∀ a, l[i]? = some a → r.rel F3 x a) → R J H'
  | (.error (.exc e), p') => ∀ cls d F' H', Ext c.q F H F' H' → PoolOk c.q c.s F' H' p' → ExR c.K H' e cls d → c.W cls d σ H'
  | (.error .stuck, _) => False
def Ei (c : Cf) (Γ : List Sl) (w : TI) (m : PM (List α)) (r : Rl α) : Prop :=
  ∀ (S : Hp × Hp) (σ : St) (F H : Hp) (p : Pool) (R : It → Hp → Prop), Good S c.q c.s Γ σ F H p → PostI c σ F H r R (m p) → w σ H R
theorem PostI.seq {X : Type} {σ : St} {F H : Hp} {p : Pool} {r : Rg X β} {r' : Rl α} {m : PM β} {f : β → PM (List α)} {R : It → Hp → Prop} {Q : X → Hp → Prop} (h : PostI c σ F H r' R ((m >>= f) p))
    (k : ∀ a p1 v F1 H1, Ext c.q F H F1 H1 → PoolOk c.q c.s F1 H1 p1 → r.rel F1 v a → PostI c σ F H r' R (f a p1) → Q v H1) : Post c σ F H r Q (m p) := by
  rw [run_bind] at h
  cases e : m p with
  | mk x p1 =>
    rw [e] at h
    cases x with
    | error er => cases er <;> exact h
    | ok a => exact fun v F1 H1 e1 pl1 r1 => k a p1 v F1 H1 e1 pl1 r1 h
theorem ei_list {r : Rl α} {m : PM (List α)} (h : Ev c Γ ta m (rList r)) : Ei c Γ (iList c.K ta) m r := fun S σ F H p R g q =>
  h S σ F H p _ g (by
    have q' : PostI c σ F H r R ((m >>= fun l => pure l) p) := by rw [bind_pure]; exact q
    exact q'.seq fun l p1 v F1 H1 e1 pl1 r1 h1 => by
      obtain ⟨x, vs, rfl, k1, k2, k3⟩ := rList.of r1
      have hs := e1.sub' _ _ k1
      refine ⟨x, rfl, ⟨vs, SqL.of hs⟩, h1 (Itl c.K x) F1 H1 (fun H => SqL c.K H x vs) (YAt vs) e1 pl1 (by rw [← k3.length]; exact walk_list) (fun H2 s => SqL.of (s _ _ k1)) fun i y F2 H2 H3 hi s2 s3 hy => ?_⟩
      obtain ⟨rfl, hy⟩ := hy
      refine ⟨F2, Ext.refl s3, fun a ha => ?_⟩
      obtain ⟨w, hw, rw_⟩ := k3.get ha
      rw [hy] at hw
      obtain rfl := Option.some.inj hw
      exact r.mono s2 rw_)
theorem ei_tup {r : Rl α} {m : PM (List α)} (h : Ev c Γ ta m (rTup c.K r)) : Ei c Γ (iTup c.K ta) m r := fun S σ F H p R g q =>
  h S σ F H p _ g (by
    have q' : PostI c σ F H r R ((m >>= fun l => pure l) p) := by rw [bind_pure]; exact q
    exact q'.seq fun l p1 v F1 H1 e1 pl1 r1 h1 => by
      obtain ⟨x, vs, rfl, k1, k2, k3⟩ := r1
      refine ⟨x, rfl, ⟨vs, SqT.same e1.sub' k1⟩, h1 (Itt c.K x) F1 H1 (fun H => SqT c.K H x vs) (YAt vs) e1 pl1 (by rw [← k3.length]; exact walk_tup) (fun H2 s => SqT.same s k1) fun i y F2 H2 H3 hi s2 s3 hy => ?_⟩
      obtain ⟨rfl, hy⟩ := hy
      refine ⟨F2, Ext.refl s3, fun a ha => ?_⟩
      obtain ⟨w, hw, rw_⟩ := k3.get ha
      rw [hy] at hw
      obtain rfl := Option.some.inj hw
      exact r.mono s2 rw_)
/-- lo, lo + 1, .. below hi -/
def irange (lo hi : Int) : List Int := (List.range (hi - lo).toNat).map fun (i : Nat) => lo + (i : Int)
theorem irange_len (lo hi : Int) : (irange lo hi).length = (hi - lo).toNat := by simp [irange]
theorem irange_get {lo hi : Int} {i : Nat} {a : Int} (h : (irange lo hi)[i]? = some a) : a = lo + i := by
  unfold irange at h
  rw [List.getElem?_map, Option.map_eq_some_iff] at h
  obtain ⟨j, h1, h2⟩ := h
  have : j = i := by
    obtain ⟨hlt, h3⟩ := List.getElem?_eq_some_iff.mp h1
    rw [List.getElem_range] at h3
    exact h3.symm
  subst this
  exact h2.symm
def RngOk (i j : Int) : Prop := -(2 ^ 62) ≤ i ∧ i < 2 ^ 62 ∧ -(2 ^ 62) ≤ j ∧ j < 2 ^ 62
instance (i j : Int) : Decidable (RngOk i j) := inferInstanceAs (Decidable (_ ∧ _))
def rangeM (lo hi : Int) : PM (List Int) := guardM (RngOk lo hi) (irange lo hi)
theorem PostI.range {σ : St} {F H : Hp} {p : Pool} {R : It → Hp → Prop} {lo hi : Int} (h : PostI c σ F H rInt R ((pure (irange lo hi) : PM (List Int)) p)) {F1 H1 : Hp} (e1 : Ext c.q F H F1 H1) (pl1 : PoolOk c.q c.s F1 H1 p) {n : Nat} (hn : n = (hi - lo).toNat) : R (Itr lo n) H1 := by
  subst hn
  refine h (Itr lo (hi - lo).toNat) F1 H1 (fun _ => True) (YFn fun i => .int (lo + i)) e1 pl1 (by rw [irange_len]; exact walk_range) (fun _ _ => trivial) fun i y F2 H2 H3 _ s2 s3 hy => ?_
  obtain ⟨rfl, rfl⟩ := hy
  exact ⟨F2, Ext.refl s3, fun a ha => by rw [irange_get ha]; rfl⟩
theorem ei_r1 {m : PM Int} (h : Ev c Γ ta m rInt) : Ei c Γ (iRng1 (tCons ta tNil)) (m >>= fun n => rangeM 0 n) rInt := fun S σ F H p R g q =>
  h S σ F H p _ g (q.seq fun n p1 v F1 H1 e1 pl1 r1 h1 => by
    unfold rangeM guardM at h1
    by_cases hb : RngOk 0 n
    · rw [if_pos hb] at h1
      exact ⟨n, by rw [show v = .int n from r1], hb.2.2.1, hb.2.2.2, h1.range e1 pl1 (by omega)⟩
    · rw [if_neg hb] at h1; exact h1.elim)
theorem ei_r2 {m m2 : PM Int} (h : Ev c Γ ta m rInt) (h2 : Ev c Γ tb m2 rInt) : Ei c Γ (iRng2 (tCons ta (tCons tb tNil))) (m >>= fun i => m2 >>= fun n => rangeM i n) rInt := fun S σ F H p R g q =>
  h S σ F H p _ g (q.seq fun i p1 v F1 H1 e1 pl1 r1 h1 => h2 S σ F1 H1 p1 _ (g.ext e1 pl1) (by
    rw [run_bind] at h1
    rcases e : m2 p1 with ⟨er | n, p2⟩
    · rw [e] at h1
      cases er with
      | stuck => exact h1
      | exc ex => exact fun cls d F' H' e' pl k => h1 cls d F' H' (e1.tr e' pl1) pl k
    · rw [e] at h1
      intro w F2 H2 e2 pl2 r2
      have h1' : PostI c σ F H rInt R (rangeM i n p2) := h1
      unfold rangeM guardM at h1'
      by_cases hb : RngOk i n
      · rw [if_pos hb] at h1'
        exact ⟨i, n, by rw [show v = .int i from r1, show w = .int n from r2], ⟨hb.1, hb.2.1, hb.2.2.1, hb.2.2.2⟩, h1'.range (e1.tr e2 pl1) pl2 rfl⟩
      · rw [if_neg hb] at h1'; exact h1'.elim))
/-- the signs of a text -/
def signsL (x : Str) : List Str := x.cps.toList.map fun ch => ⟨#[ch]⟩
theorem ei_str {m : PM Str} (h : Ev c Γ ta m rStr) : Ei c Γ (iStr ta) (m >>= fun x => pure (signsL x)) rStr := fun S σ F H p R g q =>
  h S σ F H p _ g (q.seq fun x p1 v F1 H1 e1 pl1 r1 h1 => by
    refine ⟨x, r1.1, h1 (Its x) F1 H1 (fun _ => True) _ e1 pl1 (by rw [show (signsL x).length = x.cps.size by simp [signsL]]; exact walk_str) (fun _ _ => trivial) fun i y F2 H2 H3 hi s2 s3 hy => ?_⟩
    obtain ⟨rfl, ch, hc, rfl⟩ := hy
    refine ⟨F2, Ext.refl s3, fun a ha => ?_⟩
    unfold signsL at ha
    rw [List.getElem?_map, Array.getElem?_toList, hc] at ha
    obtain rfl := Option.some.inj ha
    exact ⟨rfl, one_le⟩)
/-! ### loops -/
def forA (f : α → β → PM β) : List α → β → PM β
  | [], b => pure b
  | x :: l, b => f x b >>= fun b' => forA f l b'
def forF (f : α → β → PM (Fl β ρ)) : List α → β → PM (Fl β ρ)
  | [], b => pure (.nx b)
  | x :: l, b => f x b >>= andThen fun b' => forF f l b'
theorem drop_cons {l : List α} {i : Nat} {a : α} (h : l[i]? = some a) : l.drop i = a :: l.drop (i + 1) := by
  obtain ⟨hlt, h1⟩ := List.getElem?_eq_some_iff.mp h
  rw [List.drop_eq_getElem_cons hlt, h1]
theorem Ext.rebase {q : Option Addr} {S : Hp × Hp} {F1 H1 F' H' : Hp} (e : Ext q S.1 S.2 F1 H1) (e' : Ext q F1 S.2 F' H') : Ext q S.1 S.2 F' H' :=
  ⟨e.sub.trans e'.sub, e'.sub', e'.keep, fun b o h => (e'.new b o h).elim (e.new b o) .inr⟩
theorem Good.unbase {q : Option Addr} {sc : Addr} {S : Hp × Hp} {Γ : List Sl} {σ : St} {F1 H1 F H : Hp} {p : Pool} (e : Ext q S.1 S.2 F1 H1) (g : Good (F1, S.2) q sc Γ σ F H p) : Good S q sc Γ σ F H p :=
  ⟨g.sub, g.sl, g.nd, g.of, g.oq, g.os, e.rebase g.ent, g.pl⟩
theorem Good.rebase {q : Option Addr} {sc : Addr} {S : Hp × Hp} {Γ : List Sl} {σ : St} {F H : Hp} {p : Pool} (g : Good S q sc Γ σ F H p) : Good (F, S.2) q sc Γ σ F H p :=
  ⟨g.sub, g.sl, g.nd, g.of, g.oq, g.os, ⟨Same.refl _, g.sub, g.ent.keep, fun _ _ h => .inl h⟩, g.pl⟩
theorem PostS.rebase {S : Hp × Hp} {F1 H1 : Hp} {D : Ends} {Γ' : β → List Sl} {x : Except Er β × Pool} (e : Ext c.q S.1 S.2 F1 H1) (h : PostS c S Γ' D x) : PostS c (F1, S.2) Γ' D x := by
  rcases x with ⟨er | b, p⟩
  · cases er with
    | stuck => exact h
    | exc ex => exact fun cls d σ' F' H' e' => h cls d σ' F' H' (e.rebase e')
  · exact fun σ' F' H' g => h σ' F' H' (g.unbase e)
theorem PostF.rebase {S : Hp × Hp} {F1 H1 : Hp} {D : Ends} {Γ' : β → List Sl} {x : Except Er (Fl β ρ) × Pool} (e : Ext c.q S.1 S.2 F1 H1) (h : PostF c S rr Γ' D x) : PostF c (F1, S.2) rr Γ' D x := by
  rcases x with ⟨er | b, p⟩
  · cases er with
    | stuck => exact h
    | exc ex => exact fun cls d σ' F' H' e' => h cls d σ' F' H' (e.rebase e')
  · cases b with
    | nx b => exact fun σ' F' H' g => h σ' F' H' (g.unbase e)
    | rt a => exact fun v F' H' e' => h v F' H' (e.rebase e')
theorem es_for {w : TI} {g : TG} {tb : TS} {r : Rl α} {mi : PM (List α)} {f : α → β → PM β} {b0 : β} {Γ : β → List Sl} {Γt : β → α → List Sl} {ws : List Nat} (hi : Ei c (Γ b0) w mi r) (hg : ∀ b, Eg c (Γ b) g r (Γt b) ws) (hb : ∀ x b, Es c (Γt b x) tb (f x b) Γ) :
    Es c (Γ b0) (tFor w g tb) (mi >>= fun l => forA f l b0) Γ := fun S σ F H p D gd q =>
  hi S σ F H p _ gd (by
    rw [run_bind] at q
    rcases e : mi p with ⟨er | l, p1⟩
    · rw [e] at q
      cases er with
      | stuck => exact q
      | exc ex => exact fun cls d F' H' e' pl k => q cls d σ F' H' (gd.ent.tr e' gd.pl) pl k
    · rw [e] at q
      intro J F1 H1 G Y e1 pl1 wk hG hY
      have g1 := gd.ext e1 pl1
      refine for_it wk (D := D) (fun i σ H => ∃ b F2 p2, Good (F1, S.2) c.q c.s (Γ b) σ F2 H p2 ∧ PostS c (F1, S.2) Γ D (forA f (l.drop i) b p2)) ⟨b0, F1, p1, g1.rebase, q.rebase g1.ent⟩ (fun i σ H _ ⟨b, F2, p2, g2, _⟩ => hG H (g2.ent.sub.trans g2.sub)) ?_ ?_
      · rintro i x σ2 H2 H3 hlt ⟨b, F2, p2, g2, q2⟩ hy
        obtain ⟨F3, e3, hr⟩ := hY i x F2 H2 H3 hlt g2.ent.sub g2.sub hy
        have ha : l[i]? = some l[i] := List.getElem?_eq_getElem hlt
        have g3 := g2.ext e3.widen (g2.pl.up e3)
        refine hg b l[i] x _ σ2 F3 H3 p2 _ g3 (hr _ ha) fun σ4 g4 _ => hb _ b _ σ4 F3 H3 p2 _ g4 ?_
        rw [drop_cons ha] at q2
        have q3 : PostS c (F1, S.2) Γ D ((f l[i] b >>= fun b' => forA f (l.drop (i + 1)) b') p2) := q2
        rw [run_bind] at q3
        rcases e4 : f l[i] b p2 with ⟨er | b', p5⟩
        · rw [e4] at q3; cases er <;> exact q3
        · rw [e4] at q3
          exact fun σ5 F5 H5 g5 => ⟨b', F5, p5, g5, q3⟩
      · rintro σ2 H2 ⟨b, F2, p2, g2, q2⟩
        rw [List.drop_length] at q2
        exact q2 σ2 F2 H2 g2)
theorem ef_for {w : TI} {g : TG} {tb : TS} {r : Rl α} {mi : PM (List α)} {f : α → β → PM (Fl β ρ)} {b0 : β} {Γ : β → List Sl} {Γt : β → α → List Sl} {ws : List Nat} (hi : Ei c (Γ b0) w mi r) (hg : ∀ b, Eg c (Γ b) g r (Γt b) ws) (hb : ∀ x b, Ef c rr (Γt b x) tb (f x b) Γ) :
    Ef c rr (Γ b0) (tFor w g tb) (mi >>= fun l => forF f l b0) Γ := fun S σ F H p D gd q =>
  hi S σ F H p _ gd (by
    rw [run_bind] at q
    rcases e : mi p with ⟨er | l, p1⟩
    · rw [e] at q
      cases er with
      | stuck => exact q
      | exc ex => exact fun cls d F' H' e' pl k => q cls d σ F' H' (gd.ent.tr e' gd.pl) pl k
    · rw [e] at q
      intro J F1 H1 G Y e1 pl1 wk hG hY
      have g1 := gd.ext e1 pl1
      refine for_it wk (D := D) (fun i σ H => ∃ b F2 p2, Good (F1, S.2) c.q c.s (Γ b) σ F2 H p2 ∧ PostF c (F1, S.2) rr Γ D (forF f (l.drop i) b p2)) ⟨b0, F1, p1, g1.rebase, q.rebase g1.ent⟩ (fun i σ H _ ⟨b, F2, p2, g2, _⟩ => hG H (g2.ent.sub.trans g2.sub)) ?_ ?_
      · rintro i x σ2 H2 H3 hlt ⟨b, F2, p2, g2, q2⟩ hy
        obtain ⟨F3, e3, hr⟩ := hY i x F2 H2 H3 hlt g2.ent.sub g2.sub hy
        have ha : l[i]? = some l[i] := List.getElem?_eq_getElem hlt
        have g3 := g2.ext e3.widen (g2.pl.up e3)
        refine hg b l[i] x _ σ2 F3 H3 p2 _ g3 (hr _ ha) fun σ4 g4 _ => hb _ b _ σ4 F3 H3 p2 _ g4 ?_
        rw [drop_cons ha] at q2
        have q3 : PostF c (F1, S.2) rr Γ D ((f l[i] b >>= andThen fun b' => forF f (l.drop (i + 1)) b') p2) := q2
        rw [run_bind] at q3
        rcases e4 : f l[i] b p2 with ⟨er | b', p5⟩
        · rw [e4] at q3; cases er <;> exact q3
        · rw [e4] at q3
          cases b' with
          | nx b' => exact fun σ5 F5 H5 g5 => ⟨b', F5, p5, g5, q3⟩
          | rt a => exact q3
      · rintro σ2 H2 ⟨b, F2, p2, g2, q2⟩
        rw [List.drop_length] at q2
        exact q2 σ2 F2 H2 g2)
/-! ### while: so many turns at most -/
def whileA (test : β → PM Bool) (f : β → PM β) : Nat → β → PM β
  | 0, _ => stuck
  | n + 1, b => test b >>= fun k => if k = true then f b >>= fun b' => whileA test f n b' else pure b
theorem es_while {tt : TT} {tb : TS} {mt : β → PM Bool} {f : β → PM β} {b0 : β} {Γ : β → List Sl} (n : Nat) (ht : ∀ b, Et c (Γ b) tt (mt b)) (hb : ∀ b, Es c (Γ b) tb (f b) Γ) : Es c (Γ b0) (tWhile tt tb) (whileA mt f n b0) Γ := fun S σ F H p D g q => by
  refine ⟨fun m σ H => ∃ b F p, Good S c.q c.s (Γ b) σ F H p ∧ PostS c S Γ D (whileA mt f m b p), ⟨n, b0, F, p, g, q⟩, ?_⟩
  rintro m σ H ⟨b, F, p, g, q⟩
  cases m with
  | zero => exact q.elim
  | succ m =>
    refine ht b S σ F H p _ g ?_
    have q' : PostS c S Γ D ((mt b >>= fun k => if k = true then f b >>= fun b' => whileA mt f m b' else pure b) p) := q
    refine q'.seqT g fun a p1 F1 H1 g1 q1 => ?_
    cases a with
    | false =>
      rw [if_neg Bool.false_ne_true] at q1
      exact q1 σ F1 H1 g1
    | true =>
      rw [if_pos rfl] at q1
      refine ⟨fun σ' H' => ∃ b F p, Good S c.q c.s (Γ b) σ' F H' p ∧ PostS c S Γ D (whileA mt f m b p), fun σ' H' h => ⟨m, Nat.lt_succ_self m, h⟩, hb b S σ F1 H1 p1 _ g1 ?_⟩
      rw [run_bind] at q1
      rcases e4 : f b p1 with ⟨er | b', p5⟩
      · rw [e4] at q1; cases er <;> exact q1
      · rw [e4] at q1
        exact fun σ5 F5 H5 g5 => ⟨b', F5, p5, g5, q1⟩
end
end Kf

set_option maxHeartbeats 4000000
namespace Kf
open PySem PySem.Spec L2
open PyProof.Rows hiding St
/-! ### comprehensions -/
/-- nothing may be raised -/
def noX {α : Type} (m : PM α) : PM α := fun p => match m p with
  | (.error (.exc _), p') => (.error .stuck, p')
  | x => x
@[simp] theorem noX_pure {α : Type} (a : α) : noX (pure a : PM α) = pure a := rfl
@[simp] theorem noX_stuck {α : Type} : noX (stuck : PM α) = stuck := rfl
@[simp] theorem noX_guard {α : Type} {C : Prop} [Decidable C] (a : α) : noX (guardM C a) = guardM C a := by
  unfold guardM; split <;> rfl
theorem noX_bind {α β : Type} (m : PM α) (f : α → PM β) : noX (m >>= f) = noX m >>= fun a => noX (f a) := by
  funext p
  simp only [noX, run_bind]
  rcases m p with ⟨er | a, p'⟩
  · cases er <;> rfl
  · rfl
/-- the same, nothing raised -/
def Cf.nox (c : Cf) : Cf := { c with W := fun _ _ _ _ => False }
theorem Post.nox {X α : Type} {c : Cf} {σ σ' : St} {F H : Hp} {r : Rg X α} {Q : X → Hp → Prop} {m : PM α} {p : Pool} (h : Post c σ F H r Q (noX m p)) : Post c.nox σ' F H r Q (m p) := by
  unfold noX at h
  rcases e : m p with ⟨er | a, p'⟩
  · rw [e] at h
    cases er <;> exact h.elim
  · rw [e] at h
    exact h
/-- [e for x in l if t] -/
def compF {α β : Type} (t : α → PM Bool) (e : α → PM β) : List α → PM (List β)
  | [] => pure []
  | x :: l => noX (t x) >>= fun b => if b = true then noX (e x) >>= fun y => compF t e l >>= fun r => pure (y :: r) else compF t e l
def sized {α : Type} (m : PM (List α)) : PM (List α) := m >>= fun r => guardM (r.length ≤ sizeLine) r
/-- [e for x in l] -/
def compE {α β : Type} (e : α → PM β) : List α → PM (List β)
  | [] => pure []
  | x :: l => noX (e x) >>= fun y => compE e l >>= fun r => pure (y :: r)
theorem compE_eq {α β : Type} (e : α → PM β) : ∀ l : List α, compF (fun _ => pure true) e l = compE e l
  | [] => rfl
  | x :: l => by
    unfold compF compE
    rw [compE_eq e l]
    rfl
def wipeΓ (Γ : List Sl) : List Nat → List Sl
  | [] => Γ
  | v :: vs => put (wipeΓ Γ vs) v .any
theorem Good.wipe {S : Hp × Hp} {q : Option Addr} {sc : Addr} {Γ : List Sl} {σ : St} {F H : Hp} {p : Pool} (g : Good S q sc Γ σ F H p) : ∀ vs : List Nat, Good S q sc (wipeΓ Γ vs) (wipe σ vs) F H p
  | [] => g
  | v :: vs => (g.wipe vs).seta v
section
variable {c : Cf} {Γ : List Sl} {ta tb : TE} {α β γ ρ : Type} {rr : Rl ρ}
theorem noX_ne {α : Type} {m : PM α} {p : Pool} {e : Exc} {p' : Pool} : noX m p ≠ (.error (.exc e), p') := by
  unfold noX
  rcases m p with ⟨er | a, p2⟩
  · cases er <;> (intro z; cases z)
  · intro z; cases z
theorem Post.ofT {σ : St} {F H : Hp} {p : Pool} {m : PM Bool} {Q : Bool → Hp → Prop}
    (k : match noX m p with | (.ok b, p') => ∀ F' H', Ext c.q F H F' H' → PoolOk c.q c.s F' H' p' → Q b H' | _ => False) : Post c.nox σ F H rBool (fun v H' => ∀ b, v = .bl b → Q b H') (m p) := by
  unfold noX at k
  rcases e : m p with ⟨er | b, p'⟩
  · rw [e] at k
    cases er <;> exact k.elim
  · rw [e] at k
    intro v F' H' e' pl r b' eb
    have : b = b' := by rw [show v = .bl b from r] at eb; injection eb
    subst this
    exact k F' H' e' pl
theorem wipe_idem (σ : St) (vs : List Nat) : wipe (wipe σ vs) vs = wipe σ vs := by
  have key : ∀ (us : List Nat), (∀ i ∈ us, i ∈ vs) → wipe (wipe σ us) vs = wipe σ vs := by
    intro us
    induction us with
    | nil => intro _; rfl
    | cons u us ih =>
      intro h
      show wipe ((wipe σ us).set u none) vs = _
      rw [wipe_comm _ _ _ _ (h u List.mem_cons_self), ih fun i hi => h i (List.mem_cons_of_mem _ hi)]
  exact key vs fun _ h => h
theorem compF_ne {t : α → PM Bool} {e : α → PM β} : ∀ {l : List α} {p : Pool} {x : Exc} {p' : Pool}, compF t e l p ≠ (.error (.exc x), p')
  | [], _, _, _ => by intro z; cases z
  | a :: l, p, x, p' => by
    intro z
    unfold compF at z
    rw [run_bind] at z
    rcases h : noX (t a) p with ⟨er | b, p2⟩
    · rw [h] at z
      cases er with
      | stuck => cases z
      | exc ex => exact noX_ne h
    · rw [h] at z
      cases b with
      | false => exact compF_ne (l := l) (p := p2) z
      | true =>
        have z2 : (noX (e a) >>= fun y => compF t e l >>= fun r => pure (y :: r)) p2 = (.error (.exc x), p') := z
        rw [run_bind] at z2
        rcases h2 : noX (e a) p2 with ⟨er | y, p3⟩
        · rw [h2] at z2
          cases er with
          | stuck => cases z2
          | exc ex => exact noX_ne h2
        · rw [h2] at z2
          have z3 : (compF t e l >>= fun r => pure (y :: r)) p3 = (.error (.exc x), p') := z2
          rw [run_bind] at z3
          rcases h3 : compF t e l p3 with ⟨er | r, p4⟩
          · rw [h3] at z3
            cases er with
            | stuck => cases z3
            | exc ex => exact compF_ne h3
          · rw [h3] at z3; cases z3
theorem en_lc {w : TI} {g : TG} {tt : TT} {te : TE} {vs ws : List Nat} {ru : Rl α} {r : Rl β} {mi : PM (List α)} {t : α → PM Bool} {e : α → PM β} {Γt : α → List Sl} (hi : Ei c Γ w mi ru) (hg : Eg c.nox (wipeΓ Γ vs) g ru Γt ws) (hw : ∀ i ∈ ws, i ∈ vs)
    (ht : ∀ x, Et c.nox (Γt x) tt (t x)) (he : ∀ x, Ev c.nox (Γt x) te (e x) r) : En c Γ (tLc w g tt te vs) (mi >>= fun l => sized (compF t e l)) (oList r) := fun S σ F H p Q gd q =>
  hi S σ F H p _ gd (by
    rw [run_bind] at q
    rcases e0 : mi p with ⟨er | l, p1⟩
    · rw [e0] at q
      cases er <;> exact q
    · rw [e0] at q
      intro J F1 H1 G Y e1 pl1 wk hG hY D nD
      have g1 := gd.ext e1 pl1
      have qD : c.q ≠ some D := fun z => pl1.there D z nD
      have nF1 : F1 D = none := Same.none g1.sub nD
      have nH : H D = none := by
        cases z : H D with
        | none => rfl
        | some o => rw [e1.keep D o z qD] at nD; cases nD
      refine lc_it wk (fun i H' => ∃ F2 p2 vs2 acc, Ext c.q F1 H1 F2 H' ∧ PoolOk c.q c.s F2 H' p2 ∧ F2 D = none ∧ H' D = some (.lst vs2) ∧ vs2.length ≤ sizeLine ∧ All2 (r.rel F2) vs2 acc ∧
          PostN c σ F H (oList r) Q ((compF t e (l.drop i) >>= fun rest => guardM ((acc ++ rest).length ≤ sizeLine) (acc ++ rest)) p2)) ?_ ?_ ?_ ?_
      · exact ⟨F1, p1, [], [], Ext.loose g1.sub nD, pl1.up (Ext.loose g1.sub nD), nF1, upd_same, Nat.zero_le _, .nil, q⟩
      · rintro i H' _ ⟨F2, p2, vs2, acc, e2, _⟩
        exact hG H' (e2.sub.trans e2.sub')
      · rintro i x H2 H3 hlt ⟨F2, p2, vs2, acc, e2, pl2, nF2, hD, hl2, k2, q2⟩ hy
        obtain ⟨F3, e3, hr⟩ := hY i x F2 H2 H3 hlt e2.sub e2.sub' hy
        have ha : l[i]? = some l[i] := List.getElem?_eq_getElem hlt
        have g3 := ((gd.ext e1 pl1).ext e2 pl2).ext e3.widen (pl2.up e3)
        have pl3 := pl2.up e3
        have hD3 : H3 D = some (.lst vs2) := e3.keep D _ hD (by simp)
        have nF3 : F3 D = none := by
          cases z : F3 D with
          | none => rfl
          | some o =>
            rcases e3.new D o z with y | y
            · rw [nF2] at y; cases y
            · rw [hD] at y; cases y
        have e13 : Ext c.q F1 H1 F3 H3 := e2.tr e3.widen pl2
        rw [drop_cons ha] at q2
        refine hg l[i] x S (wipe σ vs) F3 H3 p2 _ (g3.wipe vs) (hr _ ha) fun σ4 g4 w4 => ⟨by rw [w4 vs hw, wipe_idem], ht l[i] S σ4 F3 H3 p2 _ g4 (Post.ofT ?_)⟩
        unfold compF at q2
        rw [bind_assoc, run_bind] at q2
        rcases h4 : noX (t l[i]) p2 with ⟨er | b, p4⟩
        · rw [h4] at q2
          cases er with
          | stuck => exact q2
          | exc ex => exact noX_ne h4
        · rw [h4] at q2
          intro F4 H4 e4 pl4
          have e14 : Ext c.q F1 H1 F4 H4 := e13.tr e4 pl3
          have hD4 : H4 D = some (.lst vs2) := e4.keep D _ hD3 qD
          have nF4 : F4 D = none := by
            cases z : F4 D with
            | none => rfl
            | some o =>
              rcases e4.new D o z with y | y
              · rw [nF3] at y; cases y
              · rw [hD3] at y; cases y
          cases b with
          | false =>
            rw [if_neg Bool.false_ne_true]
            exact ⟨F4, p4, vs2, acc, e14, pl4, nF4, hD4, hl2, k2.imp fun _ _ => r.mono (e3.sub.trans e4.sub), q2⟩
          | true =>
            rw [if_pos rfl]
            have q3 : PostN c σ F H (oList r) Q ((noX (e l[i]) >>= fun y => (compF t e (l.drop (i + 1)) >>= fun rr => pure (y :: rr)) >>= fun rest => guardM ((acc ++ rest).length ≤ sizeLine) (acc ++ rest)) p4) := by
              have z : (noX (e l[i]) >>= fun y => (compF t e (l.drop (i + 1)) >>= fun rr => pure (y :: rr)) >>= fun rest => guardM ((acc ++ rest).length ≤ sizeLine) (acc ++ rest)) = ((noX (e l[i]) >>= fun y => compF t e (l.drop (i + 1)) >>= fun rr => pure (y :: rr)) >>= fun rest => guardM ((acc ++ rest).length ≤ sizeLine) (acc ++ rest)) := by rw [bind_assoc]
              rw [z]
              exact q2
            refine he l[i] S σ4 F4 H4 p4 _ (g4.ext e4 pl4) (Post.nox (c := c) (σ := σ) ?_)
            rw [run_bind] at q3
            rcases h5 : noX (e l[i]) p4 with ⟨er | y, p5⟩
            · rw [h5] at q3
              cases er with
              | stuck => exact q3
              | exc ex => exact (noX_ne h5).elim
            · rw [h5] at q3
              intro v F5 H5 e5 pl5 r5
              have hD5 : H5 D = some (.lst vs2) := e5.keep D _ hD4 qD
              have nF5 : F5 D = none := by
                cases z : F5 D with
                | none => rfl
                | some o =>
                  rcases e5.new D o z with y | y
                  · rw [nF4] at y; cases y
                  · rw [hD4] at y; cases y
              have e15 : Ext c.q F1 H1 F5 H5 := e14.tr e5 pl4
              have q4 : PostN c σ F H (oList r) Q ((compF t e (l.drop (i + 1)) >>= fun rr => guardM ((acc ++ (y :: rr)).length ≤ sizeLine) (acc ++ (y :: rr))) p5) := by
                have z : (compF t e (l.drop (i + 1)) >>= fun rr => guardM ((acc ++ (y :: rr)).length ≤ sizeLine) (acc ++ (y :: rr))) = ((compF t e (l.drop (i + 1)) >>= fun rr => pure (y :: rr)) >>= fun rest => guardM ((acc ++ rest).length ≤ sizeLine) (acc ++ rest)) := by
                  rw [bind_assoc]
                  rfl
                rw [z]
                exact q3
              have hl : vs2.length < sizeLine := by
                rw [k2.length]
                rw [run_bind] at q4
                rcases h6 : compF t e (l.drop (i + 1)) p5 with ⟨er | rest, p6⟩
                · rw [h6] at q4
                  cases er with
                  | stuck => exact q4.elim
                  | exc ex => exact (compF_ne h6).elim
                · rw [h6] at q4
                  have q5 : PostN c σ F H (oList r) Q (guardM ((acc ++ (y :: rest)).length ≤ sizeLine) (acc ++ (y :: rest)) p6) := q4
                  unfold guardM at q5
                  by_cases hh : (acc ++ (y :: rest)).length ≤ sizeLine
                  · rw [List.length_append, List.length_cons] at hh
                    omega
                  · rw [if_neg hh] at q5
                    exact q5.elim
              refine ⟨vs2, hD5, hl, F5, p5, vs2 ++ [v], acc ++ [y], ⟨e15.sub, fun b o z => ?_, fun b o z n => ?_, e15.new⟩, ?_, nF5, upd_same, by rw [List.length_append]; exact hl, (k2.imp fun _ _ => r.mono (e3.sub.trans (e4.sub.trans e5.sub))).append (.cons r5 .nil), ?_⟩
              · rw [upd_ne (fun y => by rw [y, nF5] at z; cases z)]
                exact e15.sub' b o z
              · rw [upd_ne (fun y => by rw [y, nD] at z; cases z)]
                exact e15.keep b o z n
              · cases cq : c.q with
                | none => trivial
                | some a0 =>
                  rw [cq] at pl5 qD
                  obtain ⟨z1, z2, z3⟩ := pl5
                  exact ⟨z1, by rw [upd_ne (fun y => qD (by rw [y]))]; exact z2, z3⟩
              · have z : (fun rest => guardM ((acc ++ [y] ++ rest).length ≤ sizeLine) (acc ++ [y] ++ rest)) = fun rest => guardM ((acc ++ (y :: rest)).length ≤ sizeLine) (acc ++ (y :: rest)) := by
                  funext rest
                  rw [List.append_assoc]
                  rfl
                rw [z]
                exact q4
      · rintro H' ⟨F2, p2, vs2, acc, e2, pl2, nF2, hD, hl2, k2, q2⟩
        rw [List.drop_length] at q2
        unfold compF at q2
        rw [pure_bind, List.append_nil] at q2
        unfold guardM at q2
        by_cases hh : acc.length ≤ sizeLine
        · rw [if_pos hh] at q2
          exact q2 D (.lst vs2) F2 H' (e1.tr e2 pl1) pl2 nH nF2 hD qD ⟨vs2, rfl, hl2, k2⟩
        · rw [if_neg hh] at q2
          exact q2.elim)
/-- without an if -/
theorem et_yes : Et c Γ tYes (pure true) := fun S σ F H p Q g q => Post.now (v := V.bl true) q g.sub g.pl (show rBool.rel F (.bl true) true from rfl) true rfl
theorem en_lcE {w : TI} {g : TG} {te : TE} {vs ws : List Nat} {ru : Rl α} {r : Rl β} {mi : PM (List α)} {e : α → PM β} {Γt : α → List Sl} (hi : Ei c Γ w mi ru) (hg : Eg c.nox (wipeΓ Γ vs) g ru Γt ws) (hw : ∀ i ∈ ws, i ∈ vs)
    (he : ∀ x, Ev c.nox (Γt x) te (e x) r) : En c Γ (tLc w g tYes te vs) (mi >>= fun l => sized (compE e l)) (oList r) := by
  have h := en_lc (t := fun _ => pure true) hi hg hw (fun x => et_yes) he
  simp only [compE_eq] at h
  exact h
/-- an own object is lent for an expression that hands back what needs no heap -/
theorem ev_borrow (i : Nat) {ro : Ro α} {a : α} {rf : Rl β} {t : TE} {m : PM β} (e : nth Γ i = .own ro a) (fl : rf.Flat) (h : Ev c (put Γ i (.val (fz ro) a)) t m rf) :
    Ev c Γ t m rf := fun S σ F H p Q g q => by
  obtain ⟨F', s, g'⟩ := g.fz e
  refine h S σ F' H p Q g' ?_
  rcases em : m p with ⟨er | b, p'⟩
  · rw [em] at q
    cases er with
    | stuck => exact q
    | exc ex => exact fun cls d F2 H2 e2 pl2 k => q cls d F H2 ⟨Same.refl _, (s.trans e2.sub).trans e2.sub', e2.keep, fun _ _ z => .inl z⟩ (by
        have pl := g.pl
        have pl2' := pl2
        cases cq : c.q with
        | none => trivial
        | some y =>
          rw [cq] at pl pl2'
          obtain ⟨z1, z2, z3, z4⟩ := pl
          obtain ⟨w1, w2, w3, w4⟩ := pl2'
          refine ⟨z1, w2, ?_, w4⟩
          have z5 := s _ _ z3
          have z6 := e2.sub _ _ z5
          rw [w3] at z6
          rw [z3, z6]) k
  · rw [em] at q
    exact fun v F2 H2 e2 pl2 k => q v F H2 ⟨Same.refl _, (s.trans e2.sub).trans e2.sub', e2.keep, fun _ _ z => .inl z⟩ (by
        have pl := g.pl
        have pl2' := pl2
        cases cq : c.q with
        | none => trivial
        | some y =>
          rw [cq] at pl pl2'
          obtain ⟨z1, z2, z3, z4⟩ := pl
          obtain ⟨w1, w2, w3, w4⟩ := pl2'
          refine ⟨z1, w2, ?_, w4⟩
          have z5 := s _ _ z3
          have z6 := e2.sub _ _ z5
          rw [w3] at z6
          rw [z3, z6]) (fl _ _ _ _ k)
end
end Kf

set_option maxHeartbeats 4000000
namespace Kf
open PySem PySem.Spec L2
open PyProof.Rows hiding St
/-! ### what a def promises -/
def cfE (K : PySem.W.Frag) (q : Option Addr) (sc : Addr) (E : XK) : Cf := ⟨K, q, sc, fun cls d _ H => E cls d H⟩
/-- its value is the mirror's -/
def spF {A α : Type} (K : PySem.W.Frag) (ra : Ra A) (m : A → PM α) (r : Rl α) : Sp := fun vs H Q E =>
  ∃ F a p, Same F H ∧ ra.rel F vs a ∧ Post (cfE K none 0 E) [] F H r Q (m a p)
/-- .. its first argument is the pool -/
def spP {A α : Type} (K : PySem.W.Frag) (ra : Ra A) (m : A → PM α) (r : Rl α) : Sp := fun vs H Q E =>
  ∃ q sc ws F a p, vs = .ref q :: ws ∧ Same F H ∧ PoolOk (some q) sc F H p ∧ ra.rel F ws a ∧ Post (cfE K (some q) sc E) [] F H r Q (m a p)
/-- the pool as it was -/
def frame {α : Type} (m : PM α) : PM α := fun p => ((m p).1, p)
@[simp] theorem frame_pure {α : Type} (a : α) : frame (pure a : PM α) = pure a := rfl
@[simp] theorem frame_raise {α : Type} (e : Exc) : frame (raise e : PM α) = raise e := rfl
def rPool : Rl Addr := ⟨fun _ v q => v = .ref q, fun _ h => h⟩
section
variable {c : Cf} {Γ : List Sl} {ta tb : TE} {α β γ ρ A B : Type} {t : TA}
theorem Post.toE {σ : St} {F H : Hp} {r : Rl α} {Q : VK} {x : Except Er α × Pool} (h : Post c σ F H r Q x) : Post (cfE c.K c.q c.s (WE c.W σ)) [] F H r Q x := by
  rcases x with ⟨er | a, p⟩
  · cases er <;> exact h
  · exact h
theorem ev_callD {ra0 : Ra B} {ra : Ra A} {f : A → PM α} {r : Rl α} {m : PM B} {dvs : List V} (cv : B → A) (hc : ∀ F vs b, ra0.rel F vs b → ra.rel F (vs ++ dvs) (cv b)) (h : Ea c Γ t m ra0) :
    Ev c Γ (tCallSD (spF c.K ra f r) dvs (WE c.W) t) (m >>= fun b => frame (f (cv b))) r := fun S σ F H p Q g q =>
  h S σ F H p _ g (q.seq fun b p1 vs F1 H1 e1 pl1 r1 h1 => by
    refine ⟨F1, cv b, p1, (g.ext e1 pl1).sub, hc F1 vs b r1, ?_⟩
    have h2 : Post c σ F1 H1 r Q ((f (cv b) p1).1, p1) := h1
    rcases e : f (cv b) p1 with ⟨er | a, p2⟩
    · rw [e] at h2
      cases er with
      | stuck => exact h2
      | exc ex => exact fun cls d F' H' e' _ k => h2 cls d F' H' e'.widen (pl1.up e') k
    · rw [e] at h2
      exact fun v F' H' e' _ k => h2 v F' H' e'.widen (pl1.up e') k)
theorem ev_call {ra : Ra A} {f : A → PM α} {r : Rl α} {m : PM A} (h : Ea c Γ t m ra) : Ev c Γ (tCallSD (spF c.K ra f r) [] (WE c.W) t) (m >>= fun a => frame (f a)) r :=
  ev_callD id (fun F vs b k => by rw [List.append_nil]; exact k) h
/-- where there is no pool -/
theorem ev_call0 (hq : c.q = none) {ra : Ra A} {f : A → PM α} {r : Rl α} {m : PM A} (h : Ea c Γ t m ra) : Ev c Γ (tCallSD (spF c.K ra f r) [] (WE c.W) t) (m >>= fun a => f a) r := fun S σ F H p Q g q =>
  h S σ F H p _ g (q.seq fun b p1 vs F1 H1 e1 pl1 r1 h1 => by
    refine ⟨F1, b, p1, (g.ext e1 pl1).sub, by rw [List.append_nil]; exact r1, ?_⟩
    have := Post.toE h1
    rw [hq] at this
    exact this)
theorem ev_callD0 (hq : c.q = none) {ra0 : Ra B} {ra : Ra A} {f : A → PM α} {r : Rl α} {m : PM B} {dvs : List V} (cv : B → A) (hc : ∀ F vs b, ra0.rel F vs b → ra.rel F (vs ++ dvs) (cv b)) (h : Ea c Γ t m ra0) :
    Ev c Γ (tCallSD (spF c.K ra f r) dvs (WE c.W) t) (m >>= fun b => f (cv b)) r := fun S σ F H p Q g q =>
  h S σ F H p _ g (q.seq fun b p1 vs F1 H1 e1 pl1 r1 h1 => by
    refine ⟨F1, cv b, p1, (g.ext e1 pl1).sub, hc F1 vs b r1, ?_⟩
    have := Post.toE h1
    rw [hq] at this
    exact this)
theorem ev_callP {q : Addr} (i : Nat) (hq : c.q = some q) (hi : nth Γ i = .val rPool q) {ra : Ra A} {f : A → PM α} {r : Rl α} {m : PM A} (h : Ea c Γ t m ra) : Ev c Γ (tCallSD (spP c.K ra f r) [] (WE c.W) (tCons (tVar i) t)) (m >>= fun a => f a) r := fun S σ F H p Q g qq => by
  obtain ⟨v, h1, h2⟩ := g.sl.val hi
  refine ⟨v, h1, h S σ F H p _ g (qq.seq fun b p1 vs F1 H1 e1 pl1 r1 h3 => ?_)⟩
  rw [show v = .ref q from h2]
  have := Post.toE h3
  rw [hq] at this pl1
  exact ⟨q, c.s, vs, F1, b, p1, by simp, (g.ext e1 (by rw [hq]; exact pl1)).sub, pl1, r1, this⟩
/-! ### the pool's own parts -/
def poolGet (k : Nat) : PM Int := fun p => (.ok (match k with
  | 1 => p.pos
  | 2 => p.cur
  | 3 => p.left
  | _ => p.mode), p)
def poolScr : PM (List Int) := fun p => (.ok p.scr, p)
def poolSet (k : Nat) (v : Int) : PM Unit := fun p => (.ok (), match k with
  | 1 => { p with pos := v }
  | 2 => { p with cur := v }
  | 3 => { p with left := v }
  | _ => { p with mode := v })
theorem ev_pool {q : Addr} (i k : Nat) (hk : k = 1 ∨ k = 2 ∨ k = 3 ∨ k = 4) (hq : c.q = some q) (hi : nth Γ i = .val rPool q) : Ev c Γ (tOp (rIxL c.K) (tVar i) (tC (.int (k : Int)))) (poolGet k) rInt := fun S σ F H p Q g qq => by
  obtain ⟨v, h1, h2⟩ := g.sl.val hi
  have pl := g.pl
  rw [hq] at pl
  obtain ⟨z1, z2, z3, z4⟩ := pl
  refine ⟨v, h1, ?_⟩
  rw [show v = .ref q from h2]
  have fin : ∀ x : Int, (poolGet k p) = (.ok x, p) → Q (.int x) H := fun x e => by
    rw [e] at qq
    exact qq (.int x) F H (Ext.refl g.sub) g.pl rfl
  rcases hk with rfl | rfl | rfl | rfl
  · exact ⟨q, _, 1, .int p.pos, rfl, rfl, SqL.of z2, rfl, fin p.pos rfl⟩
  · exact ⟨q, _, 2, .int p.cur, rfl, rfl, SqL.of z2, rfl, fin p.cur rfl⟩
  · exact ⟨q, _, 3, .int p.left, rfl, rfl, SqL.of z2, rfl, fin p.left rfl⟩
  · exact ⟨q, _, 4, .int p.mode, rfl, rfl, SqL.of z2, rfl, fin p.mode rfl⟩
theorem All2.ints {F : Hp} : ∀ (l : List Int), All2 (rInt.rel F) (l.map V.int) l
  | [] => .nil
  | _ :: l => .cons rfl (All2.ints l)
theorem ev_pool0 {q : Addr} (i : Nat) (hq : c.q = some q) (hi : nth Γ i = .val rPool q) : Ev c Γ (tOp (rIxL c.K) (tVar i) (tC (.int 0))) poolScr (rList rInt) := fun S σ F H p Q g qq => by
  obtain ⟨v, h1, h2⟩ := g.sl.val hi
  have pl := g.pl
  rw [hq] at pl
  obtain ⟨z1, z2, z3, z4⟩ := pl
  refine ⟨v, h1, ?_⟩
  rw [show v = .ref q from h2]
  refine ⟨q, _, 0, .ref c.s, rfl, rfl, SqL.of z2, rfl, ?_⟩
  exact qq (.ref c.s) F H (Ext.refl g.sub) g.pl (rList.mk z3 (by rw [List.length_map]; exact Nat.le_trans z4 (by decide)) (All2.ints _))
theorem es_pool {q : Addr} (i k : Nat) (hk : k = 1 ∨ k = 2 ∨ k = 3 ∨ k = 4) (hq : c.q = some q) (hi : nth Γ i = .val rPool q) {m : PM Int} (h : Ev c Γ ta m rInt) : Es c Γ (tAsg ta (gSub (tVar i) (tC (.int (k : Int))) rSetL)) (m >>= fun v => poolSet k v) fun _ => Γ := fun S σ F H p D g qq => by
  refine h S σ F H p _ g (qq.seqE g fun a p1 v F1 H1 g1 s1 r1 _ h3 => ?_)
  obtain ⟨x, h1, h2⟩ := g1.sl.val hi
  have pl := g1.pl
  rw [hq] at pl
  obtain ⟨z1, z2, z3, z4⟩ := pl
  refine ⟨x, h1, ?_⟩
  rw [show x = .ref q from h2, show v = .int a from r1]
  have nS : ∀ b, b ∈ ownA Γ σ → b ≠ q := fun b hb e => g1.oq b hb (by rw [hq, e])
  have sq : Same F1 (upd H1 q (.lst [])) → True := fun _ => trivial
  have fin : ∀ (p2 : Pool), (poolSet k a p1) = (.ok (), p2) → p2.scr = p1.scr → D.nx σ (upd H1 q (.lst [.ref c.s, .int p2.pos, .int p2.cur, .int p2.left, .int p2.mode])) := fun p2 e es => by
    rw [e] at h3
    refine h3 σ F1 _ ⟨fun b o z => ?_, g1.sl.ext (Same.refl _) fun b hb o z => ?_, g1.nd, g1.of, g1.oq, g1.os, ⟨g1.ent.sub, fun b o z => ?_, fun b o z n => ?_, g1.ent.new⟩, ?_⟩
    · rw [upd_ne (fun y => by rw [y, z1] at z; cases z)]; exact g1.sub b o z
    · rw [upd_ne (nS b hb)]; exact z
    · rw [upd_ne (fun y => by rw [y, z1] at z; cases z)]; exact g1.sub b o z
    · rw [upd_ne (fun y => n (by rw [hq, y]))]; exact g1.ent.keep b o z n
    · rw [hq]
      exact ⟨z1, upd_same, by rw [es]; exact z3, by rw [es]; exact z4⟩
  rcases hk with rfl | rfl | rfl | rfl
  · exact ⟨q, _, 1, 1, rfl, rfl, z2, rfl, fin { p1 with pos := a } rfl rfl⟩
  · exact ⟨q, _, 2, 2, rfl, rfl, z2, rfl, fin { p1 with cur := a } rfl rfl⟩
  · exact ⟨q, _, 3, 3, rfl, rfl, z2, rfl, fin { p1 with left := a } rfl rfl⟩
  · exact ⟨q, _, 4, 4, rfl, rfl, z2, rfl, fin { p1 with mode := a } rfl rfl⟩
end
/-! ### the parameters' slots -/
def anys : Nat → List Sl
  | 0 => []
  | n + 1 => .any :: anys n
def Bd {A : Type} (ra : Ra A) (Γ : A → List Sl) (n : Nat) : Prop := ∀ (F H : Hp) (vs : List V) (a : A) (k : Nat), ra.rel F vs a → vs.length = n ∧ SlsOk F H (Γ a ++ anys k) (vs.map some ++ List.replicate k none) ∧ ownA (Γ a ++ anys k) (vs.map some ++ List.replicate k none) = []
theorem anys_ok (F H : Hp) : ∀ k, SlsOk F H (anys k) (List.replicate k none) ∧ ownA (anys k) (List.replicate k none) = []
  | 0 => ⟨.nil, rfl⟩
  | k + 1 => ⟨.cons trivial (anys_ok F H k).1, (anys_ok F H k).2⟩
theorem bd_nil : Bd aNil (fun _ => []) 0 := fun F H vs a k h => by
  subst h
  exact ⟨rfl, anys_ok F H k⟩
theorem bd_cons {α A : Type} {r : Rl α} {ra : Ra A} {Γ : A → List Sl} {n : Nat} (h : Bd ra Γ n) : Bd (aCons r ra) (fun x => .val r x.1 :: Γ x.2) (n + 1) := fun F H vs a k q => by
  obtain ⟨v, ws, rfl, h1, h2⟩ := q
  obtain ⟨k1, k2, k3⟩ := h F H ws a.2 k h2
  exact ⟨by rw [List.length_cons, k1], .cons ⟨v, rfl, h1⟩ k2, k3⟩
section
variable {P : Program} {w : World} {K : PySem.W.Frag} {mg : Str → Option Value} {base : Heap} {A α : Type}
theorem good_start {q : Option Addr} {sc : Addr} {Γ : List Sl} {σ : St} {F H : Hp} {p : Pool} (s : Same F H) (h : SlsOk F H Γ σ) (no : ownA Γ σ = []) (pl : PoolOk q sc F H p) : Good (F, H) q sc Γ σ F H p where
  sub := s
  sl := h
  nd := by rw [no]; exact List.nodup_nil
  of := fun a ha => by rw [no] at ha; cases ha
  oq := fun a ha => by rw [no] at ha; cases ha
  os := fun a ha => by rw [no] at ha; cases ha
  ent := Ext.refl s
  pl := pl
theorem Post.toL {K : PySem.W.Frag} {q : Option Addr} {sc : Addr} {E : XK} {F H : Hp} {r : Rl α} {Q : VK} {x : Except Er α × Pool} (h : Post (cfE K q sc E) [] F H r Q x) : PostL (cfE K q sc E) (F, H) r { nx := fun _ H' => Q .non H', rt := Q } x := by
  rcases x with ⟨er | a, p⟩
  · cases er with
    | stuck => exact h
    | exc ex => exact fun cls d σ' F' H' e pl k => h cls d F' H' e pl k
  · exact fun v F' H' e pl k => h v F' H' e pl k
theorem start_eq {N : List Str} {vs : List V} {n j : Nat} (h1 : vs.length = n) (h2 : N.length = n + j) : L2.start N vs = vs.map some ++ List.replicate j none := by
  unfold L2.start
  rw [h1, h2, Nat.add_sub_cancel_left]
/-- THE RULE for a def -/
theorem okF {x qual : Str} {params : Arguments} {body : List Stmt} {scope : Scope} {dvs : List V} {kws : List (Str × V)} {f : Addr} {fd : FuncData} {N ps : List Str} {k n j : Nat} {ra : Ra A} {m : A → PM α} {r : Rl α} {Γ : A → List Sl}
    (F : FunD K x qual params body scope dvs kws f fd) (S : FnScope N ps scope) (hb : Bd ra Γ n) (hn : ps.length = n) (hN : N.length = n + j)
    (hbody : ∀ (cdv : Value) (A_ : Around) (outer : List Env) (s : Shared) (H : Hp) (E : XK), Room k (A_.deeper (envOfC qual scope s.heap.objs.size f cdv)) →
      ∃ t, PSs (cxOf (L2.CX P w) P w K mg base N qual scope f cdv A_ outer s H E) body t ∧ ∀ a, El (cfE K none 0 E) r True (Γ a ++ anys j) t (m a)) : FnOk P w K mg base (L2.CX P w) (k + 1) f fd ps (spF K ra m r) := by
  refine FunD.ok F S (fun vs H Q E h => ?_) fun cdv A_ outer s H vs Q E hr h => ?_
  · obtain ⟨F, a, p, _, h2, _⟩ := h
    rw [(hb F H vs a 0 h2).1, hn]
  · obtain ⟨t, h1, h2⟩ := hbody cdv A_ outer s H E hr
    obtain ⟨F, a, p, s1, s2, s3⟩ := h
    obtain ⟨k1, k2, k3⟩ := hb F H vs a j s2
    refine ⟨t, h1, ?_⟩
    rw [start_eq k1 hN]
    exact h2 a (F, H) _ F H p _ (good_start s1 k2 k3 trivial) (fun _ _ _ z => z) s3.toL
/-- .. with the pool ahead -/
theorem okP {x qual : Str} {params : Arguments} {body : List Stmt} {scope : Scope} {dvs : List V} {kws : List (Str × V)} {f : Addr} {fd : FuncData} {N ps : List Str} {k n j : Nat} {ra : Ra A} {m : A → PM α} {r : Rl α} {Γ : A → List Sl}
    (F : FunD K x qual params body scope dvs kws f fd) (S : FnScope N ps scope) (hb : Bd ra Γ n) (hn : ps.length = n + 1) (hN : N.length = n + 1 + j)
    (hbody : ∀ (cdv : Value) (A_ : Around) (outer : List Env) (s : Shared) (H : Hp) (E : XK), Room k (A_.deeper (envOfC qual scope s.heap.objs.size f cdv)) →
      ∃ t, PSs (cxOf (L2.CX P w) P w K mg base N qual scope f cdv A_ outer s H E) body t ∧ ∀ q sc a, El (cfE K (some q) sc E) r True (.val rPool q :: (Γ a ++ anys j)) t (m a)) : FnOk P w K mg base (L2.CX P w) (k + 1) f fd ps (spP K ra m r) := by
  refine FunD.ok F S (fun vs H Q E h => ?_) fun cdv A_ outer s H vs Q E hr h => ?_
  · obtain ⟨q, sc, ws, F, a, p, rfl, _, _, h2, _⟩ := h
    rw [List.length_cons, (hb F H ws a 0 h2).1, hn]
  · obtain ⟨t, h1, h2⟩ := hbody cdv A_ outer s H E hr
    obtain ⟨q, sc, ws, F, a, p, rfl, s1, pl, s2, s3⟩ := h
    obtain ⟨k1, k2, k3⟩ := hb F H ws a j s2
    refine ⟨t, h1, ?_⟩
    rw [start_eq (n := n + 1) (by rw [List.length_cons, k1]) hN]
    exact h2 q sc a (F, H) _ F H p _ (good_start s1 (.cons ⟨_, rfl, rfl⟩ k2) k3 pl) (fun _ _ _ z => z) s3.toL
end
/-! ### the law -/
def spPool (K : PySem.W.Frag) : Sp := fun vs H Q _ => ∃ (a : Addr) (ns : List Int), vs = [.ref a] ∧ SqL K H a (ns.map V.int) ∧ ns.length ≤ 63 ∧
  ∀ q s H', Same H H' → H q = none → H s = none → s ≠ q → H' q = some (.lst [.ref s, .int 0, .int 0, .int 0, .int 0]) → H' s = some (.lst (ns.map V.int)) → Q (.ref q) H'
def spLaw (K : PySem.W.Frag) : Sp := fun vs H Q _ => ∃ (a : Addr) (ns : List Int), vs = [.ref a] ∧ SqL K H a (ns.map V.int) ∧ ns.length ≤ 63 ∧ ∀ H', Q (.bl true) H'
def pool0 (ns : List Int) : Pool := ⟨ns, 0, 0, 0, 0⟩
theorem okLaw {P : Program} {w : World} {K : PySem.W.Frag} {mg : Str → Option Value} {base : Heap} {x qual : Str} {params : Arguments} {body : List Stmt} {scope : Scope} {dvs : List V} {kws : List (Str × V)} {f : Addr} {fd : FuncData} {N ps : List Str} {k j : Nat} {m : PM Bool}
    (F : FunD K x qual params body scope dvs kws f fd) (S : FnScope N ps scope) (hn : ps.length = 1) (hN : N.length = 1 + (1 + j)) (hm : ∀ ns : List Int, ns.length ≤ 63 → ∃ p', m (pool0 ns) = (.ok true, p'))
    (hbody : ∀ (cdv : Value) (A_ : Around) (outer : List Env) (s : Shared) (H : Hp) (E : XK), Room k (A_.deeper (envOfC qual scope s.heap.objs.size f cdv)) →
      ∃ u, PSs (cxOf (L2.CX P w) P w K mg base N qual scope f cdv A_ outer s H E) body (tSeq (tAsg (tCallSD (spPool K) [] (WE (cfE K none 0 E).W) (tCons (tVar 0) tNil)) (gName 1)) u) ∧ ∀ q sc, El (cfE K (some q) sc E) rBool True (.any :: .val rPool q :: anys j) u m) :
    FnOk P w K mg base (L2.CX P w) (k + 1) f fd ps (spLaw K) := by
  refine FunD.ok F S (fun vs H Q E h => ?_) fun cdv A_ outer s H vs Q E hr h => ?_
  · obtain ⟨a, ns, rfl, _⟩ := h
    rw [hn]; rfl
  · obtain ⟨u, h1, h2⟩ := hbody cdv A_ outer s H E hr
    obtain ⟨a, ns, rfl, hS, hl, hQ⟩ := h
    refine ⟨_, h1, ?_⟩
    rw [start_eq (n := 1) rfl hN]
    refine ⟨.ref a, rfl, a, ns, rfl, hS, hl, fun q s0 H1 sm nq ns0 ne hq hs => ?_⟩
    let F1 : Hp := upd (fun _ => none) s0 (.lst (ns.map V.int))
    have sF : Same F1 H1 := fun b o z => by
      by_cases hb : b = s0
      · subst hb
        rw [show F1 b = some (.lst (ns.map V.int)) from upd_same] at z
        rw [← z]; exact hs
      · rw [show F1 b = none from upd_ne hb] at z; cases z
    have pl : PoolOk (some q) s0 F1 H1 (pool0 ns) := ⟨upd_ne (fun z => ne z.symm), hq, upd_same, Nat.le_trans hl (by decide)⟩
    obtain ⟨p', hp'⟩ := hm ns hl
    have g : Good (F1, H1) (some q) s0 (.any :: .val rPool q :: anys j) ([some (.ref a), some (.ref q)] ++ List.replicate j none) F1 H1 (pool0 ns) :=
      good_start sF (.cons trivial (.cons ⟨_, rfl, rfl⟩ (anys_ok F1 H1 j).1)) (anys_ok F1 H1 j).2 pl
    have e : List.set (List.map some [V.ref a] ++ List.replicate (1 + j) none) 1 (some (V.ref q)) = [some (V.ref a), some (V.ref q)] ++ List.replicate j none := by
      rw [Nat.add_comm 1 j]
      rfl
    show u _ _ _
    rw [e]
    refine h2 q s0 (F1, H1) _ F1 H1 (pool0 ns) _ g (fun _ _ _ z => z) ?_
    rw [hp']
    intro v F' H' _ _ r
    rw [show v = .bl true from r]
    exact hQ H'
/-- an exception's lie, over any world -/
def CXw (P : Program) : CXT := fun outer H s E u s' => ∃ w, L2.CX P w outer H s E u s'
theorem fn_cxw {P : Program} {w : World} {K : PySem.W.Frag} {mg : Str → Option Value} {base : Heap} {k : Nat} {f : Addr} {fd : FuncData} {ps : List Str} {sp : Sp} (F : FnOk P w K mg base (L2.CX P w) k f fd ps sp) : FnOk P w K mg base (CXw P) k f fd ps sp :=
  ⟨F.len, fun A outer s H args us vs Q E hr he hb hv hs => codeAny_mono (F.run A outer s H args us vs Q E hr he hb hv hs) fun r s' h => by
    match r, h with
    | .ok (.ret _), h => exact h
    | .error _, h => exact ⟨w, h⟩⟩
theorem cxw_none {P : Program} (H : Hp) (s : Shared) (e : Value) (s' : Shared) : CXw P [] H s (fun _ _ _ => False) e s' → False := fun ⟨_, _, _, _, _, _, _, _, _, _, _, _, _, h⟩ => h
end Kf

set_option maxHeartbeats 4000000
namespace Kf
open PySem PySem.Spec L2
open PyProof.Rows hiding St
/-! ### names of the module -/
section
variable {X : Cx} {x z : Str} {i : Int} {pos : Pos}
theorem pe_gstr (hg : Gl X x) (hm : ∃ t, X.mg x = some (.str z t)) (hd : (x == ("__debug__" : Str)) = false := by decide) : PE X (.Name x pos) (tC (.str z)) := by
  obtain ⟨t, h⟩ := hm
  exact pe_glob hg h ⟨t, rfl⟩ hd
theorem pe_gint (hg : Gl X x) (hm : ∃ t, X.mg x = some (.int i t)) (hd : (x == ("__debug__" : Str)) = false := by decide) : PE X (.Name x pos) (tC (.int i)) := by
  obtain ⟨t, h⟩ := hm
  exact pe_glob hg h ⟨t, rfl⟩ hd
/-! ### x * n -/
abbrev rMulS : R2 := fun x y H Q => ∃ (a : Str) (n : Int), x = .str a ∧ y = .int n ∧ 0 ≤ n ∧ n ≤ 1000 ∧ a.length ≤ 100 ∧ Q (.str (Txt.mul a n)) H
theorem op_mul_str {X : Cx} : OpR X (binaryOp .Mult) rMulS := by
  intro pins s σ H x y v u Q I rx ry h
  obtain ⟨a, n, rfl, rfl, h0, h1, h2, q⟩ := h
  obtain ⟨t, rfl⟩ := rx
  obtain ⟨t', rfl⟩ := ry
  refine SB.mul (mulOk_of 100 1000 h2 h1 (by omega) (by decide) (by decide)) fun t2 k => ⟨.str _, H, I.tok _, ⟨t2, rfl⟩, q⟩
end
def mulS (a : Str) (n : Int) : PM Str := guardM (0 ≤ n ∧ n ≤ 1000 ∧ a.length ≤ 100 ∧ (Txt.mul a n).length ≤ sizeLine) (Txt.mul a n)
section
variable {c : Cf} {Γ : List Sl} {ta tb tc : TE} {α β : Type}
theorem ev_mulS {ma : PM Str} {mb : PM Int} (ha : Ev c Γ ta ma rStr) (hb : Ev c Γ tb mb rInt) : Ev c Γ (tOp rMulS ta tb) (ma >>= fun a => mb >>= fun b => mulS a b) rStr :=
  ev_op ha hb fun a b S σ F H p x y Q gd hx hy q => by
    unfold mulS guardM at q
    by_cases h : 0 ≤ b ∧ b ≤ 1000 ∧ a.length ≤ 100 ∧ (Txt.mul a b).length ≤ sizeLine
    · rw [if_pos h] at q
      exact ⟨a, b, hx.1, hy, h.1, h.2.1, h.2.2.1, q.now gd.sub gd.pl ⟨rfl, h.2.2.2⟩⟩
    · rw [if_neg h] at q
      exact q.elim
/-! ### data at any depth -/
end
mutual
inductive Dq (K : PySem.W.Frag) (F : Hp) : V → PyData → Prop
  | non : Dq K F .non .none
  | bl (b : Bool) : Dq K F (.bl b) (.bool b)
  | int (i : Int) : Dq K F (.int i) (.int i)
  | str (x : Str) : x.length ≤ sizeLine → Dq K F (.str x) (.str x)
  | lst {a : Addr} {xs : List V} {ds : List PyData} : F a = some (.lst xs) → xs.length ≤ sizeLine → DqAll K F xs ds → Dq K F (.ref a) (.list ds)
  | tup {a : Addr} {xs : List V} {ds : List PyData} : SqT K F a xs → xs.length ≤ sizeLine → DqAll K F xs ds → Dq K F (.ref a) (.tuple ds)
inductive DqAll (K : PySem.W.Frag) (F : Hp) : List V → List PyData → Prop
  | nil : DqAll K F [] []
  | cons {v : V} {vs : List V} {d : PyData} {ds : List PyData} : Dq K F v d → DqAll K F vs ds → DqAll K F (v :: vs) (d :: ds)
end
section
variable {K : PySem.W.Frag} {F F' H : Hp}
mutual
theorem Dq.mono (s : Same F F') : ∀ (d : PyData) (v : V), Dq K F v d → Dq K F' v d
  | .none, _, h => by cases h; exact .non
  | .bool b, _, h => by cases h; exact .bl b
  | .int i, _, h => by cases h; exact .int i
  | .str x, _, h => by cases h with | str _ k => exact .str x k
  | .list ds, _, h => by cases h with | lst h1 h2 h3 => exact .lst (s _ _ h1) h2 (DqAll.mono s ds _ h3)
  | .tuple ds, _, h => by cases h with | tup h1 h2 h3 => exact .tup (SqT.same s h1) h2 (DqAll.mono s ds _ h3)
  | .dict _, _, h => by cases h
theorem DqAll.mono (s : Same F F') : ∀ (ds : List PyData) (vs : List V), DqAll K F vs ds → DqAll K F' vs ds
  | [], _, h => by cases h; exact .nil
  | d :: ds, _, h => by cases h with | cons h1 h2 => exact .cons (Dq.mono s d _ h1) (DqAll.mono s ds _ h2)
end
theorem DqAll.length : ∀ {ds : List PyData} {vs : List V}, DqAll K F vs ds → vs.length = ds.length
  | [], _, h => by cases h; rfl
  | d :: ds, _, h => by cases h with | cons h1 h2 => simp [DqAll.length h2]
theorem DqAll.get : ∀ {ds : List PyData} {vs : List V} {i : Nat} {d : PyData}, DqAll K F vs ds → ds[i]? = some d → ∃ v, vs[i]? = some v ∧ Dq K F v d
  | [], _, _, _, _, e => by simp at e
  | _ :: _, _, 0, _, h, e => by cases h with | cons h1 h2 => simp at e; subst e; exact ⟨_, by simp, h1⟩
  | _ :: ds, _, i + 1, _, h, e => by
    cases h with
    | cons h1 h2 =>
      obtain ⟨v, k1, k2⟩ := DqAll.get (i := i) h2 (by simpa using e)
      exact ⟨v, by simpa using k1, k2⟩
end
def rD (K : PySem.W.Frag) : Rl PyData := ⟨fun F v d => Dq K F v d, fun s h => Dq.mono s _ _ h⟩
/-- data that are told by what they are made of -/
structure Dat {α : Type} (K : PySem.W.Frag) (r : Rl α) (enc : α → PyData) : Prop where
  dp : ∀ {F v a}, r.rel F v a → Dq K F v (enc a)
theorem datInt {K : PySem.W.Frag} : Dat K rInt PyData.int := ⟨fun h => by rw [show _ = V.int _ from h]; exact .int _⟩
theorem datBool {K : PySem.W.Frag} : Dat K rBool PyData.bool := ⟨fun h => by rw [show _ = V.bl _ from h]; exact .bl _⟩
theorem datStr {K : PySem.W.Frag} : Dat K rStr PyData.str := ⟨fun h => by rw [h.1]; exact .str _ h.2⟩
theorem datNone {K : PySem.W.Frag} : Dat K rNone (fun _ => PyData.none) := ⟨fun h => by rw [show _ = V.non from h]; exact .non⟩
def encO {α : Type} (enc : α → PyData) : Option α → PyData
  | none => .none
  | some a => enc a
theorem datOpt {α : Type} {K : PySem.W.Frag} {r : Rl α} {enc : α → PyData} (h : Dat K r enc) : Dat K (rOpt r) (encO enc) := ⟨fun {F v a} q => by
  cases a with
  | none => rw [show v = V.non from q]; exact .non
  | some a => exact h.dp q⟩
theorem Dat.all {α : Type} {K : PySem.W.Frag} {r : Rl α} {enc : α → PyData} (h : Dat K r enc) {F : Hp} : ∀ {vs : List V} {l : List α}, All2 (r.rel F) vs l → DqAll K F vs (l.map enc)
  | _, _, .nil => .nil
  | _, _, .cons q t => .cons (h.dp q) (h.all t)
theorem datList {α : Type} {K : PySem.W.Frag} {r : Rl α} {enc : α → PyData} (h : Dat K r enc) : Dat K (rList r) (fun l => .list (l.map enc)) := ⟨fun {F v l} q => by
  obtain ⟨p, vs, rfl, h1, h2, h3⟩ := rList.of q
  exact .lst h1 h2 (h.all h3)⟩
theorem datTup {α : Type} {K : PySem.W.Frag} {r : Rl α} {enc : α → PyData} (h : Dat K r enc) : Dat K (rTup K r) (fun l => .tuple (l.map enc)) := ⟨fun {F v l} q => by
  obtain ⟨p, vs, rfl, h1, h2, h3⟩ := q
  exact .tup h1 h2 (h.all h3)⟩
theorem datPair {α β : Type} {K : PySem.W.Frag} {r : Rl α} {u : Rl β} {e1 : α → PyData} {e2 : β → PyData} (h1 : Dat K r e1) (h2 : Dat K u e2) : Dat K (rPair K r u) (fun x => .tuple [e1 x.1, e2 x.2]) := ⟨fun {F v l} q => by
  obtain ⟨p, a, b, rfl, k1, k2, k3⟩ := q
  exact .tup k1 (by show (2 : Nat) ≤ sizeLine; decide) (.cons (h1.dp k2) (.cons (h2.dp k3) .nil))⟩
theorem datTrip {α β γ : Type} {K : PySem.W.Frag} {r : Rl α} {u : Rl β} {w : Rl γ} {e1 : α → PyData} {e2 : β → PyData} {e3 : γ → PyData} (h1 : Dat K r e1) (h2 : Dat K u e2) (h3 : Dat K w e3) : Dat K (rTrip K r u w) (fun x => .tuple [e1 x.1, e2 x.2.1, e3 x.2.2]) := ⟨fun {F v l} q => by
  obtain ⟨p, a, b, c, rfl, k1, k2, k3, k4⟩ := q
  exact .tup k1 (by show (3 : Nat) ≤ sizeLine; decide) (.cons (h1.dp k2) (.cons (h2.dp k3) (.cons (h3.dp k4) .nil)))⟩
theorem datD {K : PySem.W.Frag} : Dat K (rD K) id := ⟨fun h => h⟩
/-! what a law's own comparison asks of data -/
def isND : PyData → Bool
  | .none => true
  | _ => false
inductive DTy where
  | bool | int | str | list | tuple
def DTy.name : DTy → String
  | .bool => "bool"
  | .int => "int"
  | .str => "str"
  | .list => "list"
  | .tuple => "tuple"
inductive DN where
  | non | bool | int | str | list | tuple
def DN.name : DN → String
  | .non => "NoneType"
  | .bool => "bool"
  | .int => "int"
  | .str => "str"
  | .list => "list"
  | .tuple => "tuple"
def isTN : DTy → DN → Bool
  | .bool, .bool => true
  | .int, .bool => true
  | .int, .int => true
  | .str, .str => true
  | .list, .list => true
  | .tuple, .tuple => true
  | _, _ => false
def dn : PyData → DN
  | .none => .non
  | .bool _ => .bool
  | .int _ => .int
  | .str _ => .str
  | .list _ => .list
  | .tuple _ => .tuple
  | .dict _ => .non
def isT (T : DTy) (d : PyData) : Bool := isTN T (dn d)
theorem kit_isTN : ∀ (T : DTy) (n : DN), kitB n.name T.name = some (isTN T n) := by
  intro T n
  cases T <;> cases n <;> decide +kernel
theorem SqT.tyX {K : PySem.W.Frag} {H : Hp} {a : Addr} {xs : List V} (h : SqT K H a xs) : TyX K H (.ref a) (.type "tuple") := by
  rcases h with (h | ⟨o, h⟩) | ⟨o, its, n, h1, h2, h3, h4, h5⟩
  · exact .base (.tup h)
  · exact .fTuple h
  · exact .kTuple h1 h2
theorem Dq.tyX {K : PySem.W.Frag} {F H : Hp} (s : Same F H) {v : V} {d : PyData} (h : Dq K F v d) : TyX K H v (.type (dn d).name) := by
  cases h with
  | non => exact .base .non
  | bl b => exact .base (.bl b)
  | int i => exact .base (.int i)
  | str x k => exact .base (.str x)
  | lst h1 h2 h3 => exact .base (.lst (s _ _ h1))
  | tup h1 h2 h3 => exact SqT.tyX (SqT.same s h1)
section
variable {c : Cf} {Γ : List Sl} {ta tb tc : TE} {α β : Type}
theorem ev_enc {t : TE} {r : Rl α} {enc : α → PyData} {m : PM α} (d : Dat c.K r enc) (h : Ev c Γ t m r) : Ev c Γ t (m >>= fun a => pure (enc a)) (rD c.K) := fun S σ F H p Q g q =>
  h S σ F H p Q g (q.seq fun a p1 v F1 H1 e1 pl1 r1 h1 => h1.now (g.ext e1 pl1).sub pl1 (d.dp r1))
theorem ev_isND {m : PM PyData} (ha : Ev c Γ ta m (rD c.K)) : Ev c Γ (tOp (fun x y H Q => y = .non ∧ Q (.bl (decide (x = .non))) H) ta (tC .non)) (m >>= fun a => pure (isND a)) rBool := fun S σ F H p Q g q =>
  ha S σ F H p _ g (q.seq fun a p1 v F1 H1 e1 pl1 r1 h1 => by
    refine ⟨rfl, h1.now (g.ext e1 pl1).sub pl1 ?_⟩
    have r2 : Dq c.K F1 v a := r1
    cases r2 <;> rfl)
theorem ev_isT (T : DTy) {m : PM PyData} (ha : Ev c Γ ta m (rD c.K)) : Ev c Γ (tCB (rIsi c.K) (tCons ta (tCons (tC (.ty T.name)) tNil))) (m >>= fun a => pure (isT T a)) rBool := fun S σ F H p Q g q =>
  ha S σ F H p _ g (q.seq fun a p1 v F1 H1 e1 pl1 r1 h1 => ⟨v, .ty T.name, _, _, _, rfl, .ty T.name, Dq.tyX (g.ext e1 pl1).sub r1, kit_ty (kit_isTN T (dn a)), h1.now (g.ext e1 pl1).sub pl1 rfl⟩)
/-- two numbers, two texts, two truth values -/
def eqD : PyData → PyData → PM Bool
  | .bool a, .bool b => pure (decide (a = b))
  | .int a, .int b => pure (decide (a = b))
  | .str a, .str b => pure (decide (a = b))
  | _, _ => stuck
theorem dec_V {α : Type} [DecidableEq α] {f : α → V} (hf : ∀ a b, f a = f b ↔ a = b) (a b : α) : decide (f a = f b) = decide (a = b) := by
  by_cases h : a = b
  · rw [decide_eq_true h, decide_eq_true ((hf a b).mpr h)]
  · rw [decide_eq_false h, decide_eq_false fun z => h ((hf a b).mp z)]
theorem ev_eqD {ma mb : PM PyData} (ha : Ev c Γ ta ma (rD c.K)) (hb : Ev c Γ tb mb (rD c.K)) : Ev c Γ (tOp rEq ta tb) (ma >>= fun a => mb >>= fun b => eqD a b) rBool :=
  ev_op ha hb fun a b S σ F H p x y Q gd hx hy q => by
    have hx' : Dq c.K F x a := hx
    have hy' : Dq c.K F y b := hy
    cases hx' with
    | bl a => cases hy' with
      | bl b => exact ⟨rfl, by rw [dec_V (f := V.bl) (fun _ _ => scBool.inj)]; exact q.now gd.sub gd.pl rfl⟩
      | _ => exact q.elim
    | int a => cases hy' with
      | int b => exact ⟨rfl, by rw [dec_V (f := V.int) (fun _ _ => scInt.inj)]; exact q.now gd.sub gd.pl rfl⟩
      | _ => exact q.elim
    | str a _ => cases hy' with
      | str b _ => exact ⟨rfl, by rw [dec_V (f := V.str) (fun _ _ => scStr.inj)]; exact q.now gd.sub gd.pl rfl⟩
      | _ => exact q.elim
    | non => exact q.elim
    | lst _ _ _ => exact q.elim
    | tup _ _ _ => exact q.elim
def itemsD : PyData → Option (List PyData)
  | .list l => some l
  | .tuple l => some l
  | _ => none
def lenD (d : PyData) : PM Int := match itemsD d with
  | some l => pure (l.length : Int)
  | none => stuck
def getD (d : PyData) (i : Int) : PM PyData := match itemsD d with
  | some l => getM l i
  | none => stuck
theorem Dq.items {K : PySem.W.Frag} {F H : Hp} (s : Same F H) {v : V} {d : PyData} {l : List PyData} (h : Dq K F v d) (e : itemsD d = some l) : ∃ p vs, v = .ref p ∧ (SqL K H p vs ∨ SqT K H p vs) ∧ DqAll K F vs l := by
  cases h with
  | lst h1 h2 h3 =>
    obtain rfl := Option.some.inj e
    exact ⟨_, _, rfl, .inl (SqL.of (s _ _ h1)), h3⟩
  | tup h1 h2 h3 =>
    obtain rfl := Option.some.inj e
    exact ⟨_, _, rfl, .inr (SqT.same s h1), h3⟩
  | _ => cases e
theorem ev_lenD {m : PM PyData} (ha : Ev c Γ ta m (rD c.K)) : Ev c Γ (tCB (rLenQ c.K) (tCons ta tNil)) (m >>= fun d => lenD d) rInt := fun S σ F H p Q g q =>
  ha S σ F H p _ g (q.seq fun a p1 v F1 H1 e1 pl1 r1 h1 => by
    unfold lenD at h1
    cases e : itemsD a with
    | none => rw [e] at h1; exact h1.elim
    | some l =>
      rw [e] at h1
      obtain ⟨x, vs, rfl, k1, k2⟩ := Dq.items (g.ext e1 pl1).sub r1 e
      refine ⟨x, vs, rfl, k1, ?_⟩
      rw [k2.length]
      exact h1.now (g.ext e1 pl1).sub pl1 rfl)
theorem ev_ixD {ma : PM PyData} {mb : PM Int} (ha : Ev c Γ ta ma (rD c.K)) (hb : Ev c Γ tb mb rInt) : Ev c Γ (tOp (fun x y H Q => rIxL c.K x y H Q ∨ rIxT c.K x y H Q) ta tb) (ma >>= fun a => mb >>= fun i => getD a i) (rD c.K) :=
  ev_op ha hb fun a i S σ F H p x y Q gd hx hy q => by
    unfold getD at q
    cases e : itemsD a with
    | none => rw [e] at q; exact q.elim
    | some l =>
      rw [e] at q
      obtain ⟨x, vs, rfl, k1, k2⟩ := Dq.items gd.sub hx e
      have q' : Post c σ F H (rD c.K) Q (getM l i p) := q
      unfold getM at q'
      cases e2 : L2.atI l i with
      | none => rw [e2] at q'; exact q'.elim
      | some d =>
        rw [e2] at q'
        have ⟨w, h4, h5⟩ : ∃ w, L2.atI vs i = some w ∧ Dq c.K F w d := by
          unfold L2.atI at e2 ⊢
          rw [k2.length]
          cases z : ixN l.length i with
          | none => rw [z] at e2; cases e2
          | some j =>
            rw [z] at e2
            exact k2.get (i := j) e2
        rcases k1 with k1 | k1
        · exact .inl ⟨x, vs, i, w, rfl, hy, k1, h4, q'.now gd.sub gd.pl h5⟩
        · exact .inr ⟨x, vs, i, w, rfl, hy, k1, h4, q'.now gd.sub gd.pl h5⟩
end
end Kf

set_option maxHeartbeats 4000000
namespace Kf
open PySem PySem.Spec L2
open PyProof.Rows hiding St
section
variable {c : Cf} {Γ : List Sl} {ta tb : TE} {α β γ ρ : Type} {rr : Rl ρ}
theorem es_pre {Δ : List Sl} {t : TS} {m : PM β} {Γ' : β → List Sl} (w : Wk Γ Δ) (h : Es c Δ t m Γ') : Es c Γ t m Γ' := fun S σ F H p D g q => h S σ F H p D (w.good g) q
theorem ef_pre {Δ : List Sl} {t : TS} {m : PM (Fl β ρ)} {Γ' : β → List Sl} (w : Wk Γ Δ) (h : Ef c rr Δ t m Γ') : Ef c rr Γ t m Γ' := fun S σ F H p D g q => h S σ F H p D (w.good g) q
theorem ef_guard {tt : TT} {t u : TS} {mt : PM Bool} {m1 : PM ρ} {m2 : PM (Fl β ρ)} {Γ' : β → List Sl} (ht : Et c Γ tt mt) (h1 : El c rr False Γ t m1) (h2 : Ef c rr Γ u m2 Γ') : Ef c rr Γ (tSeq (tIfS tt t tNext) u) (mt >>= fun b => if b = true then m1 >>= fun a => pure (.rt a) else m2) Γ' := fun S σ F H p D g q =>
  ht S σ F H p _ g (q.seqT g fun a p1 F1 H1 g1 q1 => by
    by_cases hg : a = true
    · rw [if_pos hg] at q1 ⊢
      refine h1 S σ F1 H1 p1 _ g1 (fun z => z.elim) ?_
      rw [run_bind] at q1
      rcases e : m1 p1 with ⟨_ | a, p2⟩
      · rw [e] at q1; rename_i er; cases er <;> exact q1
      · rw [e] at q1; exact q1
    · rw [if_neg hg] at q1 ⊢; exact h2 S σ F1 H1 p1 D g1 q1)
/-! ### membership among flat things -/
theorem All2.memS {r : Rl α} {f : α → V} (sc : Scal r f) [DecidableEq α] {F : Hp} (hf : ∀ a, flatV (f a) = true) (he : ∀ a b, eqV (f a) (f b) = decide (a = b)) : ∀ {vs : List V} {l : List α} (a : α), All2 (r.rel F) vs l → vs.all flatV = true ∧ inV (f a) vs = decide (a ∈ l)
  | _, _, a, .nil => ⟨rfl, by simp [inV]⟩
  | v :: vs, b :: l, a, .cons h t => by
    obtain ⟨k1, k2⟩ := All2.memS sc hf he a t
    have hv := sc.v h
    subst hv
    refine ⟨by rw [List.all_cons, hf, k1]; rfl, ?_⟩
    unfold inV at k2 ⊢
    rw [List.any_cons, k2, he]
    by_cases e : a = b
    · subst e; simp
    · have e' : ¬ b = a := fun z => e z.symm
      simp [e, e']
theorem eqV_str (a b : Str) : eqV (.str a) (.str b) = decide (a = b) := by
  show _ = _
  first | rfl | (unfold eqV; simp)
theorem eqV_int (a b : Int) : eqV (.int a) (.int b) = decide (a = b) := by
  show _ = _
  first | rfl | (unfold eqV; simp)
structure ScalF {α : Type} [DecidableEq α] (r : Rl α) (f : α → V) : Prop extends Scal r f where
  flat : ∀ a, flatV (f a) = true
  eq : ∀ a b, eqV (f a) (f b) = decide (a = b)
theorem sfStr : ScalF rStr V.str := ⟨scStr, fun _ => rfl, eqV_str⟩
theorem sfInt : ScalF rInt V.int := ⟨scInt, fun _ => rfl, eqV_int⟩
theorem ev_inL [DecidableEq α] {r : Rl α} {f : α → V} (sc : ScalF r f) {ma : PM α} {mb : PM (List α)} (ha : Ev c Γ ta ma r) (hb : Ev c Γ tb mb (rList r)) : Ev c Γ (tOp (rIn c.K false) ta tb) (ma >>= fun a => mb >>= fun l => pure (decide (a ∈ l))) rBool :=
  ev_op ha hb fun a l S σ F H p x y Q gd hx hy q => by
    obtain ⟨z, vs, rfl, k1, k2, k3⟩ := rList.of hy
    obtain ⟨j1, j2⟩ := All2.memS sc.toScal sc.flat sc.eq a k3
    rw [sc.v hx]
    refine ⟨z, vs, rfl, .inl (SqL.of (gd.sub _ _ k1)), sc.flat a, j1, ?_⟩
    rw [if_neg Bool.false_ne_true, j2]
    exact q.now gd.sub gd.pl rfl
theorem ev_inT [DecidableEq α] {r : Rl α} {f : α → V} (sc : ScalF r f) {ma : PM α} {mb : PM (List α)} (ha : Ev c Γ ta ma r) (hb : Ev c Γ tb mb (rTup c.K r)) : Ev c Γ (tOp (rIn c.K false) ta tb) (ma >>= fun a => mb >>= fun l => pure (decide (a ∈ l))) rBool :=
  ev_op ha hb fun a l S σ F H p x y Q gd hx hy q => by
    obtain ⟨z, vs, rfl, k1, k2, k3⟩ := hy
    obtain ⟨j1, j2⟩ := All2.memS sc.toScal sc.flat sc.eq a k3
    rw [sc.v hx]
    refine ⟨z, vs, rfl, .inr (SqT.same gd.sub k1), sc.flat a, j1, ?_⟩
    rw [if_neg Bool.false_ne_true, j2]
    exact q.now gd.sub gd.pl rfl
theorem ev_ninL [DecidableEq α] {r : Rl α} {f : α → V} (sc : ScalF r f) {ma : PM α} {mb : PM (List α)} (ha : Ev c Γ ta ma r) (hb : Ev c Γ tb mb (rList r)) : Ev c Γ (tOp (rIn c.K true) ta tb) (ma >>= fun a => mb >>= fun l => pure (!decide (a ∈ l))) rBool :=
  ev_op ha hb fun a l S σ F H p x y Q gd hx hy q => by
    obtain ⟨z, vs, rfl, k1, k2, k3⟩ := rList.of hy
    obtain ⟨j1, j2⟩ := All2.memS sc.toScal sc.flat sc.eq a k3
    rw [sc.v hx]
    refine ⟨z, vs, rfl, .inl (SqL.of (gd.sub _ _ k1)), sc.flat a, j1, ?_⟩
    rw [if_pos rfl, j2]
    exact q.now gd.sub gd.pl rfl
theorem ev_ninT [DecidableEq α] {r : Rl α} {f : α → V} (sc : ScalF r f) {ma : PM α} {mb : PM (List α)} (ha : Ev c Γ ta ma r) (hb : Ev c Γ tb mb (rTup c.K r)) : Ev c Γ (tOp (rIn c.K true) ta tb) (ma >>= fun a => mb >>= fun l => pure (!decide (a ∈ l))) rBool :=
  ev_op ha hb fun a l S σ F H p x y Q gd hx hy q => by
    obtain ⟨z, vs, rfl, k1, k2, k3⟩ := hy
    obtain ⟨j1, j2⟩ := All2.memS sc.toScal sc.flat sc.eq a k3
    rw [sc.v hx]
    refine ⟨z, vs, rfl, .inr (SqT.same gd.sub k1), sc.flat a, j1, ?_⟩
    rw [if_pos rfl, j2]
    exact q.now gd.sub gd.pl rfl
/-! ### truth -/
def tTruth (K : PySem.W.Frag) (ta : TE) : TT := fun σ H Q => ta σ H fun x H' => ∃ k, TruV K x H' k ∧ Q k H'
theorem et_truL {r : Rl α} {ma : PM (List α)} (ha : Ev c Γ ta ma (rList r)) : Et c Γ (fun σ H Q => ta σ H fun x H' => ∃ k, TruV c.K x H' k ∧ Q k H') (ma >>= fun l => pure (!l.isEmpty)) := fun S σ F H p Q g q =>
  ha S σ F H p _ g (q.seq fun a p1 v F1 H1 e1 pl1 r1 h1 => by
    obtain ⟨z, vs, rfl, k1, k2, k3⟩ := rList.of r1
    refine ⟨_, .inl ⟨vs, SqL.of ((g.ext e1 pl1).sub _ _ k1), rfl⟩, ?_⟩
    have e : vs.isEmpty = a.isEmpty := by cases k3 <;> rfl
    rw [e]
    exact Post.now (v := V.bl (!a.isEmpty)) h1 (g.ext e1 pl1).sub pl1 rfl _ rfl)
theorem et_truT {r : Rl α} {ma : PM (List α)} (ha : Ev c Γ ta ma (rTup c.K r)) : Et c Γ (fun σ H Q => ta σ H fun x H' => ∃ k, TruV c.K x H' k ∧ Q k H') (ma >>= fun l => pure (!l.isEmpty)) := fun S σ F H p Q g q =>
  ha S σ F H p _ g (q.seq fun a p1 v F1 H1 e1 pl1 r1 h1 => by
    obtain ⟨z, vs, rfl, k1, k2, k3⟩ := r1
    refine ⟨_, .inr (.inl ⟨vs, SqT.same (g.ext e1 pl1).sub k1, rfl⟩), ?_⟩
    have e : vs.isEmpty = a.isEmpty := by cases k3 <;> rfl
    rw [e]
    exact Post.now (v := V.bl (!a.isEmpty)) h1 (g.ext e1 pl1).sub pl1 rfl _ rfl)
theorem et_truO (i : Nat) {r : Rl α} {l : List α} (h : nth Γ i = .own (oList r) l) : Et c Γ (fun σ H Q => tVar i σ H fun x H' => ∃ k, TruV c.K x H' k ∧ Q k H') (pure (!l.isEmpty)) := fun S σ F H p Q g q => by
  obtain ⟨x, ho, h1, h2, ⟨vs, rfl, k2, k3⟩, _⟩ := g.sl.own h
  refine ⟨_, h1, _, .inl ⟨vs, SqL.of h2, rfl⟩, ?_⟩
  have e : vs.isEmpty = l.isEmpty := by cases k3 <;> rfl
  rw [e]
  exact Post.now (v := V.bl (!l.isEmpty)) q g.sub g.pl rfl _ rfl
/-- an item of an own list -/
theorem ev_ixO (i : Nat) {r : Rl α} {l : List α} (h : nth Γ i = .own (oList r) l) {mb : PM Int} (hb : Ev c Γ tb mb rInt) : Ev c Γ (tOp (rIxL c.K) (tVar i) tb) (mb >>= fun k => getM l k) r := fun S σ F H p Q g q => by
  obtain ⟨x, ho, h1, h2, ⟨vs, rfl, k2, k3⟩, hm⟩ := g.sl.own h
  refine ⟨_, h1, hb S σ F H p _ g (q.seq fun a p1 v F1 H1 e1 pl1 r1 h3 => ?_)⟩
  unfold getM at h3
  cases e : L2.atI l a with
  | none => rw [e] at h3; exact h3.elim
  | some b =>
    rw [e] at h3
    obtain ⟨w, h4, h5⟩ := k3.atI e
    have hx : H1 x = some (.lst vs) := e1.keep x _ h2 (g.oq x hm)
    exact ⟨x, vs, a, w, rfl, r1, SqL.of hx, h4, h3.now (g.ext e1 pl1).sub pl1 (r.mono e1.sub h5)⟩
end
end Kf
namespace Kf
open PySem PySem.Spec L2
open PyProof.Rows hiding St
/-- no value of this kind is None -/
structure NN {α : Type} (r : Rl α) : Prop where
  ne : ∀ {F v a}, r.rel F v a → v ≠ .non
theorem nnInt : NN rInt := ⟨fun h z => by rw [show _ = V.int _ from h] at z; cases z⟩
theorem nnStr : NN rStr := ⟨fun h z => by rw [h.1] at z; cases z⟩
theorem nnFz {α : Type} {r : Ro α} : NN (fz r) := ⟨fun h z => by obtain ⟨p, ho, e, _⟩ := h; rw [e] at z; cases z⟩
theorem nnTup {α : Type} {K : PySem.W.Frag} {r : Rl α} : NN (rTup K r) := ⟨fun h z => by obtain ⟨p, ho, e, _⟩ := h; rw [e] at z; cases z⟩
theorem nnPair {α β : Type} {K : PySem.W.Frag} {r : Rl α} {u : Rl β} : NN (rPair K r u) := ⟨fun h z => by obtain ⟨p, a, b, e, _⟩ := h; rw [e] at z; cases z⟩
theorem nnTrip {α β γ : Type} {K : PySem.W.Frag} {r : Rl α} {u : Rl β} {w : Rl γ} : NN (rTrip K r u w) := ⟨fun h z => by obtain ⟨p, a, b, c, e, _⟩ := h; rw [e] at z; cases z⟩
section
variable {P : Program} {w : World} {K : PySem.W.Frag} {mg : Str → Option Value} {base : Heap} {A α : Type}
theorem never0 {CX : CXT} {f : Addr} {fd : FuncData} {ps : List Str} {ra : Ra A} {m : A → PM α} {r : Rl α} {Γ : A → List Sl} {n : Nat} (hb : Bd ra Γ n) (hn : ps.length = n) (hs : ∀ a, m a = stuck) : FnOk P w K mg base CX 0 f fd ps (spF K ra m r) := by
  refine ⟨fun vs H Q E h => ?_, fun A outer s H args us vs Q E _ _ _ _ h => ?_⟩
  · obtain ⟨F, a, p, _, h2, _⟩ := h
    rw [(hb F H vs a 0 h2).1, hn]
  · obtain ⟨F, a, p, _, _, h⟩ := h
    rw [hs a] at h
    exact h.elim
/-- a def of the law's own makes the pool -/
theorem spPool_len {vs : List V} {H : Hp} {Q : VK} {E : XK} (h : spPool K vs H Q E) : vs.length = 1 := by
  obtain ⟨a, ns, rfl, _⟩ := h
  rfl
end
section
variable {c : Cf} {Γ : List Sl} {ta tb : TE} {α β γ ρ : Type} {r : Rl ρ}
theorem el_nilO {fall : Prop} (hf : fall) : El c (rOpt r) fall Γ tNext (pure none) := fun S σ F H p D g k q => k hf σ H (q .non F H g.ent g.pl rfl)
theorem el_retNO {fall : Prop} : El c (rOpt r) fall Γ tRetN (pure none) := fun S σ F H p D g _ q => q .non F H g.ent g.pl rfl
theorem el_oneO {t : TS} {m : PM α} {Γ1 : α → List Sl} {fall : Prop} (hf : fall) (h : Es c Γ t m Γ1) : El c (rOpt r) fall Γ t (m >>= fun _ => pure none) := fun S σ F H p D g k q =>
  h S σ F H p D g (by
    rw [run_bind] at q
    rcases e : m p with ⟨_ | a, p1⟩
    · rw [e] at q; rename_i er; cases er <;> exact q
    · rw [e] at q
      exact fun σ1 F1 H1 g1 => k hf σ1 H1 (q .non F1 H1 g1.ent g1.pl rfl))
theorem el_oneFO {t : TS} {m : PM (Fl α (Option ρ))} {Γ1 : α → List Sl} {fall : Prop} (hf : fall) (h : Ef c (rOpt r) Γ t m Γ1) : El c (rOpt r) fall Γ t (m >>= orElse fun _ => pure none) := fun S σ F H p D g k q =>
  h S σ F H p D g (by
    rw [run_bind] at q
    rcases e : m p with ⟨_ | a, p1⟩
    · rw [e] at q; rename_i er; cases er <;> exact q
    · rw [e] at q
      cases a with
      | nx b => exact fun σ1 F1 H1 g1 => k hf σ1 H1 (q .non F1 H1 g1.ent g1.pl rfl)
      | rt a => exact q)
end
end Kf

/-! plain mathematics over the mirror monad -/
namespace Kf
open PySem PySem.Spec L2
open PyProof.Rows hiding St
/-- m goes well from every pool whose place is no less than nought, and its result is as Q says -/
def Dr {α : Type} (m : PM α) (Q : α → Prop) : Prop := ∀ p : Pool, 0 ≤ p.pos → ∃ a p', m p = (.ok a, p') ∧ 0 ≤ p'.pos ∧ Q a
theorem Dr.pure {α : Type} {Q : α → Prop} {a : α} (h : Q a) : Dr (pure a : PM α) Q := fun p hp => ⟨a, p, rfl, hp, h⟩
theorem Dr.bind {α β : Type} {m : PM α} {f : α → PM β} {Q : α → Prop} {R : β → Prop} (h : Dr m Q) (k : ∀ a, Q a → Dr (f a) R) : Dr (m >>= f) R := fun p hp => by
  obtain ⟨a, p', e, hp', q⟩ := h p hp
  obtain ⟨b, p2, e2, hp2, r⟩ := k a q p' hp'
  exact ⟨b, p2, by rw [run_bind, e]; exact e2, hp2, r⟩
theorem Dr.imp {α : Type} {m : PM α} {Q R : α → Prop} (h : Dr m Q) (k : ∀ a, Q a → R a) : Dr m R := fun p hp => by
  obtain ⟨a, p', e, hp', q⟩ := h p hp
  exact ⟨a, p', e, hp', k a q⟩
theorem Dr.ite {α : Type} {c : Prop} [Decidable c] {m n : PM α} {Q : α → Prop} (h : c → Dr m Q) (k : ¬ c → Dr n Q) : Dr (if c then m else n) Q := by
  split
  · exact h ‹_›
  · exact k ‹_›
theorem Dr.eq {α : Type} {m n : PM α} {Q : α → Prop} (e : m = n) (h : Dr n Q) : Dr m Q := e ▸ h
theorem Dr.guard {α : Type} {C : Prop} [Decidable C] {a : α} {Q : α → Prop} (h : C) (q : Q a) : Dr (guardM C a) Q := by
  rw [guardM_pos h]; exact .pure q
theorem Dr.frame {α : Type} {m : PM α} {Q : α → Prop} (h : Dr m Q) : Dr (Kf.frame m) Q := fun p hp => by
  obtain ⟨a, p', e, hp', q⟩ := h p hp
  exact ⟨a, p, by unfold Kf.frame; rw [e], hp, q⟩
theorem Dr.poolGet (k : Nat) : Dr (Kf.poolGet k) (fun v => k = 1 → 0 ≤ v) := fun p hp => ⟨_, p, rfl, hp, by rintro rfl; exact hp⟩
theorem Dr.poolSet (k : Nat) {v : Int} (h : k = 1 → 0 ≤ v) : Dr (Kf.poolSet k v) (fun _ => True) := fun p hp => ⟨(), _, rfl, by
  match k, h with
  | 0, _ => exact hp
  | 1, h => exact h rfl
  | 2, _ => exact hp
  | 3, _ => exact hp
  | _ + 4, _ => exact hp, trivial⟩
theorem Dr.forA {α β : Type} {f : α → β → PM β} {I : β → Prop} : ∀ {l : List α} {b : β}, I b → (∀ a ∈ l, ∀ b, I b → Dr (f a b) I) → Dr (Kf.forA f l b) I
  | [], b, h, _ => .pure h
  | a :: l, b, h, k => .bind (k a (by simp) b h) fun b' hb => Dr.forA hb fun a ha => k a (by simp [ha])
/-- with the walked part at hand -/
theorem Dr.forAn {α β : Type} {f : α → β → PM β} {I : Nat → β → Prop} {n : Nat} : ∀ {l : List α} {b : β} {k : Nat}, l.length + k = n → I k b → (∀ a ∈ l, ∀ j b, j < n → I j b → Dr (f a b) (I (j + 1))) → Dr (Kf.forA f l b) (I n)
  | [], b, k, e, h, _ => .pure (by simp at e; subst e; exact h)
  | a :: l, b, k, e, h, g => .bind (g a (by simp) k b (by simp at e; omega) h) fun b' hb => Dr.forAn (k := k + 1) (by simp at e; omega) hb fun a ha => g a (by simp [ha])
theorem forA_pure {α β : Type} {f : α → β → PM β} {g : β → α → β} : ∀ {l : List α} {b : β}, (∀ a ∈ l, ∀ b, f a b = pure (g b a)) → forA f l b = pure (l.foldl g b)
  | [], b, _ => rfl
  | a :: l, b, h => by
    show (f a b >>= fun b' => forA f l b') = _
    rw [h a (by simp), pure_bind]
    exact forA_pure fun a ha => h a (by simp [ha])
theorem forF_nx {α β ρ : Type} {f : α → β → PM (Fl β ρ)} {b : β} : ∀ {l : List α}, (∀ a ∈ l, f a b = pure (.nx b)) → forF f l b = pure (.nx b)
  | [], _ => rfl
  | a :: l, h => by
    show (f a b >>= andThen fun b' => forF f l b') = _
    rw [h a (by simp), pure_bind]
    exact forF_nx fun a ha => h a (by simp [ha])
/-- a walk that leaves with r at the first that fails -/
theorem forF_all {α ρ : Type} {f : α → Unit → PM (Fl Unit ρ)} {t : α → Bool} {r : ρ} : ∀ {l : List α}, (∀ a ∈ l, f a () = pure (if t a = true then .nx () else .rt r)) → forF f l () = pure (if l.all t = true then .nx () else .rt r)
  | [], _ => rfl
  | a :: l, h => by
    show (f a () >>= andThen fun b' => forF f l b') = _
    rw [h a (by simp), pure_bind]
    cases e : t a with
    | false => simp [e, andThen]
    | true =>
      rw [if_pos rfl]
      show forF f l () = _
      rw [forF_all fun a ha => h a (by simp [ha])]
      simp [e]
theorem Dr.forF {α β ρ : Type} {f : α → β → PM (Fl β ρ)} {I : β → Prop} : ∀ {l : List α} {b : β}, I b → (∀ a ∈ l, ∀ b, I b → Dr (f a b) (fun x => ∃ b', x = .nx b' ∧ I b')) → Dr (Kf.forF f l b) (fun x => ∃ b', x = .nx b' ∧ I b')
  | [], b, h, _ => .pure ⟨b, rfl, h⟩
  | a :: l, b, h, k => .bind (k a (by simp) b h) fun x hx => by
    obtain ⟨b', rfl, hb⟩ := hx
    exact Dr.forF hb fun a ha => k a (by simp [ha])
theorem compE_pure {α β : Type} {e : α → PM β} {g : α → β} : ∀ {l : List α}, (∀ a ∈ l, e a = pure (g a)) → compE e l = pure (l.map g)
  | [], _ => rfl
  | a :: l, h => by
    unfold compE
    rw [h a (by simp), noX_pure, pure_bind, compE_pure fun a ha => h a (by simp [ha])]
    rfl
theorem compF_pure {α β : Type} {t : α → PM Bool} {e : α → PM β} {u : α → Bool} {g : α → β} : ∀ {l : List α}, (∀ a ∈ l, t a = pure (u a)) → (∀ a ∈ l, u a = true → e a = pure (g a)) → compF t e l = pure ((l.filter u).map g)
  | [], _, _ => rfl
  | a :: l, h, k => by
    unfold compF
    rw [h a (by simp), noX_pure, pure_bind, compF_pure (fun a ha => h a (by simp [ha])) fun a ha => k a (by simp [ha])]
    cases hu : u a with
    | false => simp [hu]
    | true =>
      rw [if_pos rfl, k a (by simp) hu, noX_pure, pure_bind, pure_bind]
      simp [hu]
theorem sized_pure {α : Type} {l : List α} (h : l.length ≤ sizeLine) : sized (pure l : PM (List α)) = pure l := by
  unfold sized
  rw [pure_bind, guardM_pos h]
theorem Dr.run {α : Type} {m : PM α} {a : α} (h : Dr m (fun x => x = a)) {p : Pool} (hp : 0 ≤ p.pos) : ∃ p', m p = (.ok a, p') := by
  obtain ⟨b, p', e, _, rfl⟩ := h p hp
  exact ⟨p', e⟩
/-! ### texts, as lists of signs -/
abbrev sl : Nat := sizeLine
theorem sizeLine_val : sizeLine = 16777216 := by decide
def tx (x : Str) : List Nat := x.cps.toList
theorem tx_inj {x y : Str} (h : tx x = tx y) : x = y := by
  obtain ⟨a⟩ := x; obtain ⟨b⟩ := y
  congr 1
  exact Array.toList_inj.mp h
theorem len_tx (x : Str) : x.length = (tx x).length := by
  show x.cps.size = x.cps.toList.length
  simp
theorem tx_app (x y : Str) : tx (x ++ y) = tx x ++ tx y := by
  show (x.cps ++ y.cps).toList = _
  simp [tx]
def chr1 (c : Nat) : Str := ⟨#[c]⟩
theorem tx_chr1 (c : Nat) : tx (chr1 c) = [c] := rfl
theorem len_chr1 (c : Nat) : (chr1 c).length = 1 := rfl
theorem getS_in {x : Str} {i : Int} (h0 : 0 ≤ i) (h1 : i < x.length) : ∃ c, (tx x)[i.toNat]? = some c ∧ getS x i = pure (chr1 c) := by
  have hl : i.toNat < (tx x).length := by rw [← len_tx]; omega
  refine ⟨_, List.getElem?_eq_getElem hl, ?_⟩
  unfold getS atI ixN
  have e : x.cps.toList.length = (tx x).length := rfl
  rw [if_pos h0, if_pos (by rw [e, ← len_tx]; exact h1)]
  show (match x.cps.toList[i.toNat]? with | some ch => _ | none => _) = _
  rw [show x.cps.toList[i.toNat]? = some ((tx x)[i.toNat]) from List.getElem?_eq_getElem hl]
  rfl
theorem inSign_chr (c : Nat) (z : Str) : inSign (chr1 c) z = pure (decide (c ∈ tx z)) := rfl
theorem signsL_eq (x : Str) : signsL x = (tx x).map chr1 := rfl
theorem catS_ok {x y : Str} (h : x.length + y.length ≤ 16777216) : catS x y = pure (x ++ y) := guardM_pos (by rw [sizeLine_val]; exact h)
theorem modM_ok {a b : Int} (h : 0 < b) : modM a b = pure (a % b) := guardM_pos h
theorem divM_ok {a b : Int} (h : 0 < b) (h2 : b < 1073741824) : divM a b = pure (a / b) := guardM_pos ⟨h, h2⟩
theorem mulM_l {a b : Int} (h : -(2 ^ 64) < a) (h2 : a < 2 ^ 64) : mulM a b = pure (a * b) := guardM_pos (.inl ⟨h, h2⟩)
theorem mulM_r {a b : Int} (h : -(2 ^ 64) < b) (h2 : b < 2 ^ 64) : mulM a b = pure (a * b) := guardM_pos (.inr ⟨h, h2⟩)
theorem rangeM_ok {a b : Int} (h1 : -(2 ^ 62) ≤ a) (h2 : a < 2 ^ 62) (h3 : -(2 ^ 62) ≤ b) (h4 : b < 2 ^ 62) : rangeM a b = pure (irange a b) := guardM_pos ⟨h1, h2, h3, h4⟩
theorem irange_length (a b : Int) : (irange a b).length = (b - a).toNat := by simp [irange]
theorem mem_irange {a b i : Int} : i ∈ irange a b ↔ a ≤ i ∧ i < b := by
  simp only [irange, List.mem_map, List.mem_range]
  constructor
  · rintro ⟨n, hn, rfl⟩; omega
  · rintro ⟨h, k⟩; exact ⟨(i - a).toNat, by omega, by omega⟩
theorem getM_in {α : Type} {l : List α} {i : Int} (h0 : 0 ≤ i) (h1 : i < l.length) : ∃ a, l[i.toNat]? = some a ∧ getM l i = pure a := by
  have hl : i.toNat < l.length := by omega
  refine ⟨_, List.getElem?_eq_getElem hl, ?_⟩
  unfold getM atI ixN
  rw [if_pos h0, if_pos h1]
  show (match l[i.toNat]? with | some a => _ | none => _) = _
  rw [List.getElem?_eq_getElem hl]
theorem appM_ok {α : Type} {l : List α} {a : α} (h : l.length < 16777216) : appM l a = pure (l ++ [a]) := guardM_pos (by rw [sizeLine_val]; exact h)
theorem catL_ok {α : Type} {a b : List α} (h : a.length + b.length ≤ 16777216) : catL a b = pure (a ++ b) := guardM_pos (by rw [sizeLine_val]; exact h)
theorem tx_cutS (x : Str) (lo hi : Option Int) : tx (cutS x lo hi) = ((tx x).drop (HT.sIx x.length 0 lo)).take (HT.sIx x.length x.length hi - HT.sIx x.length 0 lo) := by
  unfold cutS
  simp [tx]
theorem Dr.item {α : Type} {Q : α → Prop} {A : PM α} {K : Int → PM α} (hA : Dr A Q) (hK : ∀ v, Dr (K v) Q) : Dr (Kf.poolGet 1 >>= fun x => poolScr >>= fun x1 => if decide ((x1.length : Int) ≤ x) = true then A else poolScr >>= fun y => Kf.poolGet 1 >>= fun z => getM y z >>= K) Q := fun p hp => by
  show ∃ a p', (if decide ((p.scr.length : Int) ≤ p.pos) = true then A else poolScr >>= fun y => Kf.poolGet 1 >>= fun z => getM y z >>= K) p = (.ok a, p') ∧ _
  by_cases h : (p.scr.length : Int) ≤ p.pos
  · rw [if_pos (decide_eq_true h)]
    exact hA p hp
  · rw [if_neg (by simpa using h)]
    obtain ⟨a, _, e⟩ := getM_in (l := p.scr) (i := p.pos) hp (by omega)
    show ∃ a p', (getM p.scr p.pos >>= K) p = (.ok a, p') ∧ _
    rw [e]
    exact hK a p hp
theorem powM_ok {a b : Int} (h : 0 ≤ b ∧ b ≤ 1000000 ∧ a.natAbs < 2 ^ 64) : powM a b = pure (a ^ b.toNat) := guardM_pos h
theorem len_app (x y : Str) : (x ++ y).length = x.length + y.length := length_app x y
theorem Dr.catS {x y : Str} {m n : Nat} (hx : x.length ≤ m) (hy : y.length ≤ n) (h : m + n ≤ 16777216) : Dr (Kf.catS x y) (fun z => z.length ≤ m + n) := by
  rw [catS_ok (by omega)]
  exact .pure (by rw [len_app]; omega)
theorem len_cut {x : Str} {m : Nat} {lo hi : Option Int} (h : x.length ≤ m) : (cutS x lo hi).length ≤ m := by
  rw [len_tx, tx_cutS, List.length_take, List.length_drop, ← len_tx]
  omega
theorem Dr.catL {α : Type} {x y : List α} {m n : Nat} (hx : x.length ≤ m) (hy : y.length ≤ n) (h : m + n ≤ 16777216) : Dr (Kf.catL x y) (fun z => z.length ≤ m + n) := by
  rw [catL_ok (by omega)]
  exact .pure (by rw [List.length_append]; omega)
theorem Dr.appM {α : Type} {x : List α} {a : α} {m : Nat} (hx : x.length ≤ m) (h : m < 16777216) : Dr (Kf.appM x a) (fun z => z.length ≤ m + 1) := by
  rw [appM_ok (by omega)]
  exact .pure (by rw [List.length_append]; simp; omega)
theorem irange0 (b : Int) : irange 0 b = (List.range b.toNat).map fun (i : Nat) => (i : Int) := by
  unfold irange
  simp
end Kf

namespace My
open PySem PySem.Spec L2 Kf
open PyProof.Rows hiding St
def m_law_draw (bound_0 : Int) : PM Int :=
  (((pure bound_0) >>= fun a => (pure 2) >>= fun b => pure (decide (a < b))) >>= fun c => if c = true then (pure 0) else ((((poolGet 3) >>= fun a => (pure 1) >>= fun b => pure (decide (a < b))) >>= fun c => if c = true then (((poolGet 1) >>= fun a => (poolScr >>= fun x => pure (x.length : Int)) >>= fun b => pure (decide (b ≤ a))) >>= fun c => if c = true then (pure 0) >>= fun a => pure (.rt a) else ((((poolScr >>= fun l => (poolGet 1) >>= fun i => getM l i) >>= fun i => pure (if i < 0 then -i else i)) >>= fun v => poolSet 2 v) >>= fun _ => ((((poolGet 1) >>= fun a => (pure 1) >>= fun b => pure (a + b)) >>= fun v => poolSet 1 v) >>= fun _ => (((pure 6) >>= fun v => poolSet 3 v) >>= fun _ => (((pure 0) >>= fun v => poolSet 4 v) >>= fun _ => (((((poolGet 2) >>= fun a => ((pure 10) >>= fun a => (pure 18) >>= fun b => powM a b) >>= fun b => pure (decide (b ≤ a))) >>= fun c => if c = true then (((pure 60) >>= fun v => poolSet 3 v) >>= fun _ => (((pure 1) >>= fun v => poolSet 4 v) >>= fun _ => pure ())) else (pure () >>= fun _ => pure ())) >>= fun b_2 => pure ()) >>= fun b => pure (.nx b))))))) else ((pure () >>= fun _ => pure ()) >>= fun b => pure (.nx b))) >>= orElse fun b_1 => ((((poolGet 3) >>= fun a => (pure 1) >>= fun b => pure (a - b)) >>= fun v => poolSet 3 v) >>= fun _ => (((poolGet 4) >>= fun a => (pure 1) >>= fun b => pure (decide (a = b))) >>= fun c => if c = true then (((poolGet 2) >>= fun a => (pure bound_0) >>= fun b => modM a b) >>= fun found_3 => ((((poolGet 2) >>= fun a => (pure bound_0) >>= fun b => divM a b) >>= fun v => poolSet 2 v) >>= fun _ => ((((poolGet 2) >>= fun a => (pure 1) >>= fun b => pure (decide (a < b))) >>= fun c => if c = true then (((pure 0) >>= fun v => poolSet 3 v) >>= fun _ => pure ()) else (pure () >>= fun _ => pure ())) >>= fun b_4 => (pure found_3)))) else (((poolGet 2) >>= fun a => (pure 1000003) >>= fun b => modM a b) >>= fun near_5 => ((((((pure near_5) >>= fun a => (pure 48271) >>= fun b => mulM a b) >>= fun a => ((poolGet 3) >>= fun a => (pure 69621) >>= fun b => mulM a b) >>= fun b => pure (a + b)) >>= fun a => ((poolGet 1) >>= fun a => (pure 7919) >>= fun b => mulM a b) >>= fun b => pure (a + b)) >>= fun a => (pure 2147483647) >>= fun b => modM a b) >>= fun mixed_6 => ((((((pure mixed_6) >>= fun a => (pure 40692) >>= fun b => mulM a b) >>= fun a => ((pure near_5) >>= fun a => (pure 31) >>= fun b => mulM a b) >>= fun b => pure (a + b)) >>= fun a => (pure 17) >>= fun b => pure (a + b)) >>= fun a => (pure 2147483399) >>= fun b => modM a b) >>= fun mixed_7 => (((pure mixed_7) >>= fun a => (pure 9) >>= fun b => divM a b) >>= fun a => (pure bound_0) >>= fun b => modM a b))))))))

def m_law_sign (place_0 : Int) : PM Str :=
  ((pure (" !\"#$&'()*+,-./0123456789:;<=>?@ABCDEFGHIJKLMNOPQRSTUVWXYZ[\\]^_`" : Str)) >>= fun signs_1 => (((pure signs_1) >>= fun a => (pure ("abcdefghijklmnopqrstuvwxyz{|}~" : Str)) >>= fun b => catS a b) >>= fun signs_2 => ((pure signs_2) >>= fun l => ((pure place_0) >>= fun a => ((pure signs_2) >>= fun x => pure (x.length : Int)) >>= fun b => modM a b) >>= fun i => getS l i)))

def m_law_word (size_0 : Int) : PM Str :=
  ((pure ("abcdefghijklmnopqrstuvwxyz" : Str)) >>= fun first_1 => ((pure ("abcdefghijklmnopqrstuvwxyz.0123456789" : Str)) >>= fun later_2 => (((pure first_1) >>= fun l => (((pure 26) >>= fun a => (pure ()) >>= fun as => pure (a, as)) >>= fun a => (fun a => m_law_draw a.1) a) >>= fun i => getS l i) >>= fun word_3 => (((((pure size_0) >>= fun a => (pure 1) >>= fun b => pure (a - b)) >>= fun n => rangeM 0 n) >>= fun l => forA (fun k_5 b_4 => (((pure b_4) >>= fun a => ((pure later_2) >>= fun l => (((pure 37) >>= fun a => (pure ()) >>= fun as => pure (a, as)) >>= fun a => (fun a => m_law_draw a.1) a) >>= fun i => getS l i) >>= fun b => catS a b) >>= fun word_6 => pure word_6)) l word_3) >>= fun b_4 => (pure b_4)))))

def m_law_text  : PM Str :=
  ((pure ("abcdefghijklmnopqrstuvwxyz.0123456789" : Str)) >>= fun later_1 => ((((pure 4) >>= fun a => (pure ()) >>= fun as => pure (a, as)) >>= fun a => (fun a => m_law_draw a.1) a) >>= fun form_2 => ((pure ("" : Str)) >>= fun text_3 => (((pure form_2) >>= fun a => (pure 1) >>= fun b => pure (decide (a = b))) >>= fun c => if c = true then ((((((pure 27) >>= fun a => (pure ()) >>= fun as => pure (a, as)) >>= fun a => (fun a => m_law_draw a.1) a) >>= fun n => rangeM 0 n) >>= fun l => forA (fun k_5 b_4 => (((pure b_4) >>= fun a => (((((pure 94) >>= fun a => (pure ()) >>= fun as => pure (a, as)) >>= fun a => (fun a => m_law_draw a.1) a) >>= fun a => (pure ()) >>= fun as => pure (a, as)) >>= fun a => frame ((fun a => m_law_sign a.1) a)) >>= fun b => catS a b) >>= fun text_6 => pure text_6)) l text_3) >>= fun b_4 => (pure b_4)) else (((pure form_2) >>= fun a => (pure 2) >>= fun b => pure (decide (a = b))) >>= fun c => if c = true then ((((((pure 27) >>= fun a => (pure ()) >>= fun as => pure (a, as)) >>= fun a => (fun a => m_law_draw a.1) a) >>= fun n => rangeM 0 n) >>= fun l => forA (fun k_8 b_7 => (((pure b_7) >>= fun a => ((pure later_1) >>= fun l => (((pure 37) >>= fun a => (pure ()) >>= fun as => pure (a, as)) >>= fun a => (fun a => m_law_draw a.1) a) >>= fun i => getS l i) >>= fun b => catS a b) >>= fun text_9 => pure text_9)) l text_3) >>= fun b_7 => (pure b_7)) else (((((pure 1) >>= fun a => (((pure 24) >>= fun a => (pure ()) >>= fun as => pure (a, as)) >>= fun a => (fun a => m_law_draw a.1) a) >>= fun b => pure (a + b)) >>= fun a => (pure ()) >>= fun as => pure (a, as)) >>= fun a => (fun a => m_law_word a.1) a) >>= fun text_10 => ((((pure form_2) >>= fun a => (pure 3) >>= fun b => pure (decide (a = b))) >>= fun c => if c = true then (((((pure text_10) >>= fun x => pure (x.length : Int)) >>= fun a => (pure ()) >>= fun as => pure (a, as)) >>= fun a => (fun a => m_law_draw a.1) a) >>= fun place_12 => (((((pure text_10) >>= fun x => (pure none) >>= fun l => ((pure place_12) >>= fun i => pure (some i)) >>= fun h => pure (cutS x l h)) >>= fun a => (((((pure 94) >>= fun a => (pure ()) >>= fun as => pure (a, as)) >>= fun a => (fun a => m_law_draw a.1) a) >>= fun a => (pure ()) >>= fun as => pure (a, as)) >>= fun a => frame ((fun a => m_law_sign a.1) a)) >>= fun b => catS a b) >>= fun a => ((pure text_10) >>= fun x => (((pure place_12) >>= fun a => (pure 1) >>= fun b => pure (a + b)) >>= fun i => pure (some i)) >>= fun l => (pure none) >>= fun h => pure (cutS x l h)) >>= fun b => catS a b) >>= fun text_13 => pure text_13)) else (pure () >>= fun _ => pure text_10)) >>= fun b_11 => (pure b_11))))))))

def m_is_kind_name (text_0 : Str) : PM Bool :=
  (((((pure 1) >>= fun a => ((pure text_0) >>= fun x => pure (x.length : Int)) >>= fun b => if (fun a b : Int => decide (a ≤ b)) a b = true then (pure 24) >>= fun d => pure ((fun a b : Int => decide (a ≤ b)) b d) else pure false) >>= fun a => pure (!a)) >>= fun a => if a = true then pure true else (((pure text_0) >>= fun l => (pure 0) >>= fun i => getS l i) >>= fun a => (pure ("abcdefghijklmnopqrstuvwxyz" : Str)) >>= fun b => inSign a b >>= fun k => pure (!k))) >>= fun c => if c = true then (pure false) else ((((pure text_0) >>= fun x => pure (signsL x)) >>= fun l => sized (compE (fun char_1 => ((pure char_1) >>= fun a => (pure ("abcdefghijklmnopqrstuvwxyz0123456789." : Str)) >>= fun b => inSign a b)) l)) >>= fun l => pure (l.all id)))

def m_law_later (text_0 : Str) : PM Bool :=
  ((pure ("abcdefghijklmnopqrstuvwxyz.0123456789" : Str)) >>= fun later_1 => ((((pure text_0) >>= fun x => pure (signsL x)) >>= fun l => forF (fun sign_3 b_2 => (((pure sign_3) >>= fun a => (pure later_1) >>= fun b => inSign a b >>= fun k => pure (!k)) >>= fun c => if c = true then ((pure false) >>= fun a => pure (.rt a)) else ((pure () >>= fun _ => pure ()) >>= fun b => pure (.nx b)))) l ()) >>= orElse fun b_2 => (pure true)))

def m_law_kind_due (text_0 : Str) : PM Bool :=
  (((pure 1) >>= fun a => ((pure text_0) >>= fun x => pure (x.length : Int)) >>= fun b => if (fun a b : Int => decide (a ≤ b)) a b = true then (pure 24) >>= fun d => pure ((fun a b : Int => decide (a ≤ b)) b d) else pure false) >>= fun a => if a = true then ((((pure text_0) >>= fun l => (pure 0) >>= fun i => getS l i) >>= fun a => (pure ("abcdefghijklmnopqrstuvwxyz" : Str)) >>= fun b => inSign a b) >>= fun a => if a = true then (((pure text_0) >>= fun a => (pure ()) >>= fun as => pure (a, as)) >>= fun a => (fun a => m_law_later a.1) a) else pure false) else pure false)

def m_law_same : Nat → PyData → PyData → PM Bool
  | 0, _, _ => stuck
  | n + 1, actual_0, due_0 => (((pure due_0) >>= fun a => pure (isND a)) >>= fun c => if c = true then ((pure actual_0) >>= fun a => pure (isND a)) else ((((pure due_0) >>= fun a => pure (isT .bool a)) >>= fun a => if a = true then pure true else ((pure actual_0) >>= fun a => pure (isT .bool a))) >>= fun c => if c = true then (((pure due_0) >>= fun a => pure (isT .bool a)) >>= fun a => if a = true then (((pure actual_0) >>= fun a => pure (isT .bool a)) >>= fun a => if a = true then ((pure actual_0) >>= fun a => (pure due_0) >>= fun b => eqD a b) else pure false) else pure false) else (((pure due_0) >>= fun a => pure (isT .int a)) >>= fun c => if c = true then (((pure actual_0) >>= fun a => pure (isT .int a)) >>= fun a => if a = true then ((pure actual_0) >>= fun a => (pure due_0) >>= fun b => eqD a b) else pure false) else (((pure due_0) >>= fun a => pure (isT .str a)) >>= fun c => if c = true then (((pure actual_0) >>= fun a => pure (isT .str a)) >>= fun a => if a = true then ((pure actual_0) >>= fun a => (pure due_0) >>= fun b => eqD a b) else pure false) else (((((pure due_0) >>= fun a => pure (isT .tuple a)) >>= fun a => ((pure actual_0) >>= fun a => pure (isT .tuple a)) >>= fun b => pure (!decide (a = b))) >>= fun a => if a = true then pure true else (((pure due_0) >>= fun a => pure (isT .list a)) >>= fun a => ((pure actual_0) >>= fun a => pure (isT .list a)) >>= fun b => pure (!decide (a = b)))) >>= fun c => if c = true then (pure false) else ((((pure actual_0) >>= fun d => lenD d) >>= fun a => ((pure due_0) >>= fun d => lenD d) >>= fun b => pure (!decide (a = b))) >>= fun c => if c = true then (pure false) else (((((pure due_0) >>= fun d => lenD d) >>= fun n => rangeM 0 n) >>= fun l => forF (fun k_2 b_1 => ((((((pure actual_0) >>= fun a => (pure k_2) >>= fun i => getD a i) >>= fun a => (((pure due_0) >>= fun a => (pure k_2) >>= fun i => getD a i) >>= fun a => (pure ()) >>= fun as => pure (a, as)) >>= fun as => pure (a, as)) >>= fun a => (fun a => m_law_same n a.1 a.2.1) a) >>= fun a => pure (!a)) >>= fun c => if c = true then ((pure false) >>= fun a => pure (.rt a)) else ((pure () >>= fun _ => pure ()) >>= fun b => pure (.nx b)))) l ()) >>= orElse fun b_1 => (pure true))))))))

def m_is_unknown_name (text_0 : Str) : PM Bool :=
  (((((pure 2) >>= fun a => ((pure text_0) >>= fun x => pure (x.length : Int)) >>= fun b => if (fun a b : Int => decide (a ≤ b)) a b = true then ((pure 24) >>= fun a => (pure 1) >>= fun b => pure (a + b)) >>= fun d => pure ((fun a b : Int => decide (a ≤ b)) b d) else pure false) >>= fun a => pure (!a)) >>= fun a => if a = true then pure true else (((pure text_0) >>= fun l => (pure 0) >>= fun i => getS l i) >>= fun a => (pure ("?" : Str)) >>= fun b => pure (!decide (a = b)))) >>= fun c => if c = true then (pure false) else (((((pure text_0) >>= fun x => ((pure 1) >>= fun i => pure (some i)) >>= fun l => (pure none) >>= fun h => pure (cutS x l h)) >>= fun x => pure (signsL x)) >>= fun l => sized (compE (fun char_1 => ((pure char_1) >>= fun a => (pure ("abcdefghijklmnopqrstuvwxyz0123456789." : Str)) >>= fun b => inSign a b)) l)) >>= fun l => pure (l.all id)))

def m_law_unknown_due (text_0 : Str) : PM Bool :=
  (((pure 2) >>= fun a => ((pure text_0) >>= fun x => pure (x.length : Int)) >>= fun b => if (fun a b : Int => decide (a ≤ b)) a b = true then (pure 25) >>= fun d => pure ((fun a b : Int => decide (a ≤ b)) b d) else pure false) >>= fun a => if a = true then ((((pure text_0) >>= fun l => (pure 0) >>= fun i => getS l i) >>= fun a => (pure ("?" : Str)) >>= fun b => pure (decide (a = b))) >>= fun a => if a = true then ((((pure text_0) >>= fun x => ((pure 1) >>= fun i => pure (some i)) >>= fun l => (pure none) >>= fun h => pure (cutS x l h)) >>= fun a => (pure ()) >>= fun as => pure (a, as)) >>= fun a => (fun a => m_law_later a.1) a) else pure false) else pure false)

def m_law  : PM Bool :=
  (((pure ()) >>= fun a => (fun a => m_law_text ) a) >>= fun text_1 => (((pure text_1) >>= fun x => (pure none) >>= fun l => ((pure 8) >>= fun i => pure (some i)) >>= fun h => pure (cutS x l h)) >>= fun near_2 => ((((((pure near_2) >>= fun x => pure (x.length : Int)) >>= fun a => (pure 1) >>= fun b => pure (a + b)) >>= fun a => (pure ()) >>= fun as => pure (a, as)) >>= fun a => (fun a => m_law_draw a.1) a) >>= fun place_3 => ((((((pure 94) >>= fun a => (pure ()) >>= fun as => pure (a, as)) >>= fun a => (fun a => m_law_draw a.1) a) >>= fun a => (pure ()) >>= fun as => pure (a, as)) >>= fun a => frame ((fun a => m_law_sign a.1) a)) >>= fun sign_4 => (((((((pure 1) >>= fun a => (((pure 24) >>= fun a => (pure ()) >>= fun as => pure (a, as)) >>= fun a => (fun a => m_law_draw a.1) a) >>= fun b => pure (a + b)) >>= fun a => (pure ()) >>= fun as => pure (a, as)) >>= fun a => (fun a => m_law_word a.1) a) >>= fun a => ((pure ("x" : Str)) >>= fun a => (pure 24) >>= fun b => mulS a b) >>= fun b => catS a b) >>= fun x => (pure none) >>= fun l => ((pure 24) >>= fun i => pure (some i)) >>= fun h => pure (cutS x l h)) >>= fun full_5 => (((pure text_1) >>= fun a => (((pure ("?" : Str)) >>= fun a => (pure text_1) >>= fun b => catS a b) >>= fun a => (((pure text_1) >>= fun x => ((pure 1) >>= fun i => pure (some i)) >>= fun l => (pure none) >>= fun h => pure (cutS x l h)) >>= fun a => (((pure text_1) >>= fun a => (pure sign_4) >>= fun b => catS a b) >>= fun a => ((((pure ("?" : Str)) >>= fun a => (pure text_1) >>= fun b => catS a b) >>= fun a => (pure sign_4) >>= fun b => catS a b) >>= fun a => (((pure sign_4) >>= fun a => (pure text_1) >>= fun b => catS a b) >>= fun a => ((pure ("" : Str)) >>= fun a => ((pure ("?" : Str)) >>= fun a => ((pure ("??" : Str)) >>= fun a => (pure []) >>= fun as => pure (a :: as)) >>= fun as => pure (a :: as)) >>= fun as => pure (a :: as)) >>= fun as => pure (a :: as)) >>= fun as => pure (a :: as)) >>= fun as => pure (a :: as)) >>= fun as => pure (a :: as)) >>= fun as => pure (a :: as)) >>= fun as => pure (a :: as)) >>= fun asked_6 => (((pure asked_6) >>= fun a => ((pure full_5) >>= fun a => (((pure ("?" : Str)) >>= fun a => (pure full_5) >>= fun b => catS a b) >>= fun a => ((((pure full_5) >>= fun x => (pure none) >>= fun l => ((pure 23) >>= fun i => pure (some i)) >>= fun h => pure (cutS x l h)) >>= fun a => (pure sign_4) >>= fun b => catS a b) >>= fun a => ((((pure ("?" : Str)) >>= fun a => ((pure full_5) >>= fun x => (pure none) >>= fun l => ((pure 23) >>= fun i => pure (some i)) >>= fun h => pure (cutS x l h)) >>= fun b => catS a b) >>= fun a => (pure sign_4) >>= fun b => catS a b) >>= fun a => (pure []) >>= fun as => pure (a :: as)) >>= fun as => pure (a :: as)) >>= fun as => pure (a :: as)) >>= fun as => pure (a :: as)) >>= fun b => catL a b) >>= fun asked_7 => (((pure asked_7) >>= fun a => (((pure full_5) >>= fun a => (pure ("a" : Str)) >>= fun b => catS a b) >>= fun a => ((((pure ("?" : Str)) >>= fun a => (pure full_5) >>= fun b => catS a b) >>= fun a => (pure ("a" : Str)) >>= fun b => catS a b) >>= fun a => (((pure full_5) >>= fun a => (pure sign_4) >>= fun b => catS a b) >>= fun a => ((((pure ("?" : Str)) >>= fun a => (pure full_5) >>= fun b => catS a b) >>= fun a => (pure sign_4) >>= fun b => catS a b) >>= fun a => (pure []) >>= fun as => pure (a :: as)) >>= fun as => pure (a :: as)) >>= fun as => pure (a :: as)) >>= fun as => pure (a :: as)) >>= fun b => catL a b) >>= fun asked_8 => ((((pure 94) >>= fun n => rangeM 0 n) >>= fun l => forA (fun k_10 b_9 => ((((((pure near_2) >>= fun x => (pure none) >>= fun l => ((pure place_3) >>= fun i => pure (some i)) >>= fun h => pure (cutS x l h)) >>= fun a => (((pure k_10) >>= fun a => (pure ()) >>= fun as => pure (a, as)) >>= fun a => frame ((fun a => m_law_sign a.1) a)) >>= fun b => catS a b) >>= fun a => ((pure near_2) >>= fun x => ((pure place_3) >>= fun i => pure (some i)) >>= fun l => (pure none) >>= fun h => pure (cutS x l h)) >>= fun b => catS a b) >>= fun a => appM b_9 a) >>= fun asked_11 => ((((((pure ("?" : Str)) >>= fun a => ((pure near_2) >>= fun x => (pure none) >>= fun l => ((pure place_3) >>= fun i => pure (some i)) >>= fun h => pure (cutS x l h)) >>= fun b => catS a b) >>= fun a => (((pure k_10) >>= fun a => (pure ()) >>= fun as => pure (a, as)) >>= fun a => frame ((fun a => m_law_sign a.1) a)) >>= fun b => catS a b) >>= fun a => ((pure near_2) >>= fun x => ((pure place_3) >>= fun i => pure (some i)) >>= fun l => (pure none) >>= fun h => pure (cutS x l h)) >>= fun b => catS a b) >>= fun a => appM asked_11 a) >>= fun asked_12 => pure asked_12))) l asked_8) >>= fun b_9 => (((pure b_9) >>= fun l => forF (fun one_14 b_13 => ((((((((pure one_14) >>= fun a => (pure ()) >>= fun as => pure (a, as)) >>= fun a => frame ((fun a => m_is_kind_name a.1) a)) >>= fun a => pure (PyData.bool a)) >>= fun a => (((((pure one_14) >>= fun a => (pure ()) >>= fun as => pure (a, as)) >>= fun a => frame ((fun a => m_law_kind_due a.1) a)) >>= fun a => pure (PyData.bool a)) >>= fun a => (pure ()) >>= fun as => pure (a, as)) >>= fun as => pure (a, as)) >>= fun a => frame ((fun a => m_law_same 7 a.1 a.2.1) a)) >>= fun a => pure (!a)) >>= fun c => if c = true then (pure false) >>= fun a => pure (.rt a) else ((((((((pure one_14) >>= fun a => (pure ()) >>= fun as => pure (a, as)) >>= fun a => frame ((fun a => m_is_unknown_name a.1) a)) >>= fun a => pure (PyData.bool a)) >>= fun a => (((((pure one_14) >>= fun a => (pure ()) >>= fun as => pure (a, as)) >>= fun a => frame ((fun a => m_law_unknown_due a.1) a)) >>= fun a => pure (PyData.bool a)) >>= fun a => (pure ()) >>= fun as => pure (a, as)) >>= fun as => pure (a, as)) >>= fun a => frame ((fun a => m_law_same 7 a.1 a.2.1) a)) >>= fun a => pure (!a)) >>= fun c => if c = true then ((pure false) >>= fun a => pure (.rt a)) else ((pure () >>= fun _ => pure ()) >>= fun b => pure (.nx b))))) l ()) >>= orElse fun b_13 => (pure true)))))))))))
end My

set_option maxHeartbeats 4000000
namespace My
open PySem PySem.Spec L2 Kf
open PyProof.Rows hiding St
def top (i : Nat) : Stmt := PySem.Challenge.pw_kindsfill_k00_kind_names.main.body.getD i (.Pass ⟨0, 0, 0, 0⟩)
def N__law_draw : List Str := ["pool", "bound", "found", "near", "mixed"]
def N__law_sign : List Str := ["place", "signs"]
def N__law_word : List Str := ["pool", "size", "first", "later", "word", "k"]
def N__law_text : List Str := ["pool", "later", "form", "text", "k", "place"]
def N_is_kind_name : List Str := ["text", "char"]
def N__law_later : List Str := ["text", "later", "sign"]
def N__law_kind_due : List Str := ["text"]
def N__law_same : List Str := ["actual", "due", "k"]
def N_is_unknown_name : List Str := ["text", "char"]
def N__law_unknown_due : List Str := ["text"]
def N_law : List Str := ["script", "pool", "text", "near", "place", "sign", "full", "asked", "k", "one"]
def N__law_pool : List Str := ["script"]
theorem sc__law_draw : FnScope N__law_draw ["pool", "bound"] (defScope (top 8)) := ⟨rfl, rfl, rfl, by decide +kernel, rfl, by decide +kernel, by decide +kernel⟩
theorem sc__law_sign : FnScope N__law_sign ["place"] (defScope (top 11)) := ⟨rfl, rfl, rfl, by decide +kernel, rfl, by decide +kernel, by decide +kernel⟩
theorem sc__law_word : FnScope N__law_word ["pool", "size"] (defScope (top 9)) := ⟨rfl, rfl, rfl, by decide +kernel, rfl, by decide +kernel, by decide +kernel⟩
theorem sc__law_text : FnScope N__law_text ["pool"] (defScope (top 12)) := ⟨rfl, rfl, rfl, by decide +kernel, rfl, by decide +kernel, by decide +kernel⟩
theorem sc_is_kind_name : FnScope N_is_kind_name ["text"] (defScope (top 4)) := ⟨rfl, rfl, rfl, by decide +kernel, rfl, by decide +kernel, by decide +kernel⟩
theorem sc__law_later : FnScope N__law_later ["text"] (defScope (top 13)) := ⟨rfl, rfl, rfl, by decide +kernel, rfl, by decide +kernel, by decide +kernel⟩
theorem sc__law_kind_due : FnScope N__law_kind_due ["text"] (defScope (top 14)) := ⟨rfl, rfl, rfl, by decide +kernel, rfl, by decide +kernel, by decide +kernel⟩
theorem sc__law_same : FnScope N__law_same ["actual", "due"] (defScope (top 10)) := ⟨rfl, rfl, rfl, by decide +kernel, rfl, by decide +kernel, by decide +kernel⟩
theorem sc_is_unknown_name : FnScope N_is_unknown_name ["text"] (defScope (top 5)) := ⟨rfl, rfl, rfl, by decide +kernel, rfl, by decide +kernel, by decide +kernel⟩
theorem sc__law_unknown_due : FnScope N__law_unknown_due ["text"] (defScope (top 15)) := ⟨rfl, rfl, rfl, by decide +kernel, rfl, by decide +kernel, by decide +kernel⟩
theorem sc_law : FnScope N_law ["script"] (defScope (top 16)) := ⟨rfl, rfl, rfl, by decide +kernel, rfl, by decide +kernel, by decide +kernel⟩
theorem sc__law_pool : FnScope N__law_pool ["script"] (defScope (top 7)) := ⟨rfl, rfl, rfl, by decide +kernel, rfl, by decide +kernel, by decide +kernel⟩
/-- what the top has written -/
structure Tx (K : PySem.W.Frag) (mg : Str → Option Value) where
  fd__law_draw : FuncData
  F__law_draw : FunD K "_law_draw" "_law_draw" (defArgs (top 8)) (defBody (top 8)) (defScope (top 8)) [] [] (He.ga K "_law_draw") fd__law_draw
  g__law_draw : mg "_law_draw" = some (.ref (He.ga K "_law_draw"))
  fd__law_sign : FuncData
  F__law_sign : FunD K "_law_sign" "_law_sign" (defArgs (top 11)) (defBody (top 11)) (defScope (top 11)) [] [] (He.ga K "_law_sign") fd__law_sign
  g__law_sign : mg "_law_sign" = some (.ref (He.ga K "_law_sign"))
  fd__law_word : FuncData
  F__law_word : FunD K "_law_word" "_law_word" (defArgs (top 9)) (defBody (top 9)) (defScope (top 9)) [] [] (He.ga K "_law_word") fd__law_word
  g__law_word : mg "_law_word" = some (.ref (He.ga K "_law_word"))
  fd__law_text : FuncData
  F__law_text : FunD K "_law_text" "_law_text" (defArgs (top 12)) (defBody (top 12)) (defScope (top 12)) [] [] (He.ga K "_law_text") fd__law_text
  g__law_text : mg "_law_text" = some (.ref (He.ga K "_law_text"))
  fd_is_kind_name : FuncData
  F_is_kind_name : FunD K "is_kind_name" "is_kind_name" (defArgs (top 4)) (defBody (top 4)) (defScope (top 4)) [] [] (He.ga K "is_kind_name") fd_is_kind_name
  g_is_kind_name : mg "is_kind_name" = some (.ref (He.ga K "is_kind_name"))
  fd__law_later : FuncData
  F__law_later : FunD K "_law_later" "_law_later" (defArgs (top 13)) (defBody (top 13)) (defScope (top 13)) [] [] (He.ga K "_law_later") fd__law_later
  g__law_later : mg "_law_later" = some (.ref (He.ga K "_law_later"))
  fd__law_kind_due : FuncData
  F__law_kind_due : FunD K "_law_kind_due" "_law_kind_due" (defArgs (top 14)) (defBody (top 14)) (defScope (top 14)) [] [] (He.ga K "_law_kind_due") fd__law_kind_due
  g__law_kind_due : mg "_law_kind_due" = some (.ref (He.ga K "_law_kind_due"))
  fd__law_same : FuncData
  F__law_same : FunD K "_law_same" "_law_same" (defArgs (top 10)) (defBody (top 10)) (defScope (top 10)) [] [] (He.ga K "_law_same") fd__law_same
  g__law_same : mg "_law_same" = some (.ref (He.ga K "_law_same"))
  fd_is_unknown_name : FuncData
  F_is_unknown_name : FunD K "is_unknown_name" "is_unknown_name" (defArgs (top 5)) (defBody (top 5)) (defScope (top 5)) [] [] (He.ga K "is_unknown_name") fd_is_unknown_name
  g_is_unknown_name : mg "is_unknown_name" = some (.ref (He.ga K "is_unknown_name"))
  fd__law_unknown_due : FuncData
  F__law_unknown_due : FunD K "_law_unknown_due" "_law_unknown_due" (defArgs (top 15)) (defBody (top 15)) (defScope (top 15)) [] [] (He.ga K "_law_unknown_due") fd__law_unknown_due
  g__law_unknown_due : mg "_law_unknown_due" = some (.ref (He.ga K "_law_unknown_due"))
  fd_law : FuncData
  F_law : FunD K "law" "law" (defArgs (top 16)) (defBody (top 16)) (defScope (top 16)) [] [] (He.ga K "law") fd_law
  g_law : mg "law" = some (.ref (He.ga K "law"))
  fd__law_pool : FuncData
  F__law_pool : FunD K "_law_pool" "_law_pool" (defArgs (top 7)) (defBody (top 7)) (defScope (top 7)) [] [] (He.ga K "_law_pool") fd__law_pool
  g__law_pool : mg "_law_pool" = some (.ref (He.ga K "_law_pool"))
  n_abs : mg "abs" = none
  n_all : mg "all" = none
  n_bool : mg "bool" = none
  n_int : mg "int" = none
  n_isinstance : mg "isinstance" = none
  n_len : mg "len" = none
  n_list : mg "list" = none
  n_range : mg "range" = none
  n_str : mg "str" = none
  n_tuple : mg "tuple" = none
  c_LATER : ∃ t, mg "LATER" = some (.str "abcdefghijklmnopqrstuvwxyz0123456789." t)
  c_LETTERS : ∃ t, mg "LETTERS" = some (.str "abcdefghijklmnopqrstuvwxyz" t)
  c_MOST_LETTERS : ∃ t, mg "MOST_LETTERS" = some (.int 24 t)
section
variable {P : Program} {w : World} {K : PySem.W.Frag} {mg : Str → Option Value} {base : Heap}
theorem bi__law_draw (T : Tx K mg) : Binds K T.fd__law_draw ["pool", "bound"] [] := T.F__law_draw.bindsN fun _ _ _ _ _ _ us hl => match us, hl with | [_, _], _ => rfl
theorem bi__law_sign (T : Tx K mg) : Binds K T.fd__law_sign ["place"] [] := T.F__law_sign.bindsN fun _ _ _ _ _ _ us hl => match us, hl with | [_], _ => rfl
theorem bi__law_word (T : Tx K mg) : Binds K T.fd__law_word ["pool", "size"] [] := T.F__law_word.bindsN fun _ _ _ _ _ _ us hl => match us, hl with | [_, _], _ => rfl
theorem bi__law_text (T : Tx K mg) : Binds K T.fd__law_text ["pool"] [] := T.F__law_text.bindsN fun _ _ _ _ _ _ us hl => match us, hl with | [_], _ => rfl
theorem bi_is_kind_name (T : Tx K mg) : Binds K T.fd_is_kind_name ["text"] [] := T.F_is_kind_name.bindsN fun _ _ _ _ _ _ us hl => match us, hl with | [_], _ => rfl
theorem bi__law_later (T : Tx K mg) : Binds K T.fd__law_later ["text"] [] := T.F__law_later.bindsN fun _ _ _ _ _ _ us hl => match us, hl with | [_], _ => rfl
theorem bi__law_kind_due (T : Tx K mg) : Binds K T.fd__law_kind_due ["text"] [] := T.F__law_kind_due.bindsN fun _ _ _ _ _ _ us hl => match us, hl with | [_], _ => rfl
theorem bi__law_same (T : Tx K mg) : Binds K T.fd__law_same ["actual", "due"] [] := T.F__law_same.bindsN fun _ _ _ _ _ _ us hl => match us, hl with | [_, _], _ => rfl
theorem bi_is_unknown_name (T : Tx K mg) : Binds K T.fd_is_unknown_name ["text"] [] := T.F_is_unknown_name.bindsN fun _ _ _ _ _ _ us hl => match us, hl with | [_], _ => rfl
theorem bi__law_unknown_due (T : Tx K mg) : Binds K T.fd__law_unknown_due ["text"] [] := T.F__law_unknown_due.bindsN fun _ _ _ _ _ _ us hl => match us, hl with | [_], _ => rfl
theorem bi_law (T : Tx K mg) : Binds K T.fd_law ["script"] [] := T.F_law.bindsN fun _ _ _ _ _ _ us hl => match us, hl with | [_], _ => rfl
theorem bi__law_pool (T : Tx K mg) : Binds K T.fd__law_pool ["script"] [] := T.F__law_pool.bindsN fun _ _ _ _ _ _ us hl => match us, hl with | [_], _ => rfl
theorem ok_pool (T : Tx K mg) : FnOk P w K mg base (L2.CX P w) 1 (He.ga K "_law_pool") T.fd__law_pool ["script"] (spPool K) := by
  refine FunD.ok T.F__law_pool sc__law_pool (fun vs H Q E h => spPool_len h) fun cdv A_ outer s H vs Q E hr h => ?_
  obtain ⟨a, ns, rfl, hS, hl, hQ⟩ := h
  refine ⟨_, pss_one (ps_ret (pe_lst (pa_cons (pe_callTy call_list_of (by rfl) T.n_list (by decide +kernel) (pa_cons (pv 0) pa_nil)) (pa_cons pe_int (pa_cons pe_int (pa_cons pe_int (pa_cons pe_int pa_nil))))))), ?_⟩
  refine ⟨.ref a, rfl, a, ns.map V.int, rfl, .inl hS, fun s0 n0 => ⟨(by show (5 : Nat) ≤ sizeLine; decide), fun q0 nq => ?_⟩⟩
  have ne : s0 ≠ q0 := ne_of_none upd_same nq
  have nq' : H q0 = none := by rw [upd_ne (fun z => ne z.symm)] at nq; exact nq
  refine hQ q0 s0 _ ((same_upd n0).trans (same_upd nq)) nq' n0 ne upd_same ?_
  rw [upd_ne ne, upd_same]

theorem ok__law_draw (T : Tx K mg) : FnOk P w K mg base (L2.CX P w) 1 (He.ga K "_law_draw") T.fd__law_draw ["pool", "bound"] (spP K (aCons rInt aNil) (fun a => m_law_draw a.1) rInt) := by
  refine okP (n := 1) (j := 3) T.F__law_draw sc__law_draw (bd_cons bd_nil) rfl rfl (fun cdv A_ outer s H E hr => ⟨_, (pss_cons (ps_if (pt_cmpR op_lt (pv 1) pe_int (nomark _)) (pss_one (ps_ret pe_int)) pss_nil) (pss_cons (ps_if (pt_cmpR op_lt (pe_ix ix_list (pv 0) pe_int (fun _ _ => rfl)) pe_int (nomark _)) (pss_cons (ps_if (pt_cmpR op_ge (pe_ix ix_list (pv 0) pe_int (fun _ _ => rfl)) (pe_callB call_len_seq (by rfl) T.n_len PySem.boot_len (pa_cons (pe_ix ix_list (pv 0) pe_int (fun _ _ => rfl)) pa_nil)) (nomark _)) (pss_one (ps_ret pe_int)) pss_nil) (pss_cons (ps_asg (pe_callB call_abs (by rfl) T.n_abs (by decide +kernel) (pa_cons (pe_callTy call_int1 (by rfl) T.n_int (by decide +kernel) (pa_cons (pe_ix ix_list (pe_ix ix_list (pv 0) pe_int (fun _ _ => rfl)) (pe_ix ix_list (pv 0) pe_int (fun _ _ => rfl)) (fun _ _ => rfl)) pa_nil)) pa_nil)) (pg_sub (pv 0) pe_int set_list)) (pss_cons (ps_asg (pe_op op_add (pe_ix ix_list (pv 0) pe_int (fun _ _ => rfl)) pe_int) (pg_sub (pv 0) pe_int set_list)) (pss_cons (ps_asg pe_int (pg_sub (pv 0) pe_int set_list)) (pss_cons (ps_asg pe_int (pg_sub (pv 0) pe_int set_list)) (pss_one (ps_if (pt_cmpR op_ge (pe_ix ix_list (pv 0) pe_int (fun _ _ => rfl)) (pe_op op_pow pe_int pe_int) (nomark _)) (pss_cons (ps_asg pe_int (pg_sub (pv 0) pe_int set_list)) (pss_one (ps_asg pe_int (pg_sub (pv 0) pe_int set_list)))) pss_nil))))))) pss_nil) (pss_cons (ps_asg (pe_op op_sub (pe_ix ix_list (pv 0) pe_int (fun _ _ => rfl)) pe_int) (pg_sub (pv 0) pe_int set_list)) (pss_cons (ps_if (pt_cmpR op_eq (pe_ix ix_list (pv 0) pe_int (fun _ _ => rfl)) pe_int (nomark _)) (pss_cons (ps_set (i := 2) sc__law_draw.nd rfl (Or.inl rfl) (pe_op op_mod (pe_callTy call_int1 (by rfl) T.n_int (by decide +kernel) (pa_cons (pe_ix ix_list (pv 0) pe_int (fun _ _ => rfl)) pa_nil)) (pv 1))) (pss_cons (ps_asg (pe_op op_fdiv (pe_ix ix_list (pv 0) pe_int (fun _ _ => rfl)) (pv 1)) (pg_sub (pv 0) pe_int set_list)) (pss_cons (ps_if (pt_cmpR op_lt (pe_ix ix_list (pv 0) pe_int (fun _ _ => rfl)) pe_int (nomark _)) (pss_one (ps_asg pe_int (pg_sub (pv 0) pe_int set_list))) pss_nil) (pss_one (ps_ret (pv 2)))))) pss_nil) (pss_cons (ps_set (i := 3) sc__law_draw.nd rfl (Or.inl rfl) (pe_op op_mod (pe_callTy call_int1 (by rfl) T.n_int (by decide +kernel) (pa_cons (pe_ix ix_list (pv 0) pe_int (fun _ _ => rfl)) pa_nil)) pe_int)) (pss_cons (ps_set (i := 4) sc__law_draw.nd rfl (Or.inl rfl) (pe_op op_mod (pe_callTy call_int1 (by rfl) T.n_int (by decide +kernel) (pa_cons (pe_op op_add (pe_op op_add (pe_op op_mul (pv 3) pe_int) (pe_op op_mul (pe_ix ix_list (pv 0) pe_int (fun _ _ => rfl)) pe_int)) (pe_op op_mul (pe_ix ix_list (pv 0) pe_int (fun _ _ => rfl)) pe_int)) pa_nil)) pe_int)) (pss_cons (ps_set (i := 4) sc__law_draw.nd rfl (Or.inl rfl) (pe_op op_mod (pe_callTy call_int1 (by rfl) T.n_int (by decide +kernel) (pa_cons (pe_op op_add (pe_op op_add (pe_op op_mul (pv 4) pe_int) (pe_op op_mul (pv 3) pe_int)) pe_int) pa_nil)) pe_int)) (pss_one (ps_ret (pe_op op_mod (pe_callTy call_int1 (by rfl) T.n_int (by decide +kernel) (pa_cons (pe_op op_fdiv (pv 4) pe_int) pa_nil)) (pv 1))))))))))), ?_⟩)
  rintro q sc ⟨bound_0, ⟨⟩⟩
  show El (cfE K (some q) sc E) _ True [.val rPool q, .val rInt bound_0, .any, .any, .any] _ (m_law_draw bound_0)
  unfold m_law_draw
  exact (el_guard (et_test (ev_lt (ev_var 1 rfl) ev_int)) (el_ret ev_int) (el_seqF (ef_if (Γ' := (fun (b_1 : Unit) => [.val rPool q, .val rInt bound_0, .any, .any, .any])) (et_test (ev_lt (ev_pool 0 3 (by decide) rfl rfl) ev_int)) (ef_guard (et_test (ev_ge (ev_pool 0 1 (by decide) rfl rfl) (ev_lenL (ev_pool0 0 rfl rfl)))) (el_ret ev_int) (ef_seq (es_pool 0 2 (by decide) rfl rfl (ev_abs (ev_int1 (ev_ixL (ev_pool0 0 rfl rfl) (ev_pool 0 1 (by decide) rfl rfl))))) (fun _ => (show Ef _ _ [.val rPool q, .val rInt bound_0, .any, .any, .any] _ _ _ from (ef_seq (es_pool 0 1 (by decide) rfl rfl (ev_add (ev_pool 0 1 (by decide) rfl rfl) ev_int)) (fun _ => (show Ef _ _ [.val rPool q, .val rInt bound_0, .any, .any, .any] _ _ _ from (ef_seq (es_pool 0 3 (by decide) rfl rfl ev_int) (fun _ => (show Ef _ _ [.val rPool q, .val rInt bound_0, .any, .any, .any] _ _ _ from (ef_seq (es_pool 0 4 (by decide) rfl rfl ev_int) (fun _ => (show Ef _ _ [.val rPool q, .val rInt bound_0, .any, .any, .any] _ _ _ from (ef_of (es_weak (fun b_2 => ()) (es_if (Γ' := (fun (b_2 : Unit) => [.val rPool q, .val rInt bound_0, .any, .any, .any])) (et_test (ev_ge (ev_pool 0 2 (by decide) rfl rfl) (ev_pow ev_int ev_int))) (es_seq (es_pool 0 3 (by decide) rfl rfl ev_int) (fun _ => (show Es _ [.val rPool q, .val rInt bound_0, .any, .any, .any] _ _ _ from (es_weak (fun _ => ()) (es_pool 0 4 (by decide) rfl rfl ev_int) (fun _ => (.same (.same (.same (.same (.same .nil)))))))))) (es_weak (fun _ => ()) es_pass (fun _ => (.same (.same (.same (.same (.same .nil)))))))) (fun b_2 => (.same (.same (.same (.same (.same .nil))))))))))))))))))))) (ef_of (es_weak (fun _ => ()) es_pass (fun _ => (.same (.same (.same (.same (.same .nil))))))))) (fun b_1 => (show El _ _ _ [.val rPool q, .val rInt bound_0, .any, .any, .any] _ _ from (el_seq (es_pool 0 3 (by decide) rfl rfl (ev_sub (ev_pool 0 3 (by decide) rfl rfl) ev_int)) (fun _ => (show El _ _ _ [.val rPool q, .val rInt bound_0, .any, .any, .any] _ _ from (el_guard (et_test (ev_eq scInt (ev_pool 0 4 (by decide) rfl rfl) ev_int)) (el_seq (es_set 2 (ev_mod (ev_int1 (ev_pool 0 2 (by decide) rfl rfl)) (ev_var 1 rfl))) (fun found_3 => (show El _ _ _ [.val rPool q, .val rInt bound_0, .val rInt found_3, .any, .any] _ _ from (el_seq (es_pool 0 2 (by decide) rfl rfl (ev_div (ev_pool 0 2 (by decide) rfl rfl) (ev_var 1 rfl))) (fun _ => (show El _ _ _ [.val rPool q, .val rInt bound_0, .val rInt found_3, .any, .any] _ _ from (el_seq (es_if (Γ' := (fun (b_4 : Unit) => [.val rPool q, .val rInt bound_0, .val rInt found_3, .any, .any])) (et_test (ev_lt (ev_pool 0 2 (by decide) rfl rfl) ev_int)) (es_weak (fun _ => ()) (es_pool 0 3 (by decide) rfl rfl ev_int) (fun _ => (.same (.same (.same (.same (.same .nil))))))) (es_weak (fun _ => ()) es_pass (fun _ => (.same (.same (.same (.same (.same .nil)))))))) (fun b_4 => (show El _ _ _ [.val rPool q, .val rInt bound_0, .val rInt found_3, .any, .any] _ _ from (el_ret (ev_var 2 rfl))))))))))) (el_seq (es_set 3 (ev_mod (ev_int1 (ev_pool 0 2 (by decide) rfl rfl)) ev_int)) (fun near_5 => (show El _ _ _ [.val rPool q, .val rInt bound_0, .any, .val rInt near_5, .any] _ _ from (el_seq (es_set 4 (ev_mod (ev_int1 (ev_add (ev_add (ev_mul (ev_var 3 rfl) ev_int) (ev_mul (ev_pool 0 3 (by decide) rfl rfl) ev_int)) (ev_mul (ev_pool 0 1 (by decide) rfl rfl) ev_int))) ev_int)) (fun mixed_6 => (show El _ _ _ [.val rPool q, .val rInt bound_0, .any, .val rInt near_5, .val rInt mixed_6] _ _ from (el_seq (es_set 4 (ev_mod (ev_int1 (ev_add (ev_add (ev_mul (ev_var 4 rfl) ev_int) (ev_mul (ev_var 3 rfl) ev_int)) ev_int)) ev_int)) (fun mixed_7 => (show El _ _ _ [.val rPool q, .val rInt bound_0, .any, .val rInt near_5, .val rInt mixed_7] _ _ from (el_ret (ev_mod (ev_int1 (ev_div (ev_var 4 rfl) ev_int)) (ev_var 1 rfl))))))))))))))))))))
theorem ok__law_sign (T : Tx K mg) : FnOk P w K mg base (L2.CX P w) 1 (He.ga K "_law_sign") T.fd__law_sign ["place"] (spF K (aCons rInt aNil) (fun a => m_law_sign a.1) rStr) := by
  refine okF (n := 1) (j := 1) T.F__law_sign sc__law_sign (bd_cons bd_nil) rfl rfl (fun cdv A_ outer s H E hr => ⟨_, (pss_cons (ps_set (i := 1) sc__law_sign.nd rfl (Or.inl rfl) pe_str) (pss_cons (ps_set (i := 1) sc__law_sign.nd rfl (Or.inl rfl) (pe_op op_add_str (pv 1) pe_str)) (pss_one (ps_ret (pe_ix ix_str (pv 1) (pe_op op_mod (pe_callTy call_int1 (by rfl) T.n_int (by decide +kernel) (pa_cons (pv 0) pa_nil)) (pe_callB call_len_str (by rfl) T.n_len PySem.boot_len (pa_cons (pv 1) pa_nil))) (fun _ _ => rfl)))))), ?_⟩)
  rintro ⟨place_0, ⟨⟩⟩
  show El (cfE K none 0 E) _ True [.val rInt place_0, .any] _ (m_law_sign place_0)
  unfold m_law_sign
  exact (el_seq (es_set 1 (ev_str (by decide +kernel))) (fun signs_1 => (show El _ _ _ [.val rInt place_0, .val rStr signs_1] _ _ from (el_seq (es_set 1 (ev_catS (ev_var 1 rfl) (ev_str (by decide +kernel)))) (fun signs_2 => (show El _ _ _ [.val rInt place_0, .val rStr signs_2] _ _ from (el_ret (ev_ixS (ev_var 1 rfl) (ev_mod (ev_int1 (ev_var 0 rfl)) (ev_lenS (ev_var 1 rfl)))))))))))
theorem ok__law_word (T : Tx K mg) : FnOk P w K mg base (L2.CX P w) 2 (He.ga K "_law_word") T.fd__law_word ["pool", "size"] (spP K (aCons rInt aNil) (fun a => m_law_word a.1) rStr) := by
  refine okP (n := 1) (j := 4) T.F__law_word sc__law_word (bd_cons bd_nil) rfl rfl (fun cdv A_ outer s H E hr => ⟨_, (pss_cons (ps_set (i := 2) sc__law_word.nd rfl (Or.inl rfl) pe_str) (pss_cons (ps_set (i := 3) sc__law_word.nd rfl (Or.inl rfl) pe_str) (pss_cons (ps_set (i := 4) sc__law_word.nd rfl (Or.inl rfl) (pe_ix ix_str (pv 2) (pe_callSD (ok__law_draw T) (hr.mono (by decide)) (by rfl) T.g__law_draw T.F__law_draw.kp (bi__law_draw T) .nil (passAt (takes_of rfl rfl rfl rfl)) (pa_cons (pv 0) (pa_cons pe_int pa_nil))) (fun _ _ => rfl))) (pss_cons (ps_for (passes_of rfl) rfl (pi_range1 (by rfl) T.n_range (pa_cons (pe_op op_sub (pv 1) pe_int) pa_nil)) (pg_name (i := 5) sc__law_word.nd rfl (Or.inl rfl)) (pss_one (ps_set (i := 4) sc__law_word.nd rfl (Or.inl rfl) (pe_op op_add_str (pv 4) (pe_ix ix_str (pv 3) (pe_callSD (ok__law_draw T) (hr.mono (by decide)) (by rfl) T.g__law_draw T.F__law_draw.kp (bi__law_draw T) .nil (passAt (takes_of rfl rfl rfl rfl)) (pa_cons (pv 0) (pa_cons pe_int pa_nil))) (fun _ _ => rfl)))))) (pss_one (ps_ret (pv 4))))))), ?_⟩)
  rintro q sc ⟨size_0, ⟨⟩⟩
  show El (cfE K (some q) sc E) _ True [.val rPool q, .val rInt size_0, .any, .any, .any, .any] _ (m_law_word size_0)
  unfold m_law_word
  exact (el_seq (es_set 2 (ev_str (by decide +kernel))) (fun first_1 => (show El _ _ _ [.val rPool q, .val rInt size_0, .val rStr first_1, .any, .any, .any] _ _ from (el_seq (es_set 3 (ev_str (by decide +kernel))) (fun later_2 => (show El _ _ _ [.val rPool q, .val rInt size_0, .val rStr first_1, .val rStr later_2, .any, .any] _ _ from (el_seq (es_set 4 (ev_ixS (ev_var 2 rfl) (ev_callP 0 rfl rfl (ea_cons ev_int ea_nil)))) (fun word_3 => (show El _ _ _ [.val rPool q, .val rInt size_0, .val rStr first_1, .val rStr later_2, .val rStr word_3, .any] _ _ from (el_seq (es_for (α := Int) (r := rInt) (Γ := (fun (b_4 : Str) => [.val rPool q, .val rInt size_0, .val rStr first_1, .val rStr later_2, .val rStr b_4, .any])) (ei_r1 (ev_sub (ev_var 1 rfl) ev_int)) (fun b_4 => (eg_name 5)) (fun k_5 b_4 => (show Es _ [.val rPool q, .val rInt size_0, .val rStr first_1, .val rStr later_2, .val rStr b_4, .val rInt k_5] _ _ _ from (es_weak (fun word_6 => word_6) (es_set 4 (ev_catS (ev_var 4 rfl) (ev_ixS (ev_var 3 rfl) (ev_callP 0 rfl rfl (ea_cons ev_int ea_nil))))) (fun word_6 => (.same (.same (.same (.same (.same (.any .nil))))))))))) (fun b_4 => (show El _ _ _ [.val rPool q, .val rInt size_0, .val rStr first_1, .val rStr later_2, .val rStr b_4, .any] _ _ from (el_ret (ev_var 4 rfl))))))))))))))
theorem ok__law_text (T : Tx K mg) : FnOk P w K mg base (L2.CX P w) 3 (He.ga K "_law_text") T.fd__law_text ["pool"] (spP K aNil (fun a => m_law_text ) rStr) := by
  refine okP (n := 0) (j := 5) T.F__law_text sc__law_text bd_nil rfl rfl (fun cdv A_ outer s H E hr => ⟨_, (pss_cons (ps_set (i := 1) sc__law_text.nd rfl (Or.inl rfl) pe_str) (pss_cons (ps_set (i := 2) sc__law_text.nd rfl (Or.inl rfl) (pe_callSD (ok__law_draw T) (hr.mono (by decide)) (by rfl) T.g__law_draw T.F__law_draw.kp (bi__law_draw T) .nil (passAt (takes_of rfl rfl rfl rfl)) (pa_cons (pv 0) (pa_cons pe_int pa_nil)))) (pss_cons (ps_set (i := 3) sc__law_text.nd rfl (Or.inl rfl) pe_str) (pss_cons (ps_if (pt_cmpR op_eq (pv 2) pe_int (nomark _)) (pss_cons (ps_for (passes_of rfl) rfl (pi_range1 (by rfl) T.n_range (pa_cons (pe_callSD (ok__law_draw T) (hr.mono (by decide)) (by rfl) T.g__law_draw T.F__law_draw.kp (bi__law_draw T) .nil (passAt (takes_of rfl rfl rfl rfl)) (pa_cons (pv 0) (pa_cons pe_int pa_nil))) pa_nil)) (pg_name (i := 4) sc__law_text.nd rfl (Or.inl rfl)) (pss_one (ps_set (i := 3) sc__law_text.nd rfl (Or.inl rfl) (pe_op op_add_str (pv 3) (pe_callSD (ok__law_sign T) (hr.mono (by decide)) (by rfl) T.g__law_sign T.F__law_sign.kp (bi__law_sign T) .nil (passAt (takes_of rfl rfl rfl rfl)) (pa_cons (pe_callSD (ok__law_draw T) (hr.mono (by decide)) (by rfl) T.g__law_draw T.F__law_draw.kp (bi__law_draw T) .nil (passAt (takes_of rfl rfl rfl rfl)) (pa_cons (pv 0) (pa_cons pe_int pa_nil))) pa_nil)))))) (pss_one (ps_ret (pv 3)))) pss_nil) (pss_cons (ps_if (pt_cmpR op_eq (pv 2) pe_int (nomark _)) (pss_cons (ps_for (passes_of rfl) rfl (pi_range1 (by rfl) T.n_range (pa_cons (pe_callSD (ok__law_draw T) (hr.mono (by decide)) (by rfl) T.g__law_draw T.F__law_draw.kp (bi__law_draw T) .nil (passAt (takes_of rfl rfl rfl rfl)) (pa_cons (pv 0) (pa_cons pe_int pa_nil))) pa_nil)) (pg_name (i := 4) sc__law_text.nd rfl (Or.inl rfl)) (pss_one (ps_set (i := 3) sc__law_text.nd rfl (Or.inl rfl) (pe_op op_add_str (pv 3) (pe_ix ix_str (pv 1) (pe_callSD (ok__law_draw T) (hr.mono (by decide)) (by rfl) T.g__law_draw T.F__law_draw.kp (bi__law_draw T) .nil (passAt (takes_of rfl rfl rfl rfl)) (pa_cons (pv 0) (pa_cons pe_int pa_nil))) (fun _ _ => rfl)))))) (pss_one (ps_ret (pv 3)))) pss_nil) (pss_cons (ps_set (i := 3) sc__law_text.nd rfl (Or.inl rfl) (pe_callSD (ok__law_word T) (hr.mono (by decide)) (by rfl) T.g__law_word T.F__law_word.kp (bi__law_word T) .nil (passAt (takes_of rfl rfl rfl rfl)) (pa_cons (pv 0) (pa_cons (pe_op op_add pe_int (pe_callSD (ok__law_draw T) (hr.mono (by decide)) (by rfl) T.g__law_draw T.F__law_draw.kp (bi__law_draw T) .nil (passAt (takes_of rfl rfl rfl rfl)) (pa_cons (pv 0) (pa_cons pe_int pa_nil)))) pa_nil)))) (pss_cons (ps_if (pt_cmpR op_eq (pv 2) pe_int (nomark _)) (pss_cons (ps_set (i := 5) sc__law_text.nd rfl (Or.inl rfl) (pe_callSD (ok__law_draw T) (hr.mono (by decide)) (by rfl) T.g__law_draw T.F__law_draw.kp (bi__law_draw T) .nil (passAt (takes_of rfl rfl rfl rfl)) (pa_cons (pv 0) (pa_cons (pe_callB call_len_str (by rfl) T.n_len PySem.boot_len (pa_cons (pv 3) pa_nil)) pa_nil)))) (pss_one (ps_set (i := 3) sc__law_text.nd rfl (Or.inl rfl) (pe_op op_add_str (pe_op op_add_str (pe_slice sl_str (pv 3) po_none (po_some (pv 5))) (pe_callSD (ok__law_sign T) (hr.mono (by decide)) (by rfl) T.g__law_sign T.F__law_sign.kp (bi__law_sign T) .nil (passAt (takes_of rfl rfl rfl rfl)) (pa_cons (pe_callSD (ok__law_draw T) (hr.mono (by decide)) (by rfl) T.g__law_draw T.F__law_draw.kp (bi__law_draw T) .nil (passAt (takes_of rfl rfl rfl rfl)) (pa_cons (pv 0) (pa_cons pe_int pa_nil))) pa_nil))) (pe_slice sl_str (pv 3) (po_some (pe_op op_add (pv 5) pe_int)) po_none))))) pss_nil) (pss_one (ps_ret (pv 3)))))))))), ?_⟩)
  rintro q sc ⟨⟩
  show El (cfE K (some q) sc E) _ True [.val rPool q, .any, .any, .any, .any, .any] _ (m_law_text )
  unfold m_law_text
  exact (el_seq (es_set 1 (ev_str (by decide +kernel))) (fun later_1 => (show El _ _ _ [.val rPool q, .val rStr later_1, .any, .any, .any, .any] _ _ from (el_seq (es_set 2 (ev_callP 0 rfl rfl (ea_cons ev_int ea_nil))) (fun form_2 => (show El _ _ _ [.val rPool q, .val rStr later_1, .val rInt form_2, .any, .any, .any] _ _ from (el_seq (es_set 3 (ev_str (by decide +kernel))) (fun text_3 => (show El _ _ _ [.val rPool q, .val rStr later_1, .val rInt form_2, .val rStr text_3, .any, .any] _ _ from (el_guard (et_test (ev_eq scInt (ev_var 2 rfl) ev_int)) (el_seq (es_for (α := Int) (r := rInt) (Γ := (fun (b_4 : Str) => [.val rPool q, .val rStr later_1, .val rInt form_2, .val rStr b_4, .any, .any])) (ei_r1 (ev_callP 0 rfl rfl (ea_cons ev_int ea_nil))) (fun b_4 => (eg_name 4)) (fun k_5 b_4 => (show Es _ [.val rPool q, .val rStr later_1, .val rInt form_2, .val rStr b_4, .val rInt k_5, .any] _ _ _ from (es_weak (fun text_6 => text_6) (es_set 3 (ev_catS (ev_var 3 rfl) (ev_call (ea_cons (ev_callP 0 rfl rfl (ea_cons ev_int ea_nil)) ea_nil)))) (fun text_6 => (.same (.same (.same (.same (.any (.same .nil))))))))))) (fun b_4 => (show El _ _ _ [.val rPool q, .val rStr later_1, .val rInt form_2, .val rStr b_4, .any, .any] _ _ from (el_ret (ev_var 3 rfl))))) (el_guard (et_test (ev_eq scInt (ev_var 2 rfl) ev_int)) (el_seq (es_for (α := Int) (r := rInt) (Γ := (fun (b_7 : Str) => [.val rPool q, .val rStr later_1, .val rInt form_2, .val rStr b_7, .any, .any])) (ei_r1 (ev_callP 0 rfl rfl (ea_cons ev_int ea_nil))) (fun b_7 => (eg_name 4)) (fun k_8 b_7 => (show Es _ [.val rPool q, .val rStr later_1, .val rInt form_2, .val rStr b_7, .val rInt k_8, .any] _ _ _ from (es_weak (fun text_9 => text_9) (es_set 3 (ev_catS (ev_var 3 rfl) (ev_ixS (ev_var 1 rfl) (ev_callP 0 rfl rfl (ea_cons ev_int ea_nil))))) (fun text_9 => (.same (.same (.same (.same (.any (.same .nil))))))))))) (fun b_7 => (show El _ _ _ [.val rPool q, .val rStr later_1, .val rInt form_2, .val rStr b_7, .any, .any] _ _ from (el_ret (ev_var 3 rfl))))) (el_seq (es_set 3 (ev_callP 0 rfl rfl (ea_cons (ev_add ev_int (ev_callP 0 rfl rfl (ea_cons ev_int ea_nil))) ea_nil))) (fun text_10 => (show El _ _ _ [.val rPool q, .val rStr later_1, .val rInt form_2, .val rStr text_10, .any, .any] _ _ from (el_seq (es_if (Γ' := (fun (b_11 : Str) => [.val rPool q, .val rStr later_1, .val rInt form_2, .val rStr b_11, .any, .any])) (et_test (ev_eq scInt (ev_var 2 rfl) ev_int)) (es_seq (es_set 5 (ev_callP 0 rfl rfl (ea_cons (ev_lenS (ev_var 3 rfl)) ea_nil))) (fun place_12 => (show Es _ [.val rPool q, .val rStr later_1, .val rInt form_2, .val rStr text_10, .any, .val rInt place_12] _ _ _ from (es_weak (fun text_13 => text_13) (es_set 3 (ev_catS (ev_catS (ev_slS (ev_var 3 rfl) eo_none (eo_some (ev_var 5 rfl))) (ev_call (ea_cons (ev_callP 0 rfl rfl (ea_cons ev_int ea_nil)) ea_nil))) (ev_slS (ev_var 3 rfl) (eo_some (ev_add (ev_var 5 rfl) ev_int)) eo_none))) (fun text_13 => (.same (.same (.same (.same (.same (.any .nil))))))))))) (es_weak (fun _ => text_10) es_pass (fun _ => (.same (.same (.same (.same (.same (.same .nil))))))))) (fun b_11 => (show El _ _ _ [.val rPool q, .val rStr later_1, .val rInt form_2, .val rStr b_11, .any, .any] _ _ from (el_ret (ev_var 3 rfl)))))))))))))))))))
theorem ok_is_kind_name (T : Tx K mg) : FnOk P w K mg base (L2.CX P w) 1 (He.ga K "is_kind_name") T.fd_is_kind_name ["text"] (spF K (aCons rStr aNil) (fun a => m_is_kind_name a.1) rBool) := by
  refine okF (n := 1) (j := 1) T.F_is_kind_name sc_is_kind_name (bd_cons bd_nil) rfl rfl (fun cdv A_ outer s H E hr => ⟨_, (pss_cons (ps_if (PW.pt (pw_or (pt_not (pt_chain op_le op_le pe_int (pe_callB call_len_str (by rfl) T.n_len PySem.boot_len (pa_cons (pv 0) pa_nil)) (pe_gint (by rfl) T.c_MOST_LETTERS))) (pw_or1 (pt_cmpR op_notIn_sign (pe_ix ix_str (pv 0) pe_int (fun _ _ => rfl)) (pe_gstr (by rfl) T.c_LETTERS) rfl)))) (pss_one (ps_ret pe_bl)) pss_nil) (pss_one (ps_ret (pe_callB (cr_all rfl) (by rfl) T.n_all (by decide +kernel) (pa_cons (pe_lc (own := [("char", 1)]) (by rfl) sc_is_kind_name.nd (pi_str (pv 0)) (blkOk_by (N := N_is_kind_name) (sc := defScope (top 4)) (by decide +kernel)) (fun _ _ _ _ _ => (pg_name (i := 1) sc_is_kind_name.nd rfl (Or.inl rfl))) (fun _ _ _ _ _ => pts_nil) (fun _ _ _ _ _ => (pe_cmpR op_in_sign (pv 1) (pe_gstr (by rfl) T.c_LATER) rfl))) pa_nil))))), ?_⟩)
  rintro ⟨text_0, ⟨⟩⟩
  show El (cfE K none 0 E) _ True [.val rStr text_0, .any] _ (m_is_kind_name text_0)
  unfold m_is_kind_name
  exact (el_guard (et_or (et_not (et_test (ev_chain (g1 := (fun a b : Int => decide (a ≤ b))) (g2 := (fun a b : Int => decide (a ≤ b))) ev_int (ev_lenS (ev_var 0 rfl)) ev_int))) (et_test (ev_ninS (ev_ixS (ev_var 0 rfl) ev_int) (ev_str (by decide +kernel))))) (el_ret ev_bl) (el_ret (ev_all (ev_fz (en_lcE (ru := rStr) (r := rBool) (ei_str (ev_var 0 rfl)) (eg_name 1) (by decide) (fun char_1 => (show Ev _ [.val rStr text_0, .val rStr char_1] _ _ _ from (ev_inS (ev_var 1 rfl) (ev_str (by decide +kernel))))))))))
theorem ok__law_later (T : Tx K mg) : FnOk P w K mg base (L2.CX P w) 1 (He.ga K "_law_later") T.fd__law_later ["text"] (spF K (aCons rStr aNil) (fun a => m_law_later a.1) rBool) := by
  refine okF (n := 1) (j := 2) T.F__law_later sc__law_later (bd_cons bd_nil) rfl rfl (fun cdv A_ outer s H E hr => ⟨_, (pss_cons (ps_set (i := 1) sc__law_later.nd rfl (Or.inl rfl) pe_str) (pss_cons (ps_for (passes_of rfl) rfl (pi_str (pv 0)) (pg_name (i := 2) sc__law_later.nd rfl (Or.inl rfl)) (pss_one (ps_if (pt_cmpR op_notIn_sign (pv 2) (pv 1) rfl) (pss_one (ps_ret pe_bl)) pss_nil))) (pss_one (ps_ret pe_bl)))), ?_⟩)
  rintro ⟨text_0, ⟨⟩⟩
  show El (cfE K none 0 E) _ True [.val rStr text_0, .any, .any] _ (m_law_later text_0)
  unfold m_law_later
  exact (el_seq (es_set 1 (ev_str (by decide +kernel))) (fun later_1 => (show El _ _ _ [.val rStr text_0, .val rStr later_1, .any] _ _ from (el_seqF (ef_for (α := Str) (r := rStr) (Γ := (fun (b_2 : Unit) => [.val rStr text_0, .val rStr later_1, .any])) (ei_str (ev_var 0 rfl)) (fun b_2 => (eg_name 2)) (fun sign_3 b_2 => (show Ef _ _ [.val rStr text_0, .val rStr later_1, .val rStr sign_3] _ _ _ from (ef_if (et_test (ev_ninS (ev_var 2 rfl) (ev_var 1 rfl))) (ef_ol (el_ret ev_bl)) (ef_of (es_weak (fun _ => ()) es_pass (fun _ => (.same (.same (.any .nil)))))))))) (fun b_2 => (show El _ _ _ [.val rStr text_0, .val rStr later_1, .any] _ _ from (el_ret ev_bl)))))))
theorem ok__law_kind_due (T : Tx K mg) : FnOk P w K mg base (L2.CX P w) 2 (He.ga K "_law_kind_due") T.fd__law_kind_due ["text"] (spF K (aCons rStr aNil) (fun a => m_law_kind_due a.1) rBool) := by
  refine okF (n := 1) (j := 0) T.F__law_kind_due sc__law_kind_due (bd_cons bd_nil) rfl rfl (fun cdv A_ outer s H E hr => ⟨_, (pss_one (ps_ret (pe_and (pe_chain op_le op_le pe_int (pe_callB call_len_str (by rfl) T.n_len PySem.boot_len (pa_cons (pv 0) pa_nil)) pe_int) (pe_and (pe_cmpR op_in_sign (pe_ix ix_str (pv 0) pe_int (fun _ _ => rfl)) pe_str rfl) (pe_one (pe_callSD (ok__law_later T) (hr.mono (by decide)) (by rfl) T.g__law_later T.F__law_later.kp (bi__law_later T) .nil (passAt (takes_of rfl rfl rfl rfl)) (pa_cons (pv 0) pa_nil))))))), ?_⟩)
  rintro ⟨text_0, ⟨⟩⟩
  show El (cfE K none 0 E) _ True [.val rStr text_0] _ (m_law_kind_due text_0)
  unfold m_law_kind_due
  exact (el_ret (ev_and (ev_chain (g1 := (fun a b : Int => decide (a ≤ b))) (g2 := (fun a b : Int => decide (a ≤ b))) ev_int (ev_lenS (ev_var 0 rfl)) ev_int) (ev_and (ev_inS (ev_ixS (ev_var 0 rfl) ev_int) (ev_str (by decide +kernel))) (ev_call0 rfl (ea_cons (ev_var 0 rfl) ea_nil)))))
theorem ok__law_same (T : Tx K mg) : ∀ n : Nat, FnOk P w K mg base (L2.CX P w) (n + 1) (He.ga K "_law_same") T.fd__law_same ["actual", "due"] (spF K (aCons (rD K) (aCons (rD K) aNil)) (fun a => m_law_same (n + 1) a.1 a.2.1) rBool)
  | 0 => by
    have ih := never0 (P := P) (w := w) (K := K) (mg := mg) (base := base) (CX := L2.CX P w) (f := He.ga K "_law_same") (fd := T.fd__law_same) (ps := ["actual", "due"]) (ra := (aCons (rD K) (aCons (rD K) aNil))) (m := fun a => m_law_same 0 a.1 a.2.1) (r := rBool) (bd_cons (bd_cons bd_nil)) rfl (fun _ => rfl)
    refine okF (n := 2) (j := 1) T.F__law_same sc__law_same (bd_cons (bd_cons bd_nil)) rfl rfl (fun cdv A_ outer s H E hr => ⟨_, (pss_cons (ps_if (pt_cmpR op_isN (pv 1) pe_non (nomark _)) (pss_one (ps_ret (pe_cmpR op_isN (pv 0) pe_non (nomark _)))) pss_nil) (pss_cons (ps_if (PW.pt (pw_or (pt_val (pe_callB call_isi (by rfl) T.n_isinstance (by decide +kernel) (pa_cons (pv 1) (pa_cons (pe_bltn (v := .ty "bool") (by rfl) T.n_bool (by decide +kernel) rfl) pa_nil)))) (pw_or1 (pt_val (pe_callB call_isi (by rfl) T.n_isinstance (by decide +kernel) (pa_cons (pv 0) (pa_cons (pe_bltn (v := .ty "bool") (by rfl) T.n_bool (by decide +kernel) rfl) pa_nil))))))) (pss_one (ps_ret (pe_and (pe_callB call_isi (by rfl) T.n_isinstance (by decide +kernel) (pa_cons (pv 1) (pa_cons (pe_bltn (v := .ty "bool") (by rfl) T.n_bool (by decide +kernel) rfl) pa_nil))) (pe_and (pe_callB call_isi (by rfl) T.n_isinstance (by decide +kernel) (pa_cons (pv 0) (pa_cons (pe_bltn (v := .ty "bool") (by rfl) T.n_bool (by decide +kernel) rfl) pa_nil))) (pe_one (pe_cmpR op_eq (pv 0) (pv 1) (nomark _))))))) pss_nil) (pss_cons (ps_if (pt_val (pe_callB call_isi (by rfl) T.n_isinstance (by decide +kernel) (pa_cons (pv 1) (pa_cons (pe_bltn (v := .ty "int") (by rfl) T.n_int (by decide +kernel) rfl) pa_nil)))) (pss_one (ps_ret (pe_and (pe_callB call_isi (by rfl) T.n_isinstance (by decide +kernel) (pa_cons (pv 0) (pa_cons (pe_bltn (v := .ty "int") (by rfl) T.n_int (by decide +kernel) rfl) pa_nil))) (pe_one (pe_cmpR op_eq (pv 0) (pv 1) (nomark _)))))) pss_nil) (pss_cons (ps_if (pt_val (pe_callB call_isi (by rfl) T.n_isinstance (by decide +kernel) (pa_cons (pv 1) (pa_cons (pe_bltn (v := .ty "str") (by rfl) T.n_str (by decide +kernel) rfl) pa_nil)))) (pss_one (ps_ret (pe_and (pe_callB call_isi (by rfl) T.n_isinstance (by decide +kernel) (pa_cons (pv 0) (pa_cons (pe_bltn (v := .ty "str") (by rfl) T.n_str (by decide +kernel) rfl) pa_nil))) (pe_one (pe_cmpR op_eq (pv 0) (pv 1) (nomark _)))))) pss_nil) (pss_cons (ps_if (PW.pt (pw_or (pt_cmpR op_ne (pe_callB call_isi (by rfl) T.n_isinstance (by decide +kernel) (pa_cons (pv 1) (pa_cons (pe_bltn (v := .ty "tuple") (by rfl) T.n_tuple (by decide +kernel) rfl) pa_nil))) (pe_callB call_isi (by rfl) T.n_isinstance (by decide +kernel) (pa_cons (pv 0) (pa_cons (pe_bltn (v := .ty "tuple") (by rfl) T.n_tuple (by decide +kernel) rfl) pa_nil))) (nomark _)) (pw_or1 (pt_cmpR op_ne (pe_callB call_isi (by rfl) T.n_isinstance (by decide +kernel) (pa_cons (pv 1) (pa_cons (pe_bltn (v := .ty "list") (by rfl) T.n_list (by decide +kernel) rfl) pa_nil))) (pe_callB call_isi (by rfl) T.n_isinstance (by decide +kernel) (pa_cons (pv 0) (pa_cons (pe_bltn (v := .ty "list") (by rfl) T.n_list (by decide +kernel) rfl) pa_nil))) (nomark _))))) (pss_one (ps_ret pe_bl)) pss_nil) (pss_cons (ps_if (pt_cmpR op_ne (pe_callB call_len_seq (by rfl) T.n_len PySem.boot_len (pa_cons (pv 0) pa_nil)) (pe_callB call_len_seq (by rfl) T.n_len PySem.boot_len (pa_cons (pv 1) pa_nil)) (nomark _)) (pss_one (ps_ret pe_bl)) pss_nil) (pss_cons (ps_for (passes_of rfl) rfl (pi_range1 (by rfl) T.n_range (pa_cons (pe_callB call_len_seq (by rfl) T.n_len PySem.boot_len (pa_cons (pv 1) pa_nil)) pa_nil)) (pg_name (i := 2) sc__law_same.nd rfl (Or.inl rfl)) (pss_one (ps_if (pt_not (pt_val (pe_callSD ih (hr.mono (by omega)) (by rfl) T.g__law_same T.F__law_same.kp (bi__law_same T) .nil (passAt (takes_of rfl rfl rfl rfl)) (pa_cons (pe_ix (ix_list.or ix_tup) (pv 0) (pv 2) (fun _ _ => rfl)) (pa_cons (pe_ix (ix_list.or ix_tup) (pv 1) (pv 2) (fun _ _ => rfl)) pa_nil))))) (pss_one (ps_ret pe_bl)) pss_nil))) (pss_one (ps_ret pe_bl))))))))), ?_⟩)
    rintro ⟨actual_0, due_0, ⟨⟩⟩
    show El (cfE K none 0 E) _ True [.val (rD K) actual_0, .val (rD K) due_0, .any] _ (m_law_same (0 + 1) actual_0 due_0)
    exact (el_guard (et_test (ev_isND (ev_var 1 rfl))) (el_ret (ev_isND (ev_var 0 rfl))) (el_guard (et_or (et_val (ev_isT .bool (ev_var 1 rfl))) (et_val (ev_isT .bool (ev_var 0 rfl)))) (el_ret (ev_and (ev_isT .bool (ev_var 1 rfl)) (ev_and (ev_isT .bool (ev_var 0 rfl)) (ev_eqD (ev_var 0 rfl) (ev_var 1 rfl))))) (el_guard (et_val (ev_isT .int (ev_var 1 rfl))) (el_ret (ev_and (ev_isT .int (ev_var 0 rfl)) (ev_eqD (ev_var 0 rfl) (ev_var 1 rfl)))) (el_guard (et_val (ev_isT .str (ev_var 1 rfl))) (el_ret (ev_and (ev_isT .str (ev_var 0 rfl)) (ev_eqD (ev_var 0 rfl) (ev_var 1 rfl)))) (el_guard (et_or (et_test (ev_ne scBool (ev_isT .tuple (ev_var 1 rfl)) (ev_isT .tuple (ev_var 0 rfl)))) (et_test (ev_ne scBool (ev_isT .list (ev_var 1 rfl)) (ev_isT .list (ev_var 0 rfl))))) (el_ret ev_bl) (el_guard (et_test (ev_ne scInt (ev_lenD (ev_var 0 rfl)) (ev_lenD (ev_var 1 rfl)))) (el_ret ev_bl) (el_seqF (ef_for (α := Int) (r := rInt) (Γ := (fun (b_1 : Unit) => [.val (rD K) actual_0, .val (rD K) due_0, .any])) (ei_r1 (ev_lenD (ev_var 1 rfl))) (fun b_1 => (eg_name 2)) (fun k_2 b_1 => (show Ef _ _ [.val (rD K) actual_0, .val (rD K) due_0, .val rInt k_2] _ _ _ from (ef_if (et_not (et_val (ev_call0 rfl (ea_cons (ev_ixD (ev_var 0 rfl) (ev_var 2 rfl)) (ea_cons (ev_ixD (ev_var 1 rfl) (ev_var 2 rfl)) ea_nil))))) (ef_ol (el_ret ev_bl)) (ef_of (es_weak (fun _ => ()) es_pass (fun _ => (.same (.same (.any .nil)))))))))) (fun b_1 => (show El _ _ _ [.val (rD K) actual_0, .val (rD K) due_0, .any] _ _ from (el_ret ev_bl))))))))))
  | n + 1 => by
    have ih := ok__law_same T n
    refine okF (n := 2) (j := 1) T.F__law_same sc__law_same (bd_cons (bd_cons bd_nil)) rfl rfl (fun cdv A_ outer s H E hr => ⟨_, (pss_cons (ps_if (pt_cmpR op_isN (pv 1) pe_non (nomark _)) (pss_one (ps_ret (pe_cmpR op_isN (pv 0) pe_non (nomark _)))) pss_nil) (pss_cons (ps_if (PW.pt (pw_or (pt_val (pe_callB call_isi (by rfl) T.n_isinstance (by decide +kernel) (pa_cons (pv 1) (pa_cons (pe_bltn (v := .ty "bool") (by rfl) T.n_bool (by decide +kernel) rfl) pa_nil)))) (pw_or1 (pt_val (pe_callB call_isi (by rfl) T.n_isinstance (by decide +kernel) (pa_cons (pv 0) (pa_cons (pe_bltn (v := .ty "bool") (by rfl) T.n_bool (by decide +kernel) rfl) pa_nil))))))) (pss_one (ps_ret (pe_and (pe_callB call_isi (by rfl) T.n_isinstance (by decide +kernel) (pa_cons (pv 1) (pa_cons (pe_bltn (v := .ty "bool") (by rfl) T.n_bool (by decide +kernel) rfl) pa_nil))) (pe_and (pe_callB call_isi (by rfl) T.n_isinstance (by decide +kernel) (pa_cons (pv 0) (pa_cons (pe_bltn (v := .ty "bool") (by rfl) T.n_bool (by decide +kernel) rfl) pa_nil))) (pe_one (pe_cmpR op_eq (pv 0) (pv 1) (nomark _))))))) pss_nil) (pss_cons (ps_if (pt_val (pe_callB call_isi (by rfl) T.n_isinstance (by decide +kernel) (pa_cons (pv 1) (pa_cons (pe_bltn (v := .ty "int") (by rfl) T.n_int (by decide +kernel) rfl) pa_nil)))) (pss_one (ps_ret (pe_and (pe_callB call_isi (by rfl) T.n_isinstance (by decide +kernel) (pa_cons (pv 0) (pa_cons (pe_bltn (v := .ty "int") (by rfl) T.n_int (by decide +kernel) rfl) pa_nil))) (pe_one (pe_cmpR op_eq (pv 0) (pv 1) (nomark _)))))) pss_nil) (pss_cons (ps_if (pt_val (pe_callB call_isi (by rfl) T.n_isinstance (by decide +kernel) (pa_cons (pv 1) (pa_cons (pe_bltn (v := .ty "str") (by rfl) T.n_str (by decide +kernel) rfl) pa_nil)))) (pss_one (ps_ret (pe_and (pe_callB call_isi (by rfl) T.n_isinstance (by decide +kernel) (pa_cons (pv 0) (pa_cons (pe_bltn (v := .ty "str") (by rfl) T.n_str (by decide +kernel) rfl) pa_nil))) (pe_one (pe_cmpR op_eq (pv 0) (pv 1) (nomark _)))))) pss_nil) (pss_cons (ps_if (PW.pt (pw_or (pt_cmpR op_ne (pe_callB call_isi (by rfl) T.n_isinstance (by decide +kernel) (pa_cons (pv 1) (pa_cons (pe_bltn (v := .ty "tuple") (by rfl) T.n_tuple (by decide +kernel) rfl) pa_nil))) (pe_callB call_isi (by rfl) T.n_isinstance (by decide +kernel) (pa_cons (pv 0) (pa_cons (pe_bltn (v := .ty "tuple") (by rfl) T.n_tuple (by decide +kernel) rfl) pa_nil))) (nomark _)) (pw_or1 (pt_cmpR op_ne (pe_callB call_isi (by rfl) T.n_isinstance (by decide +kernel) (pa_cons (pv 1) (pa_cons (pe_bltn (v := .ty "list") (by rfl) T.n_list (by decide +kernel) rfl) pa_nil))) (pe_callB call_isi (by rfl) T.n_isinstance (by decide +kernel) (pa_cons (pv 0) (pa_cons (pe_bltn (v := .ty "list") (by rfl) T.n_list (by decide +kernel) rfl) pa_nil))) (nomark _))))) (pss_one (ps_ret pe_bl)) pss_nil) (pss_cons (ps_if (pt_cmpR op_ne (pe_callB call_len_seq (by rfl) T.n_len PySem.boot_len (pa_cons (pv 0) pa_nil)) (pe_callB call_len_seq (by rfl) T.n_len PySem.boot_len (pa_cons (pv 1) pa_nil)) (nomark _)) (pss_one (ps_ret pe_bl)) pss_nil) (pss_cons (ps_for (passes_of rfl) rfl (pi_range1 (by rfl) T.n_range (pa_cons (pe_callB call_len_seq (by rfl) T.n_len PySem.boot_len (pa_cons (pv 1) pa_nil)) pa_nil)) (pg_name (i := 2) sc__law_same.nd rfl (Or.inl rfl)) (pss_one (ps_if (pt_not (pt_val (pe_callSD ih (hr.mono (by omega)) (by rfl) T.g__law_same T.F__law_same.kp (bi__law_same T) .nil (passAt (takes_of rfl rfl rfl rfl)) (pa_cons (pe_ix (ix_list.or ix_tup) (pv 0) (pv 2) (fun _ _ => rfl)) (pa_cons (pe_ix (ix_list.or ix_tup) (pv 1) (pv 2) (fun _ _ => rfl)) pa_nil))))) (pss_one (ps_ret pe_bl)) pss_nil))) (pss_one (ps_ret pe_bl))))))))), ?_⟩)
    rintro ⟨actual_0, due_0, ⟨⟩⟩
    show El (cfE K none 0 E) _ True [.val (rD K) actual_0, .val (rD K) due_0, .any] _ (m_law_same ((n + 1) + 1) actual_0 due_0)
    exact (el_guard (et_test (ev_isND (ev_var 1 rfl))) (el_ret (ev_isND (ev_var 0 rfl))) (el_guard (et_or (et_val (ev_isT .bool (ev_var 1 rfl))) (et_val (ev_isT .bool (ev_var 0 rfl)))) (el_ret (ev_and (ev_isT .bool (ev_var 1 rfl)) (ev_and (ev_isT .bool (ev_var 0 rfl)) (ev_eqD (ev_var 0 rfl) (ev_var 1 rfl))))) (el_guard (et_val (ev_isT .int (ev_var 1 rfl))) (el_ret (ev_and (ev_isT .int (ev_var 0 rfl)) (ev_eqD (ev_var 0 rfl) (ev_var 1 rfl)))) (el_guard (et_val (ev_isT .str (ev_var 1 rfl))) (el_ret (ev_and (ev_isT .str (ev_var 0 rfl)) (ev_eqD (ev_var 0 rfl) (ev_var 1 rfl)))) (el_guard (et_or (et_test (ev_ne scBool (ev_isT .tuple (ev_var 1 rfl)) (ev_isT .tuple (ev_var 0 rfl)))) (et_test (ev_ne scBool (ev_isT .list (ev_var 1 rfl)) (ev_isT .list (ev_var 0 rfl))))) (el_ret ev_bl) (el_guard (et_test (ev_ne scInt (ev_lenD (ev_var 0 rfl)) (ev_lenD (ev_var 1 rfl)))) (el_ret ev_bl) (el_seqF (ef_for (α := Int) (r := rInt) (Γ := (fun (b_1 : Unit) => [.val (rD K) actual_0, .val (rD K) due_0, .any])) (ei_r1 (ev_lenD (ev_var 1 rfl))) (fun b_1 => (eg_name 2)) (fun k_2 b_1 => (show Ef _ _ [.val (rD K) actual_0, .val (rD K) due_0, .val rInt k_2] _ _ _ from (ef_if (et_not (et_val (ev_call0 rfl (ea_cons (ev_ixD (ev_var 0 rfl) (ev_var 2 rfl)) (ea_cons (ev_ixD (ev_var 1 rfl) (ev_var 2 rfl)) ea_nil))))) (ef_ol (el_ret ev_bl)) (ef_of (es_weak (fun _ => ()) es_pass (fun _ => (.same (.same (.any .nil)))))))))) (fun b_1 => (show El _ _ _ [.val (rD K) actual_0, .val (rD K) due_0, .any] _ _ from (el_ret ev_bl))))))))))
theorem ok_is_unknown_name (T : Tx K mg) : FnOk P w K mg base (L2.CX P w) 1 (He.ga K "is_unknown_name") T.fd_is_unknown_name ["text"] (spF K (aCons rStr aNil) (fun a => m_is_unknown_name a.1) rBool) := by
  refine okF (n := 1) (j := 1) T.F_is_unknown_name sc_is_unknown_name (bd_cons bd_nil) rfl rfl (fun cdv A_ outer s H E hr => ⟨_, (pss_cons (ps_if (PW.pt (pw_or (pt_not (pt_chain op_le op_le pe_int (pe_callB call_len_str (by rfl) T.n_len PySem.boot_len (pa_cons (pv 0) pa_nil)) (pe_op op_add (pe_gint (by rfl) T.c_MOST_LETTERS) pe_int))) (pw_or1 (pt_cmpR op_ne (pe_ix ix_str (pv 0) pe_int (fun _ _ => rfl)) pe_str (nomark _))))) (pss_one (ps_ret pe_bl)) pss_nil) (pss_one (ps_ret (pe_callB (cr_all rfl) (by rfl) T.n_all (by decide +kernel) (pa_cons (pe_lc (own := [("char", 1)]) (by rfl) sc_is_unknown_name.nd (pi_str (pe_slice sl_str (pv 0) (po_some pe_int) po_none)) (blkOk_by (N := N_is_unknown_name) (sc := defScope (top 5)) (by decide +kernel)) (fun _ _ _ _ _ => (pg_name (i := 1) sc_is_unknown_name.nd rfl (Or.inl rfl))) (fun _ _ _ _ _ => pts_nil) (fun _ _ _ _ _ => (pe_cmpR op_in_sign (pv 1) (pe_gstr (by rfl) T.c_LATER) rfl))) pa_nil))))), ?_⟩)
  rintro ⟨text_0, ⟨⟩⟩
  show El (cfE K none 0 E) _ True [.val rStr text_0, .any] _ (m_is_unknown_name text_0)
  unfold m_is_unknown_name
  exact (el_guard (et_or (et_not (et_test (ev_chain (g1 := (fun a b : Int => decide (a ≤ b))) (g2 := (fun a b : Int => decide (a ≤ b))) ev_int (ev_lenS (ev_var 0 rfl)) (ev_add ev_int ev_int)))) (et_test (ev_ne scStr (ev_ixS (ev_var 0 rfl) ev_int) (ev_str (by decide +kernel))))) (el_ret ev_bl) (el_ret (ev_all (ev_fz (en_lcE (ru := rStr) (r := rBool) (ei_str (ev_slS (ev_var 0 rfl) (eo_some ev_int) eo_none)) (eg_name 1) (by decide) (fun char_1 => (show Ev _ [.val rStr text_0, .val rStr char_1] _ _ _ from (ev_inS (ev_var 1 rfl) (ev_str (by decide +kernel))))))))))
theorem ok__law_unknown_due (T : Tx K mg) : FnOk P w K mg base (L2.CX P w) 2 (He.ga K "_law_unknown_due") T.fd__law_unknown_due ["text"] (spF K (aCons rStr aNil) (fun a => m_law_unknown_due a.1) rBool) := by
  refine okF (n := 1) (j := 0) T.F__law_unknown_due sc__law_unknown_due (bd_cons bd_nil) rfl rfl (fun cdv A_ outer s H E hr => ⟨_, (pss_one (ps_ret (pe_and (pe_chain op_le op_le pe_int (pe_callB call_len_str (by rfl) T.n_len PySem.boot_len (pa_cons (pv 0) pa_nil)) pe_int) (pe_and (pe_cmpR op_eq (pe_ix ix_str (pv 0) pe_int (fun _ _ => rfl)) pe_str (nomark _)) (pe_one (pe_callSD (ok__law_later T) (hr.mono (by decide)) (by rfl) T.g__law_later T.F__law_later.kp (bi__law_later T) .nil (passAt (takes_of rfl rfl rfl rfl)) (pa_cons (pe_slice sl_str (pv 0) (po_some pe_int) po_none) pa_nil))))))), ?_⟩)
  rintro ⟨text_0, ⟨⟩⟩
  show El (cfE K none 0 E) _ True [.val rStr text_0] _ (m_law_unknown_due text_0)
  unfold m_law_unknown_due
  exact (el_ret (ev_and (ev_chain (g1 := (fun a b : Int => decide (a ≤ b))) (g2 := (fun a b : Int => decide (a ≤ b))) ev_int (ev_lenS (ev_var 0 rfl)) ev_int) (ev_and (ev_eq scStr (ev_ixS (ev_var 0 rfl) ev_int) (ev_str (by decide +kernel))) (ev_call0 rfl (ea_cons (ev_slS (ev_var 0 rfl) (eo_some ev_int) eo_none) ea_nil)))))
theorem ok_law (T : Tx K mg) (hm : ∀ ns : List Int, ns.length ≤ 63 → ∃ p', m_law (pool0 ns) = (.ok true, p')) : FnOk P w K mg base (L2.CX P w) 8 (He.ga K "law") T.fd_law ["script"] (spLaw K) := by
  refine okLaw (j := 8) T.F_law sc_law rfl rfl hm (fun cdv A_ outer s H E hr => ⟨_, pss_cons (ps_set (i := 1) sc_law.nd rfl (Or.inl rfl) (pe_callSD (ok_pool T) (hr.mono (by decide)) (by rfl) T.g__law_pool T.F__law_pool.kp (bi__law_pool T) .nil (passAt (takes_of rfl rfl rfl rfl)) (pa_cons (pv 0) pa_nil))) (pss_cons (ps_set (i := 2) sc_law.nd rfl (Or.inl rfl) (pe_callSD (ok__law_text T) (hr.mono (by decide)) (by rfl) T.g__law_text T.F__law_text.kp (bi__law_text T) .nil (passAt (takes_of rfl rfl rfl rfl)) (pa_cons (pv 1) pa_nil))) (pss_cons (ps_set (i := 3) sc_law.nd rfl (Or.inl rfl) (pe_slice sl_str (pv 2) po_none (po_some pe_int))) (pss_cons (ps_set (i := 4) sc_law.nd rfl (Or.inl rfl) (pe_callSD (ok__law_draw T) (hr.mono (by decide)) (by rfl) T.g__law_draw T.F__law_draw.kp (bi__law_draw T) .nil (passAt (takes_of rfl rfl rfl rfl)) (pa_cons (pv 1) (pa_cons (pe_op op_add (pe_callB call_len_str (by rfl) T.n_len PySem.boot_len (pa_cons (pv 3) pa_nil)) pe_int) pa_nil)))) (pss_cons (ps_set (i := 5) sc_law.nd rfl (Or.inl rfl) (pe_callSD (ok__law_sign T) (hr.mono (by decide)) (by rfl) T.g__law_sign T.F__law_sign.kp (bi__law_sign T) .nil (passAt (takes_of rfl rfl rfl rfl)) (pa_cons (pe_callSD (ok__law_draw T) (hr.mono (by decide)) (by rfl) T.g__law_draw T.F__law_draw.kp (bi__law_draw T) .nil (passAt (takes_of rfl rfl rfl rfl)) (pa_cons (pv 1) (pa_cons pe_int pa_nil))) pa_nil))) (pss_cons (ps_set (i := 6) sc_law.nd rfl (Or.inl rfl) (pe_slice sl_str (pe_op op_add_str (pe_callSD (ok__law_word T) (hr.mono (by decide)) (by rfl) T.g__law_word T.F__law_word.kp (bi__law_word T) .nil (passAt (takes_of rfl rfl rfl rfl)) (pa_cons (pv 1) (pa_cons (pe_op op_add pe_int (pe_callSD (ok__law_draw T) (hr.mono (by decide)) (by rfl) T.g__law_draw T.F__law_draw.kp (bi__law_draw T) .nil (passAt (takes_of rfl rfl rfl rfl)) (pa_cons (pv 1) (pa_cons pe_int pa_nil)))) pa_nil))) (pe_op op_mul_str pe_str pe_int)) po_none (po_some pe_int))) (pss_cons (ps_set (i := 7) sc_law.nd rfl (Or.inl rfl) (pe_lst (pa_cons (pv 2) (pa_cons (pe_op op_add_str pe_str (pv 2)) (pa_cons (pe_slice sl_str (pv 2) (po_some pe_int) po_none) (pa_cons (pe_op op_add_str (pv 2) (pv 5)) (pa_cons (pe_op op_add_str (pe_op op_add_str pe_str (pv 2)) (pv 5)) (pa_cons (pe_op op_add_str (pv 5) (pv 2)) (pa_cons pe_str (pa_cons pe_str (pa_cons pe_str pa_nil))))))))))) (pss_cons (ps_set (i := 7) sc_law.nd rfl (Or.inl rfl) (pe_op op_cat (pv 7) (pe_lst (pa_cons (pv 6) (pa_cons (pe_op op_add_str pe_str (pv 6)) (pa_cons (pe_op op_add_str (pe_slice sl_str (pv 6) po_none (po_some pe_int)) (pv 5)) (pa_cons (pe_op op_add_str (pe_op op_add_str pe_str (pe_slice sl_str (pv 6) po_none (po_some pe_int))) (pv 5)) pa_nil))))))) (pss_cons (ps_set (i := 7) sc_law.nd rfl (Or.inl rfl) (pe_op op_cat (pv 7) (pe_lst (pa_cons (pe_op op_add_str (pv 6) pe_str) (pa_cons (pe_op op_add_str (pe_op op_add_str pe_str (pv 6)) pe_str) (pa_cons (pe_op op_add_str (pv 6) (pv 5)) (pa_cons (pe_op op_add_str (pe_op op_add_str pe_str (pv 6)) (pv 5)) pa_nil))))))) (pss_cons (ps_for (passes_of rfl) rfl (pi_range1 (by rfl) T.n_range (pa_cons pe_int pa_nil)) (pg_name (i := 8) sc_law.nd rfl (Or.inl rfl)) (pss_cons (ps_expr (pe_bm PySem.F.plainAttrs_list PySem.F.slot_list_append PySem.F.type_list_append mt_append (pv 7) (pa_cons (pe_op op_add_str (pe_op op_add_str (pe_slice sl_str (pv 3) po_none (po_some (pv 4))) (pe_callSD (ok__law_sign T) (hr.mono (by decide)) (by rfl) T.g__law_sign T.F__law_sign.kp (bi__law_sign T) .nil (passAt (takes_of rfl rfl rfl rfl)) (pa_cons (pv 8) pa_nil))) (pe_slice sl_str (pv 3) (po_some (pv 4)) po_none)) pa_nil))) (pss_one (ps_expr (pe_bm PySem.F.plainAttrs_list PySem.F.slot_list_append PySem.F.type_list_append mt_append (pv 7) (pa_cons (pe_op op_add_str (pe_op op_add_str (pe_op op_add_str pe_str (pe_slice sl_str (pv 3) po_none (po_some (pv 4)))) (pe_callSD (ok__law_sign T) (hr.mono (by decide)) (by rfl) T.g__law_sign T.F__law_sign.kp (bi__law_sign T) .nil (passAt (takes_of rfl rfl rfl rfl)) (pa_cons (pv 8) pa_nil))) (pe_slice sl_str (pv 3) (po_some (pv 4)) po_none)) pa_nil)))))) (pss_cons (ps_for (passes_of rfl) rfl (pi_list (pv 7)) (pg_name (i := 9) sc_law.nd rfl (Or.inl rfl)) (pss_cons (ps_if (pt_not (pt_val (pe_callSD (ok__law_same T 6) (hr.mono (by decide)) (by rfl) T.g__law_same T.F__law_same.kp (bi__law_same T) .nil (passAt (takes_of rfl rfl rfl rfl)) (pa_cons (pe_callSD (ok_is_kind_name T) (hr.mono (by decide)) (by rfl) T.g_is_kind_name T.F_is_kind_name.kp (bi_is_kind_name T) .nil (passAt (takes_of rfl rfl rfl rfl)) (pa_cons (pv 9) pa_nil)) (pa_cons (pe_callSD (ok__law_kind_due T) (hr.mono (by decide)) (by rfl) T.g__law_kind_due T.F__law_kind_due.kp (bi__law_kind_due T) .nil (passAt (takes_of rfl rfl rfl rfl)) (pa_cons (pv 9) pa_nil)) pa_nil))))) (pss_one (ps_ret pe_bl)) pss_nil) (pss_one (ps_if (pt_not (pt_val (pe_callSD (ok__law_same T 6) (hr.mono (by decide)) (by rfl) T.g__law_same T.F__law_same.kp (bi__law_same T) .nil (passAt (takes_of rfl rfl rfl rfl)) (pa_cons (pe_callSD (ok_is_unknown_name T) (hr.mono (by decide)) (by rfl) T.g_is_unknown_name T.F_is_unknown_name.kp (bi_is_unknown_name T) .nil (passAt (takes_of rfl rfl rfl rfl)) (pa_cons (pv 9) pa_nil)) (pa_cons (pe_callSD (ok__law_unknown_due T) (hr.mono (by decide)) (by rfl) T.g__law_unknown_due T.F__law_unknown_due.kp (bi__law_unknown_due T) .nil (passAt (takes_of rfl rfl rfl rfl)) (pa_cons (pv 9) pa_nil)) pa_nil))))) (pss_one (ps_ret pe_bl)) pss_nil)))) (pss_one (ps_ret pe_bl)))))))))))), fun q sc => ?_⟩)
  show El (cfE K (some q) sc E) _ True [.any, .val rPool q, .any, .any, .any, .any, .any, .any, .any, .any] _ m_law
  unfold m_law
  exact (el_seq (es_set 2 (ev_callP 1 rfl rfl ea_nil)) (fun text_1 => (show El _ _ _ [.any, .val rPool q, .val rStr text_1, .any, .any, .any, .any, .any, .any, .any] _ _ from (el_seq (es_set 3 (ev_slS (ev_var 2 rfl) eo_none (eo_some ev_int))) (fun near_2 => (show El _ _ _ [.any, .val rPool q, .val rStr text_1, .val rStr near_2, .any, .any, .any, .any, .any, .any] _ _ from (el_seq (es_set 4 (ev_callP 1 rfl rfl (ea_cons (ev_add (ev_lenS (ev_var 3 rfl)) ev_int) ea_nil))) (fun place_3 => (show El _ _ _ [.any, .val rPool q, .val rStr text_1, .val rStr near_2, .val rInt place_3, .any, .any, .any, .any, .any] _ _ from (el_seq (es_set 5 (ev_call (ea_cons (ev_callP 1 rfl rfl (ea_cons ev_int ea_nil)) ea_nil))) (fun sign_4 => (show El _ _ _ [.any, .val rPool q, .val rStr text_1, .val rStr near_2, .val rInt place_3, .val rStr sign_4, .any, .any, .any, .any] _ _ from (el_seq (es_set 6 (ev_slS (ev_catS (ev_callP 1 rfl rfl (ea_cons (ev_add ev_int (ev_callP 1 rfl rfl (ea_cons ev_int ea_nil))) ea_nil)) (ev_mulS (ev_str (by decide +kernel)) ev_int)) eo_none (eo_some ev_int))) (fun full_5 => (show El _ _ _ [.any, .val rPool q, .val rStr text_1, .val rStr near_2, .val rInt place_3, .val rStr sign_4, .val rStr full_5, .any, .any, .any] _ _ from (el_seq (es_new 7 (en_lst (r := rStr) (ea_lcons (ev_var 2 rfl) (ea_lcons (ev_catS (ev_str (by decide +kernel)) (ev_var 2 rfl)) (ea_lcons (ev_slS (ev_var 2 rfl) (eo_some ev_int) eo_none) (ea_lcons (ev_catS (ev_var 2 rfl) (ev_var 5 rfl)) (ea_lcons (ev_catS (ev_catS (ev_str (by decide +kernel)) (ev_var 2 rfl)) (ev_var 5 rfl)) (ea_lcons (ev_catS (ev_var 5 rfl) (ev_var 2 rfl)) (ea_lcons (ev_str (by decide +kernel)) (ea_lcons (ev_str (by decide +kernel)) (ea_lcons (ev_str (by decide +kernel)) ea_lnil))))))))))) (fun asked_6 => (show El _ _ _ [.any, .val rPool q, .val rStr text_1, .val rStr near_2, .val rInt place_3, .val rStr sign_4, .val rStr full_5, .own (oList rStr) asked_6, .any, .any] _ _ from (el_fz 7 rfl (el_seq (es_new 7 (en_cat (ev_var 7 rfl) (ev_fz (en_lst (r := rStr) (ea_lcons (ev_var 6 rfl) (ea_lcons (ev_catS (ev_str (by decide +kernel)) (ev_var 6 rfl)) (ea_lcons (ev_catS (ev_slS (ev_var 6 rfl) eo_none (eo_some ev_int)) (ev_var 5 rfl)) (ea_lcons (ev_catS (ev_catS (ev_str (by decide +kernel)) (ev_slS (ev_var 6 rfl) eo_none (eo_some ev_int))) (ev_var 5 rfl)) ea_lnil)))))))) (fun asked_7 => (show El _ _ _ [.any, .val rPool q, .val rStr text_1, .val rStr near_2, .val rInt place_3, .val rStr sign_4, .val rStr full_5, .own (oList rStr) asked_7, .any, .any] _ _ from (el_fz 7 rfl (el_seq (es_new 7 (en_cat (ev_var 7 rfl) (ev_fz (en_lst (r := rStr) (ea_lcons (ev_catS (ev_var 6 rfl) (ev_str (by decide +kernel))) (ea_lcons (ev_catS (ev_catS (ev_str (by decide +kernel)) (ev_var 6 rfl)) (ev_str (by decide +kernel))) (ea_lcons (ev_catS (ev_var 6 rfl) (ev_var 5 rfl)) (ea_lcons (ev_catS (ev_catS (ev_str (by decide +kernel)) (ev_var 6 rfl)) (ev_var 5 rfl)) ea_lnil)))))))) (fun asked_8 => (show El _ _ _ [.any, .val rPool q, .val rStr text_1, .val rStr near_2, .val rInt place_3, .val rStr sign_4, .val rStr full_5, .own (oList rStr) asked_8, .any, .any] _ _ from (el_seq (es_for (α := Int) (r := rInt) (Γ := (fun (b_9 : (List Str)) => [.any, .val rPool q, .val rStr text_1, .val rStr near_2, .val rInt place_3, .val rStr sign_4, .val rStr full_5, .own (oList rStr) b_9, .any, .any])) (ei_r1 ev_int) (fun b_9 => (eg_name 8)) (fun k_10 b_9 => (show Es _ [.any, .val rPool q, .val rStr text_1, .val rStr near_2, .val rInt place_3, .val rStr sign_4, .val rStr full_5, .own (oList rStr) b_9, .val rInt k_10, .any] _ _ _ from (es_seq (es_app 7 rfl (ev_catS (ev_catS (ev_slS (ev_var 3 rfl) eo_none (eo_some (ev_var 4 rfl))) (ev_call (ea_cons (ev_var 8 rfl) ea_nil))) (ev_slS (ev_var 3 rfl) (eo_some (ev_var 4 rfl)) eo_none))) (fun asked_11 => (show Es _ [.any, .val rPool q, .val rStr text_1, .val rStr near_2, .val rInt place_3, .val rStr sign_4, .val rStr full_5, .own (oList rStr) asked_11, .val rInt k_10, .any] _ _ _ from (es_weak (fun asked_12 => asked_12) (es_app 7 rfl (ev_catS (ev_catS (ev_catS (ev_str (by decide +kernel)) (ev_slS (ev_var 3 rfl) eo_none (eo_some (ev_var 4 rfl)))) (ev_call (ea_cons (ev_var 8 rfl) ea_nil))) (ev_slS (ev_var 3 rfl) (eo_some (ev_var 4 rfl)) eo_none))) (fun asked_12 => (.same (.same (.same (.same (.same (.same (.same (.same (.any (.same .nil)))))))))))))))))) (fun b_9 => (show El _ _ _ [.any, .val rPool q, .val rStr text_1, .val rStr near_2, .val rInt place_3, .val rStr sign_4, .val rStr full_5, .own (oList rStr) b_9, .any, .any] _ _ from (el_fz 7 rfl (el_seqF (ef_for (α := Str) (r := rStr) (Γ := (fun (b_13 : Unit) => [.any, .val rPool q, .val rStr text_1, .val rStr near_2, .val rInt place_3, .val rStr sign_4, .val rStr full_5, .val (rList rStr) b_9, .any, .any])) (ei_list (ev_var 7 rfl)) (fun b_13 => (eg_name 9)) (fun one_14 b_13 => (show Ef _ _ [.any, .val rPool q, .val rStr text_1, .val rStr near_2, .val rInt place_3, .val rStr sign_4, .val rStr full_5, .val (rList rStr) b_9, .any, .val rStr one_14] _ _ _ from (ef_guard (et_not (et_val (ev_call (ea_cons (ev_enc datBool (ev_call (ea_cons (ev_var 9 rfl) ea_nil))) (ea_cons (ev_enc datBool (ev_call (ea_cons (ev_var 9 rfl) ea_nil))) ea_nil))))) (el_ret ev_bl) (ef_if (et_not (et_val (ev_call (ea_cons (ev_enc datBool (ev_call (ea_cons (ev_var 9 rfl) ea_nil))) (ea_cons (ev_enc datBool (ev_call (ea_cons (ev_var 9 rfl) ea_nil))) ea_nil))))) (ef_ol (el_ret ev_bl)) (ef_of (es_weak (fun _ => ()) es_pass (fun _ => (.same (.same (.same (.same (.same (.same (.same (.same (.same (.any .nil)))))))))))))))))) (fun b_13 => (show El _ _ _ [.any, .val rPool q, .val rStr text_1, .val rStr near_2, .val rInt place_3, .val rStr sign_4, .val rStr full_5, .val (rList rStr) b_9, .any, .any] _ _ from (el_ret ev_bl))))))))))))))))))))))))))))))))))
end
end My

namespace My
open PySem PySem.Spec L2 Kf
open PyProof.Rows hiding St
theorem draw_ok (b : Int) (hb : b < 1073741824) : Dr (m_law_draw b) (fun v => 0 ≤ v ∧ (2 ≤ b → v < b) ∧ (b < 2 → v = 0)) := by
  unfold m_law_draw
  simp only [pure_bind, bind_assoc]
  refine Dr.ite (fun h => .pure ?_) fun h => ?_
  · simp only [decide_eq_true_eq] at h
    omega
  simp only [decide_eq_true_eq] at h
  have hm : ∀ x : Int, Dr (modM x b) (fun v => 0 ≤ v ∧ (2 ≤ b → v < b) ∧ (b < 2 → v = 0)) := fun x => by
    rw [modM_ok (by omega)]
    exact .pure ⟨Int.emod_nonneg _ (by omega), fun _ => Int.emod_lt_of_pos _ (by omega), fun h => by omega⟩
  refine .bind (.poolGet 3) fun x _ => .bind (Q := fun x => x = .nx () ∨ x = .rt 0) (.ite (fun _ => .item (.pure (.inr rfl)) fun v => ?_) fun _ => .pure (.inl rfl)) fun x hx => ?_
  · refine .bind (.poolSet 2 (by omega)) fun _ _ => .bind (.poolGet 1) fun w hw => .bind (.poolSet 1 fun _ => by have := hw rfl; omega) fun _ _ => .bind (.poolSet 3 (by omega)) fun _ _ => .bind (.poolSet 4 (by omega)) fun _ _ => .bind (.poolGet 2) fun _ _ => ?_
    rw [powM_ok (by decide), pure_bind]
    exact .bind (.ite (fun _ => .bind (.poolSet 3 (by omega)) fun _ _ => .bind (.poolSet 4 (by omega)) fun _ _ => .pure trivial) fun _ => .pure trivial) fun _ (_ : True) => .pure (.inl rfl)
  rcases hx with rfl | rfl
  · refine .bind (.poolGet 3) fun _ _ => .bind (.poolSet 3 (by omega)) fun _ _ => .bind (.poolGet 4) fun _ _ => .ite (fun _ => ?_) fun _ => ?_
    · refine .bind (.poolGet 2) fun y _ => .bind (hm y) fun z hz => .bind (.poolGet 2) fun _ _ => ?_
      rw [divM_ok (by omega) hb, pure_bind]
      exact .bind (.poolSet 2 (by omega)) fun _ _ => .bind (.poolGet 2) fun _ _ => .bind (.ite (fun _ => .bind (.poolSet 3 (by omega)) fun _ _ => .pure trivial) fun _ => .pure trivial) fun _ (_ : True) => .pure hz
    · refine .bind (.poolGet 2) fun y _ => ?_
      simp only [modM_ok (show (0 : Int) < 1000003 by decide), modM_ok (show (0 : Int) < 2147483647 by decide), modM_ok (show (0 : Int) < 2147483399 by decide), mulM_r (show -(2 ^ 64 : Int) < 48271 by decide) (by decide), mulM_r (show -(2 ^ 64 : Int) < 69621 by decide) (by decide), mulM_r (show -(2 ^ 64 : Int) < 7919 by decide) (by decide), mulM_r (show -(2 ^ 64 : Int) < 40692 by decide) (by decide), mulM_r (show -(2 ^ 64 : Int) < 31 by decide) (by decide), divM_ok (show (0 : Int) < 9 by decide) (by decide), pure_bind]
      exact .bind (.poolGet 3) fun _ _ => .bind (.poolGet 1) fun _ _ => hm _
  · exact .pure ⟨Int.le_refl 0, fun _ => by omega, fun _ => rfl⟩
theorem sign_ok (i : Int) : ∃ c, m_law_sign i = pure (chr1 c) := by
  unfold m_law_sign
  simp only [pure_bind, bind_assoc]
  have e : ∃ S : Str, Str.ofString " !\"#$&'()*+,-./0123456789:;<=>?@ABCDEFGHIJKLMNOPQRSTUVWXYZ[\\]^_`" ++ Str.ofString "abcdefghijklmnopqrstuvwxyz{|}~" = S ∧ 0 < S.length := ⟨_, rfl, by decide +kernel⟩
  rw [catS_ok (by decide +kernel), pure_bind]
  obtain ⟨S, e, hS⟩ := e
  rw [e]
  rw [modM_ok (by omega), pure_bind]
  obtain ⟨c, _, h⟩ := getS_in (x := S) (i := i % (S.length : Int)) (Int.emod_nonneg _ (by omega)) (Int.emod_lt_of_pos _ (by omega))
  exact ⟨c, h⟩
theorem Dr.sign (i : Int) : Dr (frame (m_law_sign i)) (fun x => x.length ≤ 1) := by
  obtain ⟨c, h⟩ := sign_ok i
  rw [h]
  exact .pure (Nat.le_refl _)
theorem Dr.pick (x : Str) (b : Int) (h0 : 2 ≤ b) (h1 : b ≤ x.length) (h2 : b < 1073741824) {β : Type} {f : Str → PM β} {R : β → Prop} (k : ∀ c, Dr (f (chr1 c)) R) : Dr (m_law_draw b >>= fun i => getS x i >>= f) R :=
  .bind (draw_ok b h2) fun i hi => by
    obtain ⟨c, _, h⟩ := getS_in (x := x) (i := i) hi.1 (by have := hi.2.1 h0; omega)
    rw [h, pure_bind]
    exact k c
theorem word_ok (n : Int) (hn : 0 ≤ n) (h : n ≤ 1000000) : Dr (m_law_word n) (fun x => x.length = max 1 n.toNat) := by
  unfold m_law_word
  simp only [pure_bind, bind_assoc, bind_pure]
  refine Dr.pick _ _ (by decide) (by decide +kernel) (by decide) fun c => ?_
  rw [rangeM_ok (by decide) (by decide) (by omega) (by omega), pure_bind]
  refine (Dr.forAn (I := fun k b => b.length = k + 1) (n := (irange 0 (n - 1)).length) (k := 0) rfl rfl fun a ha j b hj hb => Dr.pick _ _ (by decide) (by decide +kernel) (by decide) fun c => ?_).imp fun x hx => ?_
  · rw [irange_length] at hj
    show Dr (catS b (chr1 c)) _
    rw [catS_ok (by rw [len_chr1]; omega)]
    exact .pure (by rw [len_app, len_chr1]; omega)
  · rw [irange_length] at hx
    omega
theorem text_ok : Dr m_law_text (fun x => x.length ≤ 27) := by
  unfold m_law_text
  simp only [pure_bind, bind_assoc, bind_pure]
  refine .bind (draw_ok 4 (by decide)) fun form _ => .ite (fun _ => ?_) fun _ => .ite (fun _ => ?_) fun _ => ?_
  · refine .bind (draw_ok 27 (by decide)) fun n hn => ?_
    have := hn.2.1 (by decide)
    rw [rangeM_ok (by decide) (by decide) (by omega) (by omega), pure_bind]
    refine (Dr.forAn (I := fun k b => b.length ≤ k) (n := (irange 0 n).length) (k := 0) rfl (by decide) fun a ha j b hj hb => .bind (draw_ok 94 (by decide)) fun i _ => .bind (Dr.sign i) fun c hc => ?_).imp fun x hx => ?_
    · rw [irange_length] at hj
      exact .catS hb hc (by omega)
    · rw [irange_length] at hx
      omega
  · refine .bind (draw_ok 27 (by decide)) fun n hn => ?_
    have := hn.2.1 (by decide)
    rw [rangeM_ok (by decide) (by decide) (by omega) (by omega), pure_bind]
    refine (Dr.forAn (I := fun k b => b.length ≤ k) (n := (irange 0 n).length) (k := 0) rfl (by decide) fun a ha j b hj hb => Dr.pick _ _ (by decide) (by decide +kernel) (by decide) fun c => ?_).imp fun x hx => ?_
    · rw [irange_length] at hj
      exact .catS hb (Nat.le_of_eq (len_chr1 c)) (by omega)
    · rw [irange_length] at hx
      omega
  · refine .bind (draw_ok 24 (by decide)) fun n hn => ?_
    have := hn.2.1 (by decide)
    refine .bind (word_ok (1 + n) (by omega) (by omega)) fun x hx => .ite (fun _ => ?_) fun _ => .pure (by omega)
    refine .bind (draw_ok _ (by omega)) fun p hp => .bind (draw_ok 94 (by decide)) fun i _ => .bind (Dr.sign i) fun c hc => ?_
    have h1 : (cutS x none (some p)).length ≤ p.toNat := by
      rw [len_tx, tx_cutS, List.length_take]
      have : HT.sIx x.length x.length (some p) ≤ p.toNat := by
        show (if p < 0 then _ else min p.toNat x.length) ≤ _
        rw [if_neg (by omega)]
        omega
      omega
    have h2 : (cutS x (some (p + 1)) none).length ≤ x.length - (p.toNat + 1) := by
      rw [len_tx, tx_cutS, List.length_take, List.length_drop, ← len_tx]
      have : HT.sIx x.length 0 (some (p + 1)) = min (p + 1).toNat x.length := by
        show (if p + 1 < 0 then _ else min (p + 1).toNat x.length) = _
        rw [if_neg (by omega)]
      rw [this]
      omega
    refine .bind (.catS h1 hc (by have := hp.2.1; have := hp.2.2; omega)) fun y hy => (Dr.catS hy h2 ?_).imp fun z hz => ?_
    · have := hp.2.1; have := hp.2.2; omega
    · have := hp.2.1; have := hp.2.2; omega
theorem later_ok (x : Str) : m_law_later x = pure ((tx x).all fun c => decide (c ∈ tx "abcdefghijklmnopqrstuvwxyz.0123456789")) := by
  unfold m_law_later
  simp only [pure_bind, bind_assoc]
  have := forF_all (ρ := Bool) (f := fun sign_3 b_2 => inSign sign_3 (Str.ofString "abcdefghijklmnopqrstuvwxyz.0123456789") >>= fun x => if (!x) = true then pure (Fl.rt false) else pure (Fl.nx ())) (t := fun a => decide ((tx a).headD 0 ∈ tx "abcdefghijklmnopqrstuvwxyz.0123456789")) (r := false) (l := signsL x) (fun a ha => by
    rw [signsL_eq] at ha
    obtain ⟨c, _, rfl⟩ := List.mem_map.mp ha
    rw [inSign_chr, pure_bind]
    show (if (!decide (c ∈ tx "abcdefghijklmnopqrstuvwxyz.0123456789")) = true then _ else _) = pure (if decide (c ∈ tx "abcdefghijklmnopqrstuvwxyz.0123456789") = true then _ else _)
    by_cases h : c ∈ tx "abcdefghijklmnopqrstuvwxyz.0123456789" <;> simp [h])
  rw [this, pure_bind]
  have e : (signsL x).all (fun a => decide ((tx a).headD 0 ∈ tx "abcdefghijklmnopqrstuvwxyz.0123456789")) = (tx x).all fun c => decide (c ∈ tx "abcdefghijklmnopqrstuvwxyz.0123456789") := by
    rw [signsL_eq, List.all_map]
    rfl
  rw [e]
  cases (tx x).all fun c => decide (c ∈ tx "abcdefghijklmnopqrstuvwxyz.0123456789") <;> rfl
theorem all_ok (x : Str) (h : x.length ≤ 16777216) : (sized (compE (fun a => inSign a (Str.ofString "abcdefghijklmnopqrstuvwxyz0123456789.")) (signsL x)) >>= fun l => pure (l.all id)) = m_law_later x := by
  rw [later_ok, compE_pure (g := fun a => decide ((tx a).headD 0 ∈ tx "abcdefghijklmnopqrstuvwxyz0123456789.")) (fun a ha => by
    rw [signsL_eq] at ha
    obtain ⟨c, _, rfl⟩ := List.mem_map.mp ha
    rfl), sized_pure (by rw [sizeLine_val, List.length_map, signsL_eq, List.length_map, ← len_tx]; exact h), pure_bind, signsL_eq, List.map_map, List.all_map]
  congr 2
  have hl : ∀ c, decide (c ∈ tx "abcdefghijklmnopqrstuvwxyz0123456789.") = decide (c ∈ tx "abcdefghijklmnopqrstuvwxyz.0123456789") := fun c => by
    have h1 : ∀ c ∈ tx "abcdefghijklmnopqrstuvwxyz0123456789.", c ∈ tx "abcdefghijklmnopqrstuvwxyz.0123456789" := by decide +kernel
    have h2 : ∀ c ∈ tx "abcdefghijklmnopqrstuvwxyz.0123456789", c ∈ tx "abcdefghijklmnopqrstuvwxyz0123456789." := by decide +kernel
    exact decide_eq_decide.mpr ⟨h1 c, h2 c⟩
  funext c
  exact hl c
theorem kind_eq (x : Str) : m_is_kind_name x = m_law_kind_due x := by
  unfold m_is_kind_name m_law_kind_due
  simp only [pure_bind, bind_assoc]
  by_cases h1 : 1 ≤ (x.length : Int) <;> by_cases h2 : (x.length : Int) ≤ 24 <;> simp [h1, h2, -bind_pure_comp, -Bool.exists_bool]
  obtain ⟨c, _, h⟩ := getS_in (x := x) (i := 0) (by omega) (by omega)
  simp only [h, pure_bind, inSign_chr, all_ok x (by omega)]
  by_cases hc : c ∈ tx "abcdefghijklmnopqrstuvwxyz"
  · simp [hc]
  · simp [hc]
theorem unknown_eq (x : Str) : m_is_unknown_name x = m_law_unknown_due x := by
  unfold m_is_unknown_name m_law_unknown_due
  simp only [pure_bind, bind_assoc]
  by_cases h1 : 2 ≤ (x.length : Int) <;> by_cases h2 : (x.length : Int) ≤ 25 <;> simp [h1, h2, -bind_pure_comp, -Bool.exists_bool]
  obtain ⟨c, _, h⟩ := getS_in (x := x) (i := 0) (by omega) (by omega)
  simp only [h, pure_bind, all_ok (cutS x (some 1) none) (len_cut (show x.length ≤ 16777216 by omega))]
theorem kind_ok (x : Str) : ∃ b, m_law_kind_due x = pure b := by
  unfold m_law_kind_due
  simp only [pure_bind, bind_assoc]
  by_cases h1 : 1 ≤ (x.length : Int) <;> by_cases h2 : (x.length : Int) ≤ 24 <;> simp [h1, h2, -bind_pure_comp, -Bool.exists_bool]
  · obtain ⟨c, _, h⟩ := getS_in (x := x) (i := 0) (by omega) (by omega)
    rw [h, pure_bind, inSign_chr, pure_bind, later_ok]
    split <;> exact ⟨_, rfl⟩
  all_goals exact ⟨_, rfl⟩
theorem unknown_ok (x : Str) : ∃ b, m_law_unknown_due x = pure b := by
  unfold m_law_unknown_due
  simp only [pure_bind, bind_assoc]
  by_cases h1 : 2 ≤ (x.length : Int) <;> by_cases h2 : (x.length : Int) ≤ 25 <;> simp [h1, h2, -bind_pure_comp, -Bool.exists_bool]
  · obtain ⟨c, _, h⟩ := getS_in (x := x) (i := 0) (by omega) (by omega)
    rw [h, pure_bind, later_ok]
    split <;> exact ⟨_, rfl⟩
  all_goals exact ⟨_, rfl⟩
theorem same_bool (a b : Bool) : m_law_same 7 (.bool a) (.bool b) = pure (decide (a = b)) := by
  cases a <;> cases b <;> rfl
theorem Dr.mulS (x : Str) (n : Int) (h : 0 ≤ n ∧ n ≤ 1000 ∧ x.length ≤ 100 ∧ (Txt.mul x n).length ≤ sizeLine) : Dr (mulS x n) (fun y => y = Txt.mul x n) := .guard h rfl
theorem law_ok : Dr m_law (fun b => b = true) := by
  unfold m_law
  simp only [pure_bind, bind_assoc, bind_pure]
  refine .bind text_ok fun text h1 => ?_
  have h2 : (cutS text none (some 8)).length ≤ 27 := len_cut h1
  refine .bind (draw_ok _ (by omega)) fun place _ => .bind (draw_ok 94 (by decide)) fun i _ => .bind (Dr.sign i) fun sign h3 => .bind (draw_ok 24 (by decide)) fun n hn => ?_
  have := hn.2.1 (by decide)
  refine .bind (word_ok (1 + n) (by omega) (by omega)) fun w hw => .bind (Dr.mulS _ _ (by decide +kernel)) fun y hy => ?_
  have hy2 : y.length ≤ 24 := by rw [hy]; decide +kernel
  refine .bind (.catS (m := 24) (by omega) hy2 (by decide)) fun full hf => ?_
  have q1 : (Str.ofString "?").length ≤ 1 := by decide +kernel
  have q2 : (Str.ofString "a").length ≤ 1 := by decide +kernel
  generalize hF : cutS full none (some 24) = F
  have hF : F.length ≤ 48 := hF ▸ len_cut hf
  have hG : (cutS F none (some 23)).length ≤ 48 := len_cut hF
  generalize cutS F none (some 23) = G at hG ⊢
  refine .bind (.catS q1 h1 (by decide)) fun x2 _ => .bind (.catS h1 h3 (by decide)) fun x3 _ => .bind (.catS q1 h1 (by decide)) fun x4 h4 => .bind (.catS h4 h3 (by decide)) fun x5 _ => .bind (.catS h3 h1 (by decide)) fun x6 _ => ?_
  refine .bind (.catS q1 hF (by decide)) fun _ _ => .bind (.catS hG h3 (by decide)) fun _ _ => .bind (.catS q1 hG (by decide)) fun _ h => .bind (.catS h h3 (by decide)) fun _ _ => ?_
  refine .bind (.catL (m := 9) (n := 4) (Nat.le_refl _) (Nat.le_refl _) (by decide)) fun l1 hl1 => ?_
  refine .bind (.catS hF q2 (by decide)) fun _ _ => .bind (.catS q1 hF (by decide)) fun _ h => .bind (.catS h q2 (by decide)) fun _ _ => .bind (.catS hF h3 (by decide)) fun _ _ => .bind (.catS q1 hF (by decide)) fun _ h => .bind (.catS h h3 (by decide)) fun _ _ => ?_
  refine .bind (.catL (n := 4) hl1 (Nat.le_refl _) (by decide)) fun l2 hl2 => ?_
  rw [rangeM_ok (by decide) (by decide) (by decide) (by decide), pure_bind]
  refine .bind (Dr.forAn (I := fun k (b : List Str) => b.length ≤ 17 + 2 * k) (n := (irange 0 94).length) (k := 0) rfl hl2 fun a ha j b hj hb => ?_) fun l3 hl3 => ?_
  · have hj : j < 94 := hj
    have c1 : (cutS (cutS text none (some 8)) none (some place)).length ≤ 27 := len_cut h2
    have c2 : (cutS (cutS text none (some 8)) (some place) none).length ≤ 27 := len_cut h2
    refine .bind (Dr.sign a) fun c hc => .bind (.catS c1 hc (by decide)) fun _ h => .bind (.catS h c2 (by decide)) fun _ _ => .bind (.appM hb (by omega)) fun _ h5 => .bind (.catS q1 c1 (by decide)) fun _ h6 => .bind (Dr.sign a) fun c hc => .bind (.catS h6 hc (by decide)) fun _ h => .bind (.catS h c2 (by decide)) fun _ _ => (Dr.appM h5 (by omega)).imp fun _ h => ?_
    omega
  · rw [forF_nx, pure_bind]
    · exact .pure rfl
    · intro a _
      obtain ⟨b1, e1⟩ := kind_ok a
      obtain ⟨b2, e2⟩ := unknown_ok a
      rw [kind_eq, unknown_eq, e1, e2]
      simp only [frame_pure, pure_bind, same_bool]
      simp
theorem law_holds : ∀ ns : List Int, ns.length ≤ 63 → ∃ p', m_law (pool0 ns) = (.ok true, p') := fun ns _ => law_ok.run (Int.le_refl 0)
end My

namespace My
open PySem PySem.Spec L2 Kf
open PyProof.Rows hiding St
def fn_0 : List He.DefD := [⟨("_law_draw", none), "_law_draw", "_law_draw", defArgs (top 8), defBody (top 8), defScope (top 8), [], []⟩, ⟨("_law_sign", none), "_law_sign", "_law_sign", defArgs (top 11), defBody (top 11), defScope (top 11), [], []⟩, ⟨("_law_word", none), "_law_word", "_law_word", defArgs (top 9), defBody (top 9), defScope (top 9), [], []⟩, ⟨("_law_text", none), "_law_text", "_law_text", defArgs (top 12), defBody (top 12), defScope (top 12), [], []⟩, ⟨("is_kind_name", none), "is_kind_name", "is_kind_name", defArgs (top 4), defBody (top 4), defScope (top 4), [], []⟩, ⟨("_law_later", none), "_law_later", "_law_later", defArgs (top 13), defBody (top 13), defScope (top 13), [], []⟩]
def fn_1 : List He.DefD := [⟨("_law_kind_due", none), "_law_kind_due", "_law_kind_due", defArgs (top 14), defBody (top 14), defScope (top 14), [], []⟩, ⟨("_law_same", none), "_law_same", "_law_same", defArgs (top 10), defBody (top 10), defScope (top 10), [], []⟩, ⟨("is_unknown_name", none), "is_unknown_name", "is_unknown_name", defArgs (top 5), defBody (top 5), defScope (top 5), [], []⟩, ⟨("_law_unknown_due", none), "_law_unknown_due", "_law_unknown_due", defArgs (top 15), defBody (top 15), defScope (top 15), [], []⟩, ⟨("law", none), "law", "law", defArgs (top 16), defBody (top 16), defScope (top 16), [], []⟩, ⟨("_law_pool", none), "_law_pool", "_law_pool", defArgs (top 7), defBody (top 7), defScope (top 7), [], []⟩]
def fn : List He.DefD := fn_0 ++ fn_1

def fa_0 : List He.Fa := [.glo "_law_draw", .glo "_law_sign", .glo "_law_word", .glo "_law_text", .glo "is_kind_name", .glo "_law_later", .glo "_law_kind_due", .glo "_law_same", .glo "is_unknown_name", .glo "_law_unknown_due", .glo "law", .glo "_law_pool"]
def fa_1 : List He.Fa := [.free "abs", .free "all", .free "bool", .free "int", .free "isinstance", .free "len", .free "list", .free "range", .free "str", .free "tuple", .str "LATER" "abcdefghijklmnopqrstuvwxyz0123456789.", .str "LETTERS" "abcdefghijklmnopqrstuvwxyz"]
def fa_2 : List He.Fa := [.int "MOST_LETTERS" 24]
def fa : List He.Fa := fa_0 ++ fa_1 ++ fa_2

def loose_0 : List PySem.Str := ["MOST_LETTERS", "LETTERS", "LATER", "is_kind_name", "is_unknown_name", "_law_pool", "_law_draw", "_law_word", "_law_same", "_law_sign", "_law_text", "_law_later"]
def loose_1 : List PySem.Str := ["_law_kind_due", "_law_unknown_due"]
def loose : List PySem.Str := loose_0 ++ loose_1

abbrev RR : PySem.W.OpenRow := PySem.W.OpenLaw.row PySem.Challenge.rw_kindsfill_k00_kind_names
abbrev hk : PySem.W.Hook := He.hookD 4 fa fn
def ob (s : PySem.W.SharedT) : He.AlD := He.obsDG 4 fa fn (HandSHeadRun.getT s)
theorem ob_eq (s : PySem.W.SharedT) : ob s = hk.obs s.abs := He.obsDG_eq (HandSHeadRun.getT_eq s)
set_option maxHeartbeats 0 in
theorem run (w : World) : HandSHeadRun.RunEq RR (PySem.W.view RR.prog [16]) hk ob 4000 loose w := by
  intro os
  kernel_rfl
theorem facts (hm : ∀ ns : List Int, ns.length ≤ 63 → ∃ p', m_law (pool0 ns) = (.ok true, p')) {P : Program} {w : World} {K : PySem.W.Frag} {h : Heap} {mg : Str → Option Value} {f : Addr} (X : K.In h) (G : h.Ns mainGlobals mg) (hfa : mg ("law" : Str) = some (.ref f)) (c : He.SaysD fa fn K) :
    ∃ fd : FuncData, (∀ (s : Shared) (v : Value), BindsTo s fd ⟨[v], []⟩ [("script", v)]) ∧ ∀ base : Heap, K.In base → base.Ns mainGlobals mg → FnOk P w K mg base (L2.CX P w) 8 f fd ["script"] (spLaw K) := by
  obtain ⟨fd__law_draw, F__law_draw⟩ := c.def_ 0 rfl
  obtain ⟨fd__law_sign, F__law_sign⟩ := c.def_ 1 rfl
  obtain ⟨fd__law_word, F__law_word⟩ := c.def_ 2 rfl
  obtain ⟨fd__law_text, F__law_text⟩ := c.def_ 3 rfl
  obtain ⟨fd_is_kind_name, F_is_kind_name⟩ := c.def_ 4 rfl
  obtain ⟨fd__law_later, F__law_later⟩ := c.def_ 5 rfl
  obtain ⟨fd__law_kind_due, F__law_kind_due⟩ := c.def_ 6 rfl
  obtain ⟨fd__law_same, F__law_same⟩ := c.def_ 7 rfl
  obtain ⟨fd_is_unknown_name, F_is_unknown_name⟩ := c.def_ 8 rfl
  obtain ⟨fd__law_unknown_due, F__law_unknown_due⟩ := c.def_ 9 rfl
  obtain ⟨fd_law, F_law⟩ := c.def_ 10 rfl
  obtain ⟨fd__law_pool, F__law_pool⟩ := c.def_ 11 rfl
  have T : Tx K mg := ⟨fd__law_draw, F__law_draw, (He.glo_ok X G (c.fact 0 rfl)), fd__law_sign, F__law_sign, (He.glo_ok X G (c.fact 1 rfl)), fd__law_word, F__law_word, (He.glo_ok X G (c.fact 2 rfl)), fd__law_text, F__law_text, (He.glo_ok X G (c.fact 3 rfl)), fd_is_kind_name, F_is_kind_name, (He.glo_ok X G (c.fact 4 rfl)), fd__law_later, F__law_later, (He.glo_ok X G (c.fact 5 rfl)), fd__law_kind_due, F__law_kind_due, (He.glo_ok X G (c.fact 6 rfl)), fd__law_same, F__law_same, (He.glo_ok X G (c.fact 7 rfl)), fd_is_unknown_name, F_is_unknown_name, (He.glo_ok X G (c.fact 8 rfl)), fd__law_unknown_due, F__law_unknown_due, (He.glo_ok X G (c.fact 9 rfl)), fd_law, F_law, (He.glo_ok X G (c.fact 10 rfl)), fd__law_pool, F__law_pool, (He.glo_ok X G (c.fact 11 rfl)), (He.free_ok X G (c.fact 12 rfl)), (He.free_ok X G (c.fact 13 rfl)), (He.free_ok X G (c.fact 14 rfl)), (He.free_ok X G (c.fact 15 rfl)), (He.free_ok X G (c.fact 16 rfl)), (He.free_ok X G (c.fact 17 rfl)), (He.free_ok X G (c.fact 18 rfl)), (He.free_ok X G (c.fact 19 rfl)), (He.free_ok X G (c.fact 20 rfl)), (He.free_ok X G (c.fact 21 rfl)), (He.str_ok X G (c.fact 22 rfl)), (He.str_ok X G (c.fact 23 rfl)), (He.int_ok X G (c.fact 24 rfl))⟩
  have e := hfa.symm.trans T.g_law
  cases e
  have b := FunD.bindsA (ps := ["script"]) T.F_law fun _ _ _ _ _ _ us hl => match us, hl with | [_], _ => rfl
  exact ⟨T.fd_law, fun s v => b s [v] rfl, fun base _ _ => ok_law T hm⟩
end My

set_option maxRecDepth 100000
open PySem PySem.W PySem.Calls PyProof.Rows
set_option maxHeartbeats 0 in
theorem PySem.Challenge.cw_kindsfill_k00_kind_names_holds : PySem.Challenge.rw_kindsfill_k00_kind_names.Holds := by
  w_on; o_law
  refine HandSHeadRun.head_any (r := OpenLaw.row PySem.Challenge.rw_kindsfill_k00_kind_names) (q := view (OpenLaw.row PySem.Challenge.rw_kindsfill_k00_kind_names).prog [16]) (H := My.hk) (ob := My.ob) (M := 4000) (loose := My.loose) (d := HandSHeadRun.topDef (OpenLaw.row PySem.Challenge.rw_kindsfill_k00_kind_names).prog 16) (kwd := []) My.ob_eq
    (by kernel_rfl) (fun s => by kernel_rfl) My.run (by kernel_rfl) (by kernel_rfl) (by kernel_rfl) (by rfl) (by first | assumption | decide +kernel) (by decide +kernel) ⟨rfl, rfl, rfl, rfl, rfl, by decide +kernel⟩ ?hw ?hc
  case hw => w_witness2
  case hc =>
    refine L2.walk_ofE (l := PySem.Challenge.rw_kindsfill_k00_kind_names) (n := 63) (k := 8) (x := "script") (CX := Kf.CXw (PySem.Challenge.rw_kindsfill_k00_kind_names).prog) rfl (by decide) (by kernel_rfl) ⟨rfl, by decide, by decide⟩ ?F Kf.cxw_none
    intro w mg fa h Y G hmg0
    obtain ⟨K, KX, c⟩ := Y
    have hmg : mg ("law" : PySem.Str) = some (.ref fa) := by
      have e : (HandSHeadRun.topDef (OpenLaw.row PySem.Challenge.rw_kindsfill_k00_kind_names).prog 16).name = ("law" : PySem.Str) := by kernel_rfl
      rw [← e]
      exact hmg0
    obtain ⟨fd, hb, hF⟩ := My.facts My.law_holds (P := (PySem.Challenge.rw_kindsfill_k00_kind_names).prog) (w := w) KX G hmg c
    exact ⟨K, fd, Kf.spLaw K, KX, hb, fun H a ns hl _ hS => ⟨a, ns, rfl, hS, hl, fun _ => rfl⟩, fun base h1 h2 => Kf.fn_cxw (hF base h1 h2)⟩

