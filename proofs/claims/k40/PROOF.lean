import PyProof.Rows.All
import Wide.All
import OpenK.AllK
import Wide.FinOn
import HandS.ForMost
import HandS.Exc
import HandS.ExcOwn
import HandS.WordsExc
import HandS.Defaults
import HandS.CallSlots
import HandS.HeadHook1
import HandS.HeadHook2
import HandS.Wide
import HandS.Walk
import HandS.Ends
import HandS.HeadEnd
import HandS.ExcCtx
import HandS.HotCalls
import HandS.Deep
import HandS.IsInst
import PyProof.StrBlock2
import PyProof.Rows.StrMul
import HandS.ForSpec
import HandS.HeadHook3
import HandS.HeadHook4
import KE.KSuper
import KE.KExcSuper
import HandS.ExcInit
import KE.KExcIs
import HandS.Dict
import HandS.ClsMeth
import HandS.More
import HandS.Iter
import HandS.SlotsOwn
import HandS.Star
import HandS.HeadNt
import HandS.MethStar
import PyProof.FactsAll.list_3
import PyProof.FactsAll.list_4
import KE.KOpsOwn
import KE.KOwnIter
import HandS.IterNext
import HandS.Conv
import HandS.Zip
import HandS.Small
import HandS.FStr
import HandS.Style
import HandS.TupAny
import PyProof.MeetsIn
import PyProof.Rows.Range3
import HandS.Text
import HandS.Property
import KE.KStateDown
import HandS.Head0
import HandS.Head1
import HandS.Head2
import PySem.Challenge.RW_kindsfill_k40_walk_counts
set_option Elab.async false
set_option linter.all false
set_option maxRecDepth 100000
set_option maxHeartbeats 4000000
set_option maxHeartbeats 4000000
/-! Kf: typed mirrors over the hand layer. -/
namespace Kf
open PySem PySem.Spec L2
open PyProof.Rows hiding St

/-! ### what a mirror may end in -/
inductive Pay where
  | non | one (f : Str) (x : PyData) | two (f : Str) (x : PyData) (g : Str) (y : PyData)
structure Exc where
  cls : Str
  pay : Pay
inductive Er where
  | stuck | exc (e : Exc)
/-- the pool of a law: the script, the place in it, the number at hand, the draws left, its mode -/
structure Pool where
  scr : List Int
  pos : Int
  cur : Int
  left : Int
  mode : Int
def PM (α : Type) : Type := Pool → Except Er α × Pool
def PM.pure {α : Type} (a : α) : PM α := fun p => (.ok a, p)
def PM.bind {α β : Type} (m : PM α) (f : α → PM β) : PM β := fun p => match m p with
  | (.ok a, p') => f a p'
  | (.error e, p') => (.error e, p')
instance : Monad PM where
  pure := PM.pure
  bind := PM.bind
def stuck {α : Type} : PM α := fun p => (.error .stuck, p)
def raise {α : Type} (e : Exc) : PM α := fun p => (.error (.exc e), p)
theorem run_pure {α : Type} (a : α) (p : Pool) : (pure a : PM α) p = (.ok a, p) := rfl
theorem run_bind {α β : Type} (m : PM α) (f : α → PM β) (p : Pool) : (m >>= f) p = (match m p with
  | (.ok a, p') => f a p'
  | (.error e, p') => (.error e, p')) := rfl
instance : LawfulMonad PM := LawfulMonad.mk'
  (id_map := fun {α} x => by
    funext p
    show PM.bind x _ p = x p
    unfold PM.bind
    rcases x p with ⟨_ | _, _⟩ <;> rfl)
  (pure_bind := fun _ _ => rfl)
  (bind_assoc := fun {α β γ} x f g => by
    funext p
    show PM.bind (PM.bind x f) g p = PM.bind x (fun a => PM.bind (f a) g) p
    unfold PM.bind
    rcases x p with ⟨_ | _, _⟩ <;> rfl)
@[simp] theorem stuck_bind {α β : Type} (f : α → PM β) : (stuck >>= f) = stuck := rfl
@[simp] theorem raise_bind {α β : Type} (e : Exc) (f : α → PM β) : (raise e >>= f) = raise e := rfl

/-! ### how data lie in a heap that stands still -/
structure Rg (X α : Type) where
  rel : Hp → X → α → Prop
  mono : ∀ {F F' : Hp} {v : X} {a : α}, Same F F' → rel F v a → rel F' v a
/-- a value; an object's content; arguments -/
abbrev Rl (α : Type) := Rg V α
abbrev Ro (α : Type) := Rg HO α
abbrev Ra (α : Type) := Rg (List V) α
universe u v
inductive All2 {α : Type u} {β : Type v} (R : α → β → Prop) : List α → List β → Prop where
  | nil : All2 R [] []
  | cons {a b l m} : R a b → All2 R l m → All2 R (a :: l) (b :: m)
theorem All2.imp {α : Type u} {β : Type v} {R S : α → β → Prop} (h : ∀ a b, R a b → S a b) : ∀ {l : List α} {m : List β}, All2 R l m → All2 S l m
  | _, _, .nil => .nil
  | _, _, .cons r t => .cons (h _ _ r) (t.imp h)
theorem All2.length {α : Type u} {β : Type v} {R : α → β → Prop} : ∀ {l : List α} {m : List β}, All2 R l m → l.length = m.length
  | _, _, .nil => rfl
  | _, _, .cons _ t => by simp [t.length]
theorem All2.append {α : Type u} {β : Type v} {R : α → β → Prop} : ∀ {l l' : List α} {m m' : List β}, All2 R l m → All2 R l' m' → All2 R (l ++ l') (m ++ m')
  | _, _, _, _, .nil, s => s
  | _, _, _, _, .cons r t, s => .cons r (t.append s)
theorem All2.get {α : Type u} {β : Type v} {R : α → β → Prop} : ∀ {l : List α} {m : List β} {i : Nat} {b : β}, All2 R l m → m[i]? = some b → ∃ a, l[i]? = some a ∧ R a b
  | _, _, 0, b, .cons r _, h => by simp at h; subst h; exact ⟨_, by simp, r⟩
  | _, _, i + 1, b, .cons _ t, h => by
    obtain ⟨a, h1, h2⟩ := t.get (i := i) (by simpa using h)
    exact ⟨a, by simpa using h1, h2⟩
  | _, _, _, _, .nil, h => by simp at h
theorem All2.get' {α : Type u} {β : Type v} {R : α → β → Prop} : ∀ {l : List α} {m : List β} {i : Nat} {a : α}, All2 R l m → l[i]? = some a → ∃ b, m[i]? = some b ∧ R a b
  | _, _, 0, b, .cons r _, h => by simp at h; subst h; exact ⟨_, by simp, r⟩
  | _, _, i + 1, b, .cons _ t, h => by
    obtain ⟨a, h1, h2⟩ := t.get' (i := i) (by simpa using h)
    exact ⟨a, by simpa using h1, h2⟩
  | _, _, _, _, .nil, h => by simp at h
theorem All2.set {α : Type u} {β : Type v} {R : α → β → Prop} {a : α} {b : β} (r : R a b) : ∀ {l : List α} {m : List β} (i : Nat), All2 R l m → All2 R (l.set i a) (m.set i b)
  | _, _, _, .nil => .nil
  | _, _, 0, .cons _ t => .cons r t
  | _, _, i + 1, .cons q t => .cons q (t.set r i)
theorem All2.drop {α : Type u} {β : Type v} {R : α → β → Prop} : ∀ {l : List α} {m : List β} (n : Nat), All2 R l m → All2 R (l.drop n) (m.drop n)
  | _, _, 0, r => r
  | _, _, _ + 1, .nil => .nil
  | _, _, n + 1, .cons _ t => t.drop n
theorem All2.take {α : Type u} {β : Type v} {R : α → β → Prop} : ∀ {l : List α} {m : List β} (n : Nat), All2 R l m → All2 R (l.take n) (m.take n)
  | _, _, 0, _ => .nil
  | _, _, _ + 1, .nil => .nil
  | _, _, n + 1, .cons r t => .cons r (t.take n)
theorem All2.reverse {α : Type u} {β : Type v} {R : α → β → Prop} : ∀ {l : List α} {m : List β}, All2 R l m → All2 R l.reverse m.reverse
  | _, _, .nil => .nil
  | _, _, .cons r t => by
    rw [List.reverse_cons, List.reverse_cons]
    exact t.reverse.append (.cons r .nil)
theorem All2.mapv {α : Type u} {β : Type v} {f : α → β} : ∀ (l : List α), All2 (fun (v : β) a => v = f a) (l.map f) l
  | [] => .nil
  | _ :: l => .cons rfl (All2.mapv l)
theorem All2.eqv {α : Type u} {β : Type v} {f : α → β} : ∀ {vs : List β} {l : List α}, All2 (fun (v : β) a => v = f a) vs l → vs = l.map f
  | _, _, .nil => rfl
  | _, _, .cons r t => by rw [r, t.eqv]; rfl

def rInt : Rl Int := ⟨fun _ v i => v = .int i, fun _ h => h⟩
def rBool : Rl Bool := ⟨fun _ v b => v = .bl b, fun _ h => h⟩
def rNone : Rl Unit := ⟨fun _ v _ => v = .non, fun _ h => h⟩
def rStr : Rl Str := ⟨fun _ v x => v = .str x ∧ x.length ≤ sizeLine, fun _ h => h⟩
def rOpt {α : Type} (r : Rl α) : Rl (Option α) := ⟨fun F v o => match o with
  | none => v = .non
  | some a => r.rel F v a, fun {F F' v o} s h => by
    cases o with
    | none => exact h
    | some a => exact r.mono s h⟩
/-- a list that is written -/
def oList {α : Type} (r : Rl α) : Ro (List α) := ⟨fun F ho l => ∃ vs, ho = .lst vs ∧ vs.length ≤ sizeLine ∧ All2 (r.rel F) vs l,
  fun s h => by
    obtain ⟨vs, e, h2, h3⟩ := h
    exact ⟨vs, e, h2, h3.imp fun _ _ => r.mono s⟩⟩
/-- an object that stands still -/
def fz {α : Type} (r : Ro α) : Rl α := ⟨fun F v a => ∃ p ho, v = .ref p ∧ F p = some ho ∧ r.rel F ho a,
  fun s h => by
    obtain ⟨p, ho, e, h1, h2⟩ := h
    exact ⟨p, ho, e, s _ _ h1, r.mono s h2⟩⟩
def rList {α : Type} (r : Rl α) : Rl (List α) := fz (oList r)
section
variable (K : PySem.W.Frag)
theorem SqT.same {K : PySem.W.Frag} {H H' : Hp} {a : Addr} {xs : List V} (e : Same H H') (h : SqT K H a xs) : SqT K H' a xs := by
  rcases h with (h | ⟨o, h⟩) | h
  · exact .inl (.inl (e _ _ h))
  · exact .inl (.inr ⟨o, e _ _ h⟩)
  · exact .inr h
/-- a tuple of any length, all items of one kind -/
def rTup {α : Type} (r : Rl α) : Rl (List α) := ⟨fun F v l => ∃ p vs, v = .ref p ∧ SqT K F p vs ∧ vs.length ≤ sizeLine ∧ All2 (r.rel F) vs l,
  fun s h => by
    obtain ⟨p, vs, e, h1, h2, h3⟩ := h
    exact ⟨p, vs, e, SqT.same s h1, h2, h3.imp fun _ _ => r.mono s⟩⟩
def rPair {α β : Type} (r : Rl α) (u : Rl β) : Rl (α × β) := ⟨fun F v x => ∃ p a b, v = .ref p ∧ SqT K F p [a, b] ∧ r.rel F a x.1 ∧ u.rel F b x.2,
  fun s h => by
    obtain ⟨p, a, b, e, h1, h2, h3⟩ := h
    exact ⟨p, a, b, e, SqT.same s h1, r.mono s h2, u.mono s h3⟩⟩
def rTrip {α β γ : Type} (r : Rl α) (u : Rl β) (w : Rl γ) : Rl (α × β × γ) := ⟨fun F v x => ∃ p a b c, v = .ref p ∧ SqT K F p [a, b, c] ∧ r.rel F a x.1 ∧ u.rel F b x.2.1 ∧ w.rel F c x.2.2,
  fun s h => by
    obtain ⟨p, a, b, c, e, h1, h2, h3, h4⟩ := h
    exact ⟨p, a, b, c, e, SqT.same s h1, r.mono s h2, u.mono s h3, w.mono s h4⟩⟩
end
/-- needs no heap -/
def Rl.Flat {α : Type} (r : Rl α) : Prop := ∀ F F' v a, r.rel F v a → r.rel F' v a
theorem flatInt : rInt.Flat := fun _ _ _ _ h => h
theorem flatBool : rBool.Flat := fun _ _ _ _ h => h
theorem flatNone : rNone.Flat := fun _ _ _ _ h => h
theorem flatStr : rStr.Flat := fun _ _ _ _ h => h
theorem flatOpt {α : Type} {r : Rl α} (h : r.Flat) : (rOpt r).Flat := fun F F' v o q => by
  cases o with
  | none => exact q
  | some a => exact h F F' v a q

/-! ### slots -/
/-- a resource: what it owns, and what it says of that -/
structure Rs where
  A : List Addr
  ok : Hp → Hp → Option V → Prop
  ext : ∀ {F F' H H' : Hp} {o : Option V}, Same F F' → (∀ a ∈ A, ∀ x, H a = some x → H' a = some x) → ok F H o → ok F' H' o
  at' : ∀ {F H : Hp} {o : Option V}, ok F H o → ∀ a ∈ A, ∃ x, H a = some x
inductive Sl : Type 1 where
  | any
  | res (R : Rs)
  | val {α : Type} (r : Rl α) (a : α)
  | own {α : Type} (r : Ro α) (a : α)
def SlOk (F H : Hp) : Sl → Option V → Prop
  | .any, _ => True
  | .res R, o => R.ok F H o
  | .val r a, o => ∃ v, o = some v ∧ r.rel F v a
  | .own r a, o => ∃ p ho, o = some (.ref p) ∧ H p = some ho ∧ r.rel F ho a
def ownA : List Sl → St → List Addr
  | .own _ _ :: Γ, some (.ref p) :: σ => p :: ownA Γ σ
  | .res R :: Γ, _ :: σ => R.A ++ ownA Γ σ
  | _ :: Γ, _ :: σ => ownA Γ σ
  | _, _ => []
inductive SlsOk (F H : Hp) : List Sl → St → Prop where
  | nil : SlsOk F H [] []
  | cons {s o Γ σ} : SlOk F H s o → SlsOk F H Γ σ → SlsOk F H (s :: Γ) (o :: σ)
/-- the script's place; slots that stand still while exceptions are awaited -/
structure SG where
  a : Addr
  G : List Sl
  L : Hp := fun _ => none
def fre (G : List Sl) (i : Nat) : Bool := match G[i]? with
  | some (.val _ _) => false
  | _ => true
def SlsG (F : Hp) (G : List Sl) (σ : St) : Prop := (G = [] ∨ σ.length = G.length) ∧ ∀ (i : Nat) (α : Type) (r : Rl α) (a : α), G[i]? = some (.val r a) → ∃ v, σ[i]? = some (some v) ∧ r.rel F v a
theorem SlsG.nil {F : Hp} {σ : St} : SlsG F [] σ := ⟨.inl rfl, fun i α r a h => by simp at h⟩
theorem SlsG.mono {F F' : Hp} {G : List Sl} {σ : St} (h : SlsG F G σ) (s : Same F F') : SlsG F' G σ := ⟨h.1, fun i α r a e => by
  obtain ⟨v, h1, h2⟩ := h.2 i α r a e
  exact ⟨v, h1, r.mono s h2⟩⟩
theorem SlsG.set {F : Hp} {G : List Sl} {σ : St} {j : Nat} {o : Option V} (h : SlsG F G σ) (hj : fre G j = true) : SlsG F G (σ.set j o) := ⟨by rw [List.length_set]; exact h.1, fun i α r a e => by
  obtain ⟨v, h1, h2⟩ := h.2 i α r a e
  have ne : j ≠ i := fun z => by
    subst z
    unfold fre at hj
    rw [e] at hj
    cases hj
  exact ⟨v, by rw [List.getElem?_set_ne ne]; exact h1, h2⟩⟩
/-- what a law's run leans on: the written part, the pool's address, what is wanted of exceptions -/
structure Cf where
  K : PySem.W.Frag
  q : Option Addr
  s : SG
  W : WX
def PoolOk (q : Option Addr) (sc : SG) (F H : Hp) (p : Pool) : Prop := match q with
  | none => True
  | some a => F a = none ∧ H a = some (.lst [.ref sc.a, .int p.pos, .int p.cur, .int p.left, .int p.mode]) ∧ F sc.a = some (.lst (p.scr.map V.int)) ∧ p.scr.length ≤ 1000
mutual
inductive Dq (K : PySem.W.Frag) (F : Hp) : V → PyData → Prop
  | non : Dq K F .non .none
  | bl (b : Bool) : Dq K F (.bl b) (.bool b)
  | int (i : Int) : Dq K F (.int i) (.int i)
  | str (x : Str) : x.length ≤ sizeLine → Dq K F (.str x) (.str x)
  | lst {a : Addr} {xs : List V} {ds : List PyData} : F a = some (.lst xs) → xs.length ≤ sizeLine → DqAll K F xs ds → Dq K F (.ref a) (.list ds)
  | tup {a : Addr} {xs : List V} {ds : List PyData} : SqT K F a xs → xs.length ≤ sizeLine → DqAll K F xs ds → Dq K F (.ref a) (.tuple ds)
inductive DqAll (K : PySem.W.Frag) (F : Hp) : List V → List PyData → Prop
  | nil : DqAll K F [] []
  | cons {v : V} {vs : List V} {d : PyData} {ds : List PyData} : Dq K F v d → DqAll K F vs ds → DqAll K F (v :: vs) (d :: ds)
end
section
variable {K : PySem.W.Frag} {F F' H : Hp}
mutual
theorem Dq.mono (s : Same F F') : ∀ (d : PyData) (v : V), Dq K F v d → Dq K F' v d
  | .none, _, h => by cases h; exact .non
  | .bool b, _, h => by cases h; exact .bl b
  | .int i, _, h => by cases h; exact .int i
  | .str x, _, h => by cases h with | str _ k => exact .str x k
  | .list ds, _, h => by cases h with | lst h1 h2 h3 => exact .lst (s _ _ h1) h2 (DqAll.mono s ds _ h3)
  | .tuple ds, _, h => by cases h with | tup h1 h2 h3 => exact .tup (SqT.same s h1) h2 (DqAll.mono s ds _ h3)
  | .dict _, _, h => by cases h
theorem DqAll.mono (s : Same F F') : ∀ (ds : List PyData) (vs : List V), DqAll K F vs ds → DqAll K F' vs ds
  | [], _, h => by cases h; exact .nil
  | d :: ds, _, h => by cases h with | cons h1 h2 => exact .cons (Dq.mono s d _ h1) (DqAll.mono s ds _ h2)
end
theorem DqAll.length : ∀ {ds : List PyData} {vs : List V}, DqAll K F vs ds → vs.length = ds.length
  | [], _, h => by cases h; rfl
  | d :: ds, _, h => by cases h with | cons h1 h2 => simp [DqAll.length h2]
theorem DqAll.get : ∀ {ds : List PyData} {vs : List V} {i : Nat} {d : PyData}, DqAll K F vs ds → ds[i]? = some d → ∃ v, vs[i]? = some v ∧ Dq K F v d
  | [], _, _, _, _, e => by simp at e
  | _ :: _, _, 0, _, h, e => by cases h with | cons h1 h2 => simp at e; subst e; exact ⟨_, by simp, h1⟩
  | _ :: ds, _, i + 1, _, h, e => by
    cases h with
    | cons h1 h2 =>
      obtain ⟨v, k1, k2⟩ := DqAll.get (i := i) h2 (by simpa using e)
      exact ⟨v, by simpa using k1, k2⟩
end
def payR (K : PySem.W.Frag) (F : Hp) (d : Option Addr) : Pay → Prop
  | .non => d = none
  | .one f x => ∃ dx v, d = some dx ∧ F dx = some (.xd [(f, v)]) ∧ Dq K F v x
  | .two f x g y => ∃ dx v u, d = some dx ∧ F dx = some (.xd [(g, u), (f, v)]) ∧ Dq K F v x ∧ Dq K F u y
/-- an exception of the program's -/
def ExR (K : PySem.W.Frag) (F : Hp) (e : Exc) (cls : Value) (d : Option Addr) : Prop := cls = .ref (He.ga K e.cls) ∧ payR K F d e.pay
theorem ExR.mono {K : PySem.W.Frag} {F F' : Hp} {e : Exc} {cls : Value} {d : Option Addr} (s : Same F F') (h : ExR K F e cls d) : ExR K F' e cls d := by
  obtain ⟨h1, h2⟩ := h
  refine ⟨h1, ?_⟩
  obtain ⟨c, p⟩ := e
  cases p with
  | non => exact h2
  | one f x =>
    obtain ⟨dx, v, e1, e2, e3⟩ := h2
    exact ⟨dx, v, e1, s _ _ e2, Dq.mono s _ _ e3⟩
  | two f x g y =>
    obtain ⟨dx, v, u, e1, e2, e3, e4⟩ := h2
    exact ⟨dx, v, u, e1, s _ _ e2, Dq.mono s _ _ e3, Dq.mono s _ _ e4⟩
structure Ext (q : Option Addr) (F H F' H' : Hp) : Prop where
  sub : Same F F'
  sub' : Same F' H'
  keep : ∀ b o, H b = some o → q ≠ some b → H' b = some o
  new : ∀ b o, F' b = some o → F b = some o ∨ H b = none
theorem Ext.refl {q : Option Addr} {F H : Hp} (s : Same F H) : Ext q F H F H := ⟨Same.refl _, s, fun _ _ h _ => h, fun _ _ h => .inl h⟩
theorem Ext.trans {q : Option Addr} {F H F1 H1 F2 H2 : Hp} (a : Ext q F H F1 H1) (b : Ext q F1 H1 F2 H2) (hq : ∀ x, q = some x → H1 x ≠ none) : Ext q F H F2 H2 where
  sub := a.sub.trans b.sub
  sub' := b.sub'
  keep := fun c o h n => b.keep c o (a.keep c o h n) n
  new := fun c o h => by
    rcases b.new c o h with h1 | h1
    · exact a.new c o h1
    · right
      cases e : H c with
      | none => rfl
      | some u =>
        by_cases n : q = some c
        · exact absurd h1 (hq c n)
        · rw [a.keep c u e n] at h1; cases h1
theorem PoolOk.there {q : Option Addr} {sc : SG} {F H : Hp} {p : Pool} (h : PoolOk q sc F H p) : ∀ x, q = some x → H x ≠ none := fun x e => by
  subst e
  obtain ⟨_, h1, _⟩ := h
  rw [h1]; simp
theorem Ext.tr {q : Option Addr} {sc : SG} {F H F1 H1 F2 H2 : Hp} {p : Pool} (a : Ext q F H F1 H1) (b : Ext q F1 H1 F2 H2) (hp : PoolOk q sc F1 H1 p) : Ext q F H F2 H2 := a.trans b hp.there
/-- a state of a def's run: S is its entry -/
structure Good (S : Hp × Hp) (q : Option Addr) (sc : SG) (Γ : List Sl) (σ : St) (F H : Hp) (p : Pool) : Prop where
  sub : Same F H
  sl : SlsOk F H Γ σ
  nd : (ownA Γ σ).Nodup
  of : ∀ a ∈ ownA Γ σ, F a = none
  oq : ∀ a ∈ ownA Γ σ, q ≠ some a
  os : ∀ a ∈ ownA Γ σ, S.2 a = none
  ent : Ext q S.1 S.2 F H
  pl : PoolOk q sc F H p
  gx : SlsG F sc.G σ
  ln : Same sc.L S.2 ∧ ∀ x, q = some x → sc.L x = none
/-- what is lent stands -/
theorem Good.lh {S : Hp × Hp} {q : Option Addr} {sc : SG} {Γ : List Sl} {σ : St} {F H : Hp} {p : Pool} (g : Good S q sc Γ σ F H p) : Same sc.L H := fun b o h => g.ent.keep b o (g.ln.1 b o h) fun z => by rw [g.ln.2 b z] at h; cases h
theorem SlsOk.ext {F H F' H' : Hp} (s : Same F F') : ∀ {Γ : List Sl} {σ : St}, (∀ a ∈ ownA Γ σ, ∀ o, H a = some o → H' a = some o) → SlsOk F H Γ σ → SlsOk F' H' Γ σ
  | _, _, _, .nil => .nil
  | s1 :: Γ, o1 :: σ, k, .cons h t => by
    refine .cons ?_ (SlsOk.ext s (fun a ha => k a ?_) t)
    · cases s1 with
      | any => trivial
      | val r a => obtain ⟨v, e, h⟩ := h; exact ⟨v, e, r.mono s h⟩
      | res R => exact R.ext s (fun a ha => k a (List.mem_append_left _ ha)) h
      | own r a =>
        obtain ⟨p, ho, e, h1, h2⟩ := h
        subst e
        exact ⟨p, ho, rfl, k p List.mem_cons_self _ h1, r.mono s h2⟩
    · cases s1 with
      | any => exact ha
      | val r a => exact ha
      | res R => exact List.mem_append_right _ ha
      | own r a =>
        obtain ⟨p, ho, e, h1, h2⟩ := h
        subst e
        exact List.mem_cons_of_mem _ ha
theorem SlsOk.ownAt {F H : Hp} : ∀ {Γ : List Sl} {σ : St}, SlsOk F H Γ σ → ∀ a ∈ ownA Γ σ, ∃ o, H a = some o
  | _, _, .nil, a, ha => nomatch ha
  | s1 :: Γ, o1 :: σ, .cons h t, a, ha => by
    cases s1 with
    | any => exact t.ownAt a ha
    | val r x => exact t.ownAt a ha
    | res R =>
      rcases List.mem_append.mp ha with ha | ha
      · exact R.at' h a ha
      · exact t.ownAt a ha
    | own r x =>
      obtain ⟨p, ho, e, h1, h2⟩ := h
      subst e
      rcases List.mem_cons.mp ha with e | ha
      · subst e; exact ⟨_, h1⟩
      · exact t.ownAt a ha
theorem Good.ext {S : Hp × Hp} {q : Option Addr} {sc : SG} {Γ : List Sl} {σ : St} {F H F' H' : Hp} {p p' : Pool} (g : Good S q sc Γ σ F H p) (e : Ext q F H F' H') (pl : PoolOk q sc F' H' p') : Good S q sc Γ σ F' H' p' where
  sub := e.sub'
  sl := g.sl.ext e.sub fun a ha o h => e.keep a o h (g.oq a ha)
  nd := g.nd
  of := fun a ha => by
    cases h : F' a with
    | none => rfl
    | some o =>
      obtain ⟨u, hu⟩ := g.sl.ownAt a ha
      rcases e.new a o h with h1 | h1
      · rw [g.of a ha] at h1; cases h1
      · rw [hu] at h1; cases h1
  oq := g.oq
  os := g.os
  ent := g.ent.tr e g.pl
  pl := pl
  gx := g.gx.mono e.sub
  ln := g.ln

/-! ### what is wanted behind an expression -/
def Post {X α : Type} (c : Cf) (σ : St) (F H : Hp) (r : Rg X α) (Q : X → Hp → Prop) : Except Er α × Pool → Prop
  | (.ok a, p') => ∀ v F' H', Ext c.q F H F' H' → PoolOk c.q c.s F' H' p' → r.rel F' v a → Q v H'
  | (.error (.exc e), p') => ∀ cls d F' H', Ext c.q F H F' H' → PoolOk c.q c.s F' H' p' → ExR c.K F' e cls d → c.W cls d σ H'
  | (.error .stuck, _) => False
section
variable {c : Cf} {σ : St} {F H F1 H1 : Hp} {p p1 : Pool} {X Y : Type} {Q : X → Hp → Prop}
theorem Post.later {α : Type} {r : Rg X α} {x : Except Er α × Pool} (h : Post c σ F H r Q x) (e : Ext c.q F H F1 H1) (hp : PoolOk c.q c.s F1 H1 p) : Post c σ F1 H1 r Q x := by
  rcases x with ⟨_ | _, p'⟩
  · rename_i er
    cases er with
    | stuck => exact h
    | exc ex => exact fun cls d F' H' e' pl k => h cls d F' H' (e.tr e' hp) pl k
  · exact fun v F' H' e' pl k => h v F' H' (e.tr e' hp) pl k
theorem Post.seq {α β : Type} {r : Rg X α} {r' : Rg Y β} {m : PM α} {f : α → PM β} {Q' : Y → Hp → Prop} (h : Post c σ F H r' Q' ((m >>= f) p))
    (k : ∀ a p1 v F1 H1, Ext c.q F H F1 H1 → PoolOk c.q c.s F1 H1 p1 → r.rel F1 v a → Post c σ F1 H1 r' Q' (f a p1) → Q v H1) : Post c σ F H r Q (m p) := by
  rw [run_bind] at h
  cases e : m p with
  | mk x p1 =>
    rw [e] at h
    cases x with
    | error er =>
      cases er with
      | stuck => exact h
      | exc ex => exact h
    | ok a => exact fun v F1 H1 e1 pl1 r1 => k a p1 v F1 H1 e1 pl1 r1 (Post.later h e1 pl1)
/-- nothing happens: the value as it is -/
theorem Post.now {α : Type} {r : Rg X α} {a : α} {v : X} (h : Post c σ F H r Q ((pure a : PM α) p)) (s : Same F H) (pl : PoolOk c.q c.s F H p) (k : r.rel F v a) : Q v H := h v F H (Ext.refl s) pl k
end
/-- the reading of an expression: its value is the mirror's -/
def Ev {α : Type} (c : Cf) (Γ : List Sl) (t : TE) (m : PM α) (r : Rl α) : Prop :=
  ∀ (S : Hp × Hp) (σ : St) (F H : Hp) (p : Pool) (Q : VK), Good S c.q c.s Γ σ F H p → Post c σ F H r Q (m p) → t σ H Q
/-- a test -/
def Et (c : Cf) (Γ : List Sl) (t : TT) (m : PM Bool) : Prop :=
  ∀ (S : Hp × Hp) (σ : St) (F H : Hp) (p : Pool) (Q : Bool → Hp → Prop), Good S c.q c.s Γ σ F H p → Post c σ F H rBool (fun v H' => ∀ b, v = .bl b → Q b H') (m p) → t σ H Q
/-- arguments -/
def aNil : Ra Unit := ⟨fun _ vs _ => vs = [], fun _ h => h⟩
def aCons {α A : Type} (r : Rl α) (ra : Ra A) : Ra (α × A) := ⟨fun F vs x => ∃ v ws, vs = v :: ws ∧ r.rel F v x.1 ∧ ra.rel F ws x.2,
  fun s h => by
    obtain ⟨v, ws, e, h1, h2⟩ := h
    exact ⟨v, ws, e, r.mono s h1, ra.mono s h2⟩⟩
def Ea {A : Type} (c : Cf) (Γ : List Sl) (t : TA) (m : PM A) (r : Ra A) : Prop :=
  ∀ (S : Hp × Hp) (σ : St) (F H : Hp) (p : Pool) (Q : List V → Hp → Prop), Good S c.q c.s Γ σ F H p → Post c σ F H r Q (m p) → t σ H Q
end Kf

set_option maxHeartbeats 4000000
namespace Kf
open PySem PySem.Spec L2
open PyProof.Rows hiding St
def nth : List Sl → Nat → Sl
  | [], _ => .any
  | s :: _, 0 => s
  | _ :: Γ, n + 1 => nth Γ n
def put : List Sl → Nat → Sl → List Sl
  | [], _, _ => []
  | _ :: Γ, 0, s => s :: Γ
  | x :: Γ, n + 1, s => x :: put Γ n s
theorem SlsOk.at {F H : Hp} : ∀ {Γ : List Sl} {σ : St} {i : Nat}, SlsOk F H Γ σ → nth Γ i ≠ .any → ∃ o, σ[i]? = some o ∧ SlOk F H (nth Γ i) o
  | _, _, _, .nil, h => absurd rfl h
  | _, _, 0, .cons h _, _ => ⟨_, rfl, h⟩
  | _, _, i + 1, .cons _ t, h => by
    obtain ⟨o, h1, h2⟩ := t.at (i := i) h
    exact ⟨o, by simpa using h1, h2⟩
theorem SlsOk.val {F H : Hp} {Γ : List Sl} {σ : St} {i : Nat} {α : Type} {r : Rl α} {a : α} (h : SlsOk F H Γ σ) (e : nth Γ i = .val r a) : ∃ v, σ[i]? = some (some v) ∧ r.rel F v a := by
  obtain ⟨o, h1, h2⟩ := h.at (i := i) (by rw [e]; intro z; cases z)
  rw [e] at h2
  obtain ⟨v, e2, h3⟩ := h2
  subst e2
  exact ⟨v, h1, h3⟩
theorem own_mem : ∀ {Γ : List Sl} {σ : St} {i : Nat} {α : Type} {r : Ro α} {a : α} {p : Addr}, nth Γ i = .own r a → σ[i]? = some (some (.ref p)) → p ∈ ownA Γ σ
  | s :: Γ, o :: σ, 0, α, r, a, p, h1, h2 => by
    have e : s = .own r a := h1
    have e2 : o = some (.ref p) := by simpa using h2
    subst e e2
    exact List.mem_cons_self
  | s :: Γ, o :: σ, i + 1, α, r, a, p, h1, h2 => by
    have ih := own_mem (Γ := Γ) (σ := σ) (i := i) (r := r) (a := a) (p := p) h1 (by simpa using h2)
    cases s with
    | any => exact ih
    | val _ _ => exact ih
    | res R => exact List.mem_append_right _ ih
    | own _ _ =>
      cases o with
      | none => exact ih
      | some v => cases v with
        | ref q => exact List.mem_cons_of_mem _ ih
        | _ => exact ih
  | [], _, i, _, _, _, _, h1, _ => by cases i <;> cases h1
  | _ :: _, [], i, _, _, _, _, _, h2 => by simp at h2
theorem SlsOk.own {F H : Hp} {Γ : List Sl} {σ : St} {i : Nat} {α : Type} {r : Ro α} {a : α} (h : SlsOk F H Γ σ) (e : nth Γ i = .own r a) : ∃ p ho, σ[i]? = some (some (.ref p)) ∧ H p = some ho ∧ r.rel F ho a ∧ p ∈ ownA Γ σ := by
  obtain ⟨o, h1, h2⟩ := h.at (i := i) (by rw [e]; intro z; cases z)
  rw [e] at h2
  obtain ⟨p, ho, e2, h3, h4⟩ := h2
  subst e2
  exact ⟨p, ho, h1, h3, h4, own_mem e h1⟩

section
variable {c : Cf} {Γ : List Sl} {ta tb tc : TE} {α β : Type}
/-! ### names and constants -/
theorem ev_var (i : Nat) {r : Rl α} {a : α} (h : nth Γ i = .val r a) : Ev c Γ (tVar i) (pure a) r := fun S σ F H p Q g q => by
  obtain ⟨v, h1, h2⟩ := g.sl.val h
  exact ⟨v, h1, q.now g.sub g.pl h2⟩
theorem ev_c {r : Rl α} {v : V} {a : α} (h : ∀ F, r.rel F v a) : Ev c Γ (tC v) (pure a) r := fun S σ F H p Q g q => q.now g.sub g.pl (h F)
theorem ev_int {i : Int} : Ev c Γ (tC (.int i)) (pure i) rInt := ev_c fun _ => rfl
theorem ev_bl {b : Bool} : Ev c Γ (tC (.bl b)) (pure b) rBool := ev_c fun _ => rfl
theorem ev_non : Ev c Γ (tC .non) (pure ()) rNone := ev_c fun _ => rfl
theorem ev_nonO {r : Rl α} : Ev c Γ (tC .non) (pure none) (rOpt r) := ev_c fun _ => rfl
theorem ev_str {x : Str} (h : x.length ≤ sizeLine) : Ev c Γ (tC (.str x)) (pure x) rStr := ev_c fun _ => ⟨rfl, h⟩
/-- a value where an optional one is told -/
theorem ev_some {t : TE} {r : Rl α} {m : PM α} (h : Ev c Γ t m r) : Ev c Γ t (m >>= fun a => pure (some a)) (rOpt r) := fun S σ F H p Q g q =>
  h S σ F H p Q g (q.seq fun a p1 v F1 H1 e1 pl1 r1 h1 => h1.now (g.ext e1 pl1).sub pl1 r1)

/-! ### operators -/
theorem ev_op {rr : R2} {ra : Rl α} {rb : Rl β} {γ : Type} {rc : Rl γ} {ma : PM α} {mb : PM β} {f : α → β → PM γ} (ha : Ev c Γ ta ma ra) (hb : Ev c Γ tb mb rb)
    (k : ∀ a b S σ F H p x y Q, Good S c.q c.s Γ σ F H p → ra.rel F x a → rb.rel F y b → Post c σ F H rc Q (f a b p) → rr x y H Q) : Ev c Γ (tOp rr ta tb) (ma >>= fun a => mb >>= fun b => f a b) rc := fun S σ F H p Q g q =>
  ha S σ F H p _ g (q.seq fun a p1 v F1 H1 e1 pl1 r1 h1 => hb S σ F1 H1 p1 _ (g.ext e1 pl1) (h1.seq fun b p2 w F2 H2 e2 pl2 r2 h2 =>
    k a b S σ F2 H2 p2 v w Q ((g.ext e1 pl1).ext e2 pl2) (ra.mono e2.sub r1) r2 h2))

theorem ev_i0 {g : Int → Int → Int} {ma mb : PM Int} (ha : Ev c Γ ta ma rInt) (hb : Ev c Γ tb mb rInt) : Ev c Γ (tOp (rI0 fun i j => .int (g i j)) ta tb) (ma >>= fun a => mb >>= fun b => pure (g a b)) rInt :=
  ev_op ha hb fun a b S σ F H p x y Q gd hx hy q => ⟨a, b, hx, hy, q.now gd.sub gd.pl rfl⟩
theorem ev_add {ma mb : PM Int} (ha : Ev c Γ ta ma rInt) (hb : Ev c Γ tb mb rInt) : Ev c Γ (tOp (rI0 fun i j => .int (i + j)) ta tb) (ma >>= fun a => mb >>= fun b => pure (a + b)) rInt := ev_i0 (g := fun a b => a + b) ha hb
theorem ev_sub {ma mb : PM Int} (ha : Ev c Γ ta ma rInt) (hb : Ev c Γ tb mb rInt) : Ev c Γ (tOp (rI0 fun i j => .int (i - j)) ta tb) (ma >>= fun a => mb >>= fun b => pure (a - b)) rInt := ev_i0 (g := fun a b => a - b) ha hb
def guardM {α : Type} (C : Prop) [Decidable C] (a : α) : PM α := if C then pure a else stuck
@[simp] theorem guardM_pos {α : Type} {C : Prop} [Decidable C] {a : α} (h : C) : guardM C a = pure a := if_pos h
theorem ev_iC {C : Int → Int → Prop} [∀ i j, Decidable (C i j)] {g : Int → Int → Int} {ma mb : PM Int} (ha : Ev c Γ ta ma rInt) (hb : Ev c Γ tb mb rInt) :
    Ev c Γ (tOp (rI C fun i j => .int (g i j)) ta tb) (ma >>= fun a => mb >>= fun b => guardM (C a b) (g a b)) rInt :=
  ev_op ha hb fun a b S σ F H p x y Q gd hx hy q => by
    unfold guardM at q
    by_cases h : C a b
    · rw [if_pos h] at q
      exact ⟨a, b, hx, hy, h, q.now gd.sub gd.pl rfl⟩
    · rw [if_neg h] at q
      exact q.elim
instance (i j : Int) : Decidable (CMul i j) := inferInstanceAs (Decidable (_ ∨ _))
instance (i j : Int) : Decidable (CDiv i j) := inferInstanceAs (Decidable (_ ∧ _))
instance (i j : Int) : Decidable (CDivN i j) := inferInstanceAs (Decidable (_ ∧ _))
instance (i j : Int) : Decidable (CPow i j) := inferInstanceAs (Decidable (_ ∧ _))
def mulM (a b : Int) : PM Int := guardM (CMul a b) (a * b)
instance (i j : Int) : Decidable (CDivW i j) := inferInstanceAs (Decidable (0 < j ∧ j.natAbs.log2 < 9000))
def divM (a b : Int) : PM Int := guardM (CDivW a b) (a / b)
def modM (a b : Int) : PM Int := guardM (0 < b) (a % b)
def powM (a b : Int) : PM Int := guardM (CPow a b) (a ^ b.toNat)
def shlM (a b : Int) : PM Int := guardM (CPow a b) (a * 2 ^ b.toNat)
theorem ev_mul {ma mb : PM Int} (ha : Ev c Γ ta ma rInt) (hb : Ev c Γ tb mb rInt) : Ev c Γ (tOp (rI CMul fun i j => .int (i * j)) ta tb) (ma >>= fun a => mb >>= fun b => mulM a b) rInt := ev_iC (g := fun a b => a * b) ha hb
theorem ev_div {ma mb : PM Int} (ha : Ev c Γ ta ma rInt) (hb : Ev c Γ tb mb rInt) : Ev c Γ (tOp (rI CDivW fun i j => .int (i / j)) ta tb) (ma >>= fun a => mb >>= fun b => divM a b) rInt := ev_iC (g := fun a b => a / b) ha hb
theorem ev_mod {ma mb : PM Int} (ha : Ev c Γ ta ma rInt) (hb : Ev c Γ tb mb rInt) : Ev c Γ (tOp (rI (fun _ j => 0 < j) fun i j => .int (i % j)) ta tb) (ma >>= fun a => mb >>= fun b => modM a b) rInt := ev_iC (C := fun _ j => 0 < j) (g := fun a b => a % b) ha hb
theorem ev_pow {ma mb : PM Int} (ha : Ev c Γ ta ma rInt) (hb : Ev c Γ tb mb rInt) : Ev c Γ (tOp (rI CPow fun i j => .int (i ^ j.toNat)) ta tb) (ma >>= fun a => mb >>= fun b => powM a b) rInt := ev_iC (g := fun a b => a ^ b.toNat) ha hb
theorem ev_shl {ma mb : PM Int} (ha : Ev c Γ ta ma rInt) (hb : Ev c Γ tb mb rInt) : Ev c Γ (tOp (rI CPow fun i j => .int (i * 2 ^ j.toNat)) ta tb) (ma >>= fun a => mb >>= fun b => shlM a b) rInt := ev_iC (g := fun a b => a * 2 ^ b.toNat) ha hb
theorem ev_neg {ma : PM Int} (ha : Ev c Γ ta ma rInt) : Ev c Γ (tUn (rU fun i => .int (-i)) ta) (ma >>= fun a => pure (-a)) rInt := fun S σ F H p Q g q =>
  ha S σ F H p _ g (q.seq fun a p1 v F1 H1 e1 pl1 r1 h1 => ⟨a, r1, h1.now (g.ext e1 pl1).sub pl1 rfl⟩)
/-- comparisons of ints -/
theorem ev_cI {g : Int → Int → Bool} {ma mb : PM Int} (ha : Ev c Γ ta ma rInt) (hb : Ev c Γ tb mb rInt) : Ev c Γ (tOp (rI0 fun i j => .bl (g i j)) ta tb) (ma >>= fun a => mb >>= fun b => pure (g a b)) rBool :=
  ev_op ha hb fun a b S σ F H p x y Q gd hx hy q => ⟨a, b, hx, hy, q.now gd.sub gd.pl rfl⟩
theorem ev_lt {ma mb : PM Int} (ha : Ev c Γ ta ma rInt) (hb : Ev c Γ tb mb rInt) : Ev c Γ (tOp (rI0 fun i j => .bl (decide (i < j))) ta tb) (ma >>= fun a => mb >>= fun b => pure (decide (a < b))) rBool := ev_cI (g := fun a b => decide (a < b)) ha hb
theorem ev_le {ma mb : PM Int} (ha : Ev c Γ ta ma rInt) (hb : Ev c Γ tb mb rInt) : Ev c Γ (tOp (rI0 fun i j => .bl (decide (i ≤ j))) ta tb) (ma >>= fun a => mb >>= fun b => pure (decide (a ≤ b))) rBool := ev_cI (g := fun a b => decide (a ≤ b)) ha hb
theorem ev_gt {ma mb : PM Int} (ha : Ev c Γ ta ma rInt) (hb : Ev c Γ tb mb rInt) : Ev c Γ (tOp (rI0 fun i j => .bl (decide (j < i))) ta tb) (ma >>= fun a => mb >>= fun b => pure (decide (b < a))) rBool := ev_cI (g := fun a b => decide (b < a)) ha hb
theorem ev_ge {ma mb : PM Int} (ha : Ev c Γ ta ma rInt) (hb : Ev c Γ tb mb rInt) : Ev c Γ (tOp (rI0 fun i j => .bl (decide (j ≤ i))) ta tb) (ma >>= fun a => mb >>= fun b => pure (decide (b ≤ a))) rBool := ev_cI (g := fun a b => decide (b ≤ a)) ha hb
/-- values that are compared by what they are -/
structure Scal {α : Type} (r : Rl α) (f : α → V) : Prop where
  v : ∀ {F v a}, r.rel F v a → v = f a
  inj : ∀ {a b}, f a = f b ↔ a = b
  sc : ∀ a b, scal (f a) (f b) = true
theorem scInt : Scal rInt V.int := ⟨fun h => h, ⟨fun h => by injection h, fun h => by rw [h]⟩, fun _ _ => rfl⟩
theorem scStr : Scal rStr V.str := ⟨fun h => h.1, ⟨fun h => by injection h, fun h => by rw [h]⟩, fun _ _ => rfl⟩
theorem scBool : Scal rBool V.bl := ⟨fun h => h, ⟨fun h => by injection h, fun h => by rw [h]⟩, fun _ _ => rfl⟩
theorem ev_eq {r : Rl α} {f : α → V} (sc : Scal r f) [DecidableEq α] {ma mb : PM α} (ha : Ev c Γ ta ma r) (hb : Ev c Γ tb mb r) : Ev c Γ (tOp rEq ta tb) (ma >>= fun a => mb >>= fun b => pure (decide (a = b))) rBool :=
  ev_op ha hb fun a b S σ F H p x y Q gd hx hy q => by
    rw [sc.v hx, sc.v hy]
    refine ⟨sc.sc a b, ?_⟩
    have e : decide (f a = f b) = decide (a = b) := by
      by_cases h : a = b
      · rw [decide_eq_true h, decide_eq_true (sc.inj.mpr h)]
      · rw [decide_eq_false h, decide_eq_false fun z => h (sc.inj.mp z)]
    rw [e]
    exact q.now gd.sub gd.pl rfl
theorem ev_ne {r : Rl α} {f : α → V} (sc : Scal r f) [DecidableEq α] {ma mb : PM α} (ha : Ev c Γ ta ma r) (hb : Ev c Γ tb mb r) : Ev c Γ (tOp rNe ta tb) (ma >>= fun a => mb >>= fun b => pure (!decide (a = b))) rBool :=
  ev_op ha hb fun a b S σ F H p x y Q gd hx hy q => by
    rw [sc.v hx, sc.v hy]
    refine ⟨sc.sc a b, ?_⟩
    have e : decide (f a = f b) = decide (a = b) := by
      by_cases h : a = b
      · rw [decide_eq_true h, decide_eq_true (sc.inj.mpr h)]
      · rw [decide_eq_false h, decide_eq_false fun z => h (sc.inj.mp z)]
    rw [e]
    exact q.now gd.sub gd.pl rfl
/-- is None -/
theorem ev_isN {r : Rl α} {ma : PM (Option α)} (hr : ∀ {F v a}, r.rel F v a → v ≠ .non) (ha : Ev c Γ ta ma (rOpt r)) :
    Ev c Γ (tOp (fun x y H Q => y = .non ∧ Q (.bl (decide (x = .non))) H) ta (tC .non)) (ma >>= fun a => pure a.isNone) rBool := fun S σ F H p Q g q =>
  ha S σ F H p _ g (q.seq fun a p1 v F1 H1 e1 pl1 r1 h1 => by
    refine ⟨rfl, h1.now (g.ext e1 pl1).sub pl1 ?_⟩
    cases a with
    | none => rw [show v = .non from r1]; rfl
    | some a => exact congrArg V.bl (decide_eq_false (hr r1)))
theorem ev_notN {r : Rl α} {ma : PM (Option α)} (hr : ∀ {F v a}, r.rel F v a → v ≠ .non) (ha : Ev c Γ ta ma (rOpt r)) :
    Ev c Γ (tOp (fun x y H Q => y = .non ∧ Q (.bl (!decide (x = .non))) H) ta (tC .non)) (ma >>= fun a => pure a.isSome) rBool := fun S σ F H p Q g q =>
  ha S σ F H p _ g (q.seq fun a p1 v F1 H1 e1 pl1 r1 h1 => by
    refine ⟨rfl, h1.now (g.ext e1 pl1).sub pl1 ?_⟩
    cases a with
    | none => rw [show v = .non from r1]; rfl
    | some a => exact congrArg V.bl (by rw [decide_eq_false (hr r1)]; rfl))
/-- a chain of two comparisons of ints -/
theorem ev_chain {g1 g2 : Int → Int → Bool} {ma mb mc : PM Int} (ha : Ev c Γ ta ma rInt) (hb : Ev c Γ tb mb rInt) (hc : Ev c Γ tc mc rInt) :
    Ev c Γ (tChain (rI0 fun i j => .bl (g1 i j)) (rI0 fun i j => .bl (g2 i j)) ta tb tc) (ma >>= fun a => mb >>= fun b => if g1 a b = true then mc >>= fun d => pure (g2 b d) else pure false) rBool := fun S σ F H p Q g q =>
  ha S σ F H p _ g (q.seq fun a p1 v F1 H1 e1 pl1 r1 h1 => hb S σ F1 H1 p1 _ (g.ext e1 pl1) (h1.seq fun b p2 w F2 H2 e2 pl2 r2 h2 => by
    refine ⟨a, b, r1, r2, _, rfl, ?_⟩
    by_cases hg : g1 a b = true
    · rw [if_pos hg] at h2 ⊢
      exact hc S σ F2 H2 p2 _ ((g.ext e1 pl1).ext e2 pl2) (h2.seq fun d p3 u F3 H3 e3 pl3 r3 h3 => ⟨b, d, r2, r3, h3.now (((g.ext e1 pl1).ext e2 pl2).ext e3 pl3).sub pl3 rfl⟩)
    · rw [if_neg hg] at h2 ⊢
      exact h2.now ((g.ext e1 pl1).ext e2 pl2).sub pl2 rfl))
/-! ### and, or, not as values -/
theorem ev_and {ma mb : PM Bool} (ha : Ev c Γ ta ma rBool) (hb : Ev c Γ tb mb rBool) : Ev c Γ (tAndV ta tb) (ma >>= fun a => if a = true then mb else pure false) rBool := fun S σ F H p Q g q =>
  ha S σ F H p _ g (q.seq fun a p1 v F1 H1 e1 pl1 r1 h1 => by
    refine ⟨a, r1, ?_⟩
    by_cases hg : a = true
    · rw [if_pos hg] at h1 ⊢
      exact hb S σ F1 H1 p1 _ (g.ext e1 pl1) h1
    · rw [if_neg hg] at h1 ⊢
      exact h1.now (g.ext e1 pl1).sub pl1 rfl)
theorem ev_or {ma mb : PM Bool} (ha : Ev c Γ ta ma rBool) (hb : Ev c Γ tb mb rBool) : Ev c Γ (tOrV ta tb) (ma >>= fun a => if a = true then pure true else mb) rBool := fun S σ F H p Q g q =>
  ha S σ F H p _ g (q.seq fun a p1 v F1 H1 e1 pl1 r1 h1 => by
    refine ⟨a, r1, ?_⟩
    by_cases hg : a = true
    · rw [if_pos hg] at h1 ⊢
      exact h1.now (g.ext e1 pl1).sub pl1 rfl
    · rw [if_neg hg] at h1 ⊢
      exact hb S σ F1 H1 p1 _ (g.ext e1 pl1) h1)
theorem ev_not {ma : PM Bool} (ha : Ev c Γ ta ma rBool) : Ev c Γ (tNotV ta) (ma >>= fun a => pure (!a)) rBool := fun S σ F H p Q g q =>
  ha S σ F H p _ g (q.seq fun a p1 v F1 H1 e1 pl1 r1 h1 => ⟨a, r1, h1.now (g.ext e1 pl1).sub pl1 rfl⟩)
/-! ### tests -/
variable {t1 t2 : TT} {m1 m2 : PM Bool}
theorem et_val {ma : PM Bool} (ha : Ev c Γ ta ma rBool) : Et c Γ (tB ta) ma := fun S σ F H p Q g q =>
  ha S σ F H p _ g (by
    rcases e : ma p with ⟨_ | a, p1⟩
    · rw [e] at q; rename_i er; cases er <;> exact q
    · rw [e] at q
      exact fun v F1 H1 e1 pl1 r1 => ⟨a, r1, q v F1 H1 e1 pl1 r1 a r1⟩)
theorem et_test {ma : PM Bool} (ha : Ev c Γ ta ma rBool) : Et c Γ (tTest ta) ma := et_val ha
/-- the way of a test's continuation -/
theorem Post.seqT {S : Hp × Hp} {σ : St} {F H : Hp} {p : Pool} {Y γ : Type} {r' : Rg Y γ} {f : Bool → PM γ} {Q' : Y → Hp → Prop} {Q : Bool → Hp → Prop} (h : Post c σ F H r' Q' ((m1 >>= f) p))
    (k : ∀ a p1 F1 H1, Ext c.q F H F1 H1 → PoolOk c.q c.s F1 H1 p1 → Post c σ F1 H1 r' Q' (f a p1) → Q a H1) : Post c σ F H rBool (fun v H' => ∀ b, v = .bl b → Q b H') (m1 p) :=
  h.seq fun a p1 v F1 H1 e1 pl1 r1 h1 b eb => by
    have : a = b := by rw [show v = .bl a from r1] at eb; injection eb
    subst this
    exact k a p1 F1 H1 e1 pl1 h1
theorem et_and (h1 : Et c Γ t1 m1) (h2 : Et c Γ t2 m2) : Et c Γ (tAnd t1 t2) (m1 >>= fun a => if a = true then m2 else pure false) := fun S σ F H p Q g q =>
  h1 S σ F H p _ g (q.seqT (S := S) fun a p1 F1 H1 e1 pl1 q1 => by
    by_cases hg : a = true
    · rw [if_pos hg] at q1 ⊢
      exact h2 S σ F1 H1 p1 _ (g.ext e1 pl1) q1
    · rw [if_neg hg] at q1 ⊢
      exact q1 (.bl false) F1 H1 (Ext.refl (g.ext e1 pl1).sub) pl1 rfl false rfl)
theorem et_or (h1 : Et c Γ t1 m1) (h2 : Et c Γ t2 m2) : Et c Γ (tOr t1 t2) (m1 >>= fun a => if a = true then pure true else m2) := fun S σ F H p Q g q =>
  h1 S σ F H p _ g (q.seqT (S := S) fun a p1 F1 H1 e1 pl1 q1 => by
    by_cases hg : a = true
    · rw [if_pos hg] at q1 ⊢
      exact q1 (.bl true) F1 H1 (Ext.refl (g.ext e1 pl1).sub) pl1 rfl true rfl
    · rw [if_neg hg] at q1 ⊢
      exact h2 S σ F1 H1 p1 _ (g.ext e1 pl1) q1)
theorem et_not (h1 : Et c Γ t1 m1) : Et c Γ (tNot t1) (m1 >>= fun a => pure (!a)) := fun S σ F H p Q g q =>
  h1 S σ F H p _ g (q.seqT (S := S) fun a p1 F1 H1 e1 pl1 q1 => q1 (.bl (!a)) F1 H1 (Ext.refl (g.ext e1 pl1).sub) pl1 rfl (!a) rfl)
theorem ev_if {r : Rl α} {ma mb : PM α} (h1 : Et c Γ t1 m1) (ha : Ev c Γ ta ma r) (hb : Ev c Γ tb mb r) : Ev c Γ (tIf t1 ta tb) (m1 >>= fun a => if a = true then ma else mb) r := fun S σ F H p Q g q =>
  h1 S σ F H p _ g (q.seqT (S := S) fun a p1 F1 H1 e1 pl1 q1 => by
    by_cases hg : a = true
    · rw [if_pos hg] at q1 ⊢
      exact ha S σ F1 H1 p1 _ (g.ext e1 pl1) q1
    · rw [if_neg hg] at q1 ⊢
      exact hb S σ F1 H1 p1 _ (g.ext e1 pl1) q1)
/-! ### arguments -/
theorem ea_nil : Ea c Γ tNil (pure ()) aNil := fun S σ F H p Q g q => q.now g.sub g.pl rfl
theorem ea_cons {A : Type} {r : Rl α} {ra : Ra A} {t : TA} {ma : PM α} {mr : PM A} (ha : Ev c Γ ta ma r) (hr : Ea c Γ t mr ra) : Ea c Γ (tCons ta t) (ma >>= fun a => mr >>= fun as => pure (a, as)) (aCons r ra) := fun S σ F H p Q g q =>
  ha S σ F H p _ g (q.seq fun a p1 v F1 H1 e1 pl1 r1 h1 => hr S σ F1 H1 p1 _ (g.ext e1 pl1) (h1.seq fun b p2 w F2 H2 e2 pl2 r2 h2 =>
    h2.now ((g.ext e1 pl1).ext e2 pl2).sub pl2 ⟨v, w, rfl, r.mono e2.sub r1, r2⟩))
/-- the last argument -/
theorem ea_one {r : Rl α} {ma : PM α} (ha : Ev c Γ ta ma r) : Ea c Γ (tCons ta tNil) (ma >>= fun a => pure (a, ())) (aCons r aNil) := fun S σ F H p Q g q =>
  ha S σ F H p _ g (q.seq fun a p1 v F1 H1 e1 pl1 r1 h1 => h1.now (g.ext e1 pl1).sub pl1 ⟨v, [], rfl, r1, rfl⟩)
end
end Kf

set_option maxHeartbeats 4000000
namespace Kf
open PySem PySem.Spec L2
open PyProof.Rows hiding St
theorem rList.of {α : Type} {r : Rl α} {F : Hp} {v : V} {l : List α} (h : (rList r).rel F v l) : ∃ p vs, v = .ref p ∧ F p = some (.lst vs) ∧ vs.length ≤ sizeLine ∧ All2 (r.rel F) vs l := by
  obtain ⟨p, ho, e, h1, vs, e2, h2, h3⟩ := h
  subst e2
  exact ⟨p, vs, e, h1, h2, h3⟩
theorem rList.mk {α : Type} {r : Rl α} {F : Hp} {p : Addr} {vs : List V} {l : List α} (h1 : F p = some (.lst vs)) (h2 : vs.length ≤ sizeLine) (h3 : All2 (r.rel F) vs l) : (rList r).rel F (.ref p) l := ⟨p, _, rfl, h1, vs, rfl, h2, h3⟩
/-! ### new objects -/
theorem same_upd {H : Hp} {p : Addr} {o : HO} (h : H p = none) : Same H (upd H p o) := fun b x e => by
  rw [upd_ne (ne_of_none e h)]
  exact e
theorem Same.none {F H : Hp} {p : Addr} (s : Same F H) (h : H p = none) : F p = none := s.free h
theorem same_updupd {F H : Hp} {p : Addr} {o : HO} (s : Same F H) : Same (upd F p o) (upd H p o) := fun b x e => by
  unfold upd at *
  by_cases hb : b = p
  · rw [if_pos hb] at e ⊢; exact e
  · rw [if_neg hb] at e ⊢; exact s _ _ e
/-- a new object that stands still -/
theorem Ext.new' {q : Option Addr} {F H : Hp} {p : Addr} {o : HO} (s : Same F H) (h : H p = none) : Ext q F H (upd F p o) (upd H p o) where
  sub := same_upd (Same.none s h)
  sub' := same_updupd s
  keep := fun b x e _ => same_upd h b x e
  new := fun b x e => by
    by_cases hb : b = p
    · subst hb; exact .inr h
    · rw [upd_ne hb] at e; exact .inl e
/-- .. that does not -/
theorem Ext.loose {q : Option Addr} {F H : Hp} {p : Addr} {o : HO} (s : Same F H) (h : H p = none) : Ext q F H F (upd H p o) where
  sub := Same.refl _
  sub' := s.trans (same_upd h)
  keep := fun b x e _ => same_upd h b x e
  new := fun _ _ e => .inl e
theorem PoolOk.up {q : Option Addr} {sc : SG} {F H F' H' : Hp} {p : Pool} (h : PoolOk q sc F H p) (e : Ext none F H F' H') : PoolOk q sc F' H' p := by
  cases q with
  | none => trivial
  | some a =>
    obtain ⟨h1, h2, h3⟩ := h
    have k : H' a = _ := e.keep a _ h2 (by simp)
    refine ⟨?_, k, e.sub _ _ h3.1, h3.2⟩
    cases z : F' a with
    | none => rfl
    | some o =>
      rcases e.new a o z with y | y
      · rw [h1] at y; cases y
      · rw [h2] at y; cases y
theorem Ext.widen {q : Option Addr} {F H F' H' : Hp} (e : Ext none F H F' H') : Ext q F H F' H' := ⟨e.sub, e.sub', fun b o h _ => e.keep b o h (by simp), e.new⟩
/-- what is wanted behind an expression that makes an object -/
def PostN {α : Type} (c : Cf) (σ : St) (F H : Hp) (r : Ro α) (Q : VK) : Except Er α × Pool → Prop
  | (.ok a, p') => ∀ p ho F' H', Ext c.q F H F' H' → PoolOk c.q c.s F' H' p' → H p = none → F' p = none → H' p = some ho → c.q ≠ some p → r.rel F' ho a → Q (.ref p) H'
  | (.error (.exc e), p') => ∀ cls d F' H', Ext c.q F H F' H' → PoolOk c.q c.s F' H' p' → ExR c.K F' e cls d → c.W cls d σ H'
  | (.error .stuck, _) => False
def En {α : Type} (c : Cf) (Γ : List Sl) (t : TE) (m : PM α) (r : Ro α) : Prop :=
  ∀ (S : Hp × Hp) (σ : St) (F H : Hp) (p : Pool) (Q : VK), Good S c.q c.s Γ σ F H p → PostN c σ F H r Q (m p) → t σ H Q
section
variable {c : Cf} {σ : St} {F H F1 H1 : Hp} {p p1 : Pool} {X : Type} {Q : X → Hp → Prop} {α β : Type}
theorem PostN.later {r : Ro α} {x : Except Er α × Pool} {Q : VK} (h : PostN c σ F H r Q x) (e : Ext c.q F H F1 H1) (hp : PoolOk c.q c.s F1 H1 p) : PostN c σ F1 H1 r Q x := by
  rcases x with ⟨_ | _, p'⟩
  · rename_i er
    cases er with
    | stuck => exact h
    | exc ex => exact fun cls d F' H' e' pl k => h cls d F' H' (e.tr e' hp) pl k
  · refine fun q ho F' H' e' pl hn => h q ho F' H' (e.tr e' hp) pl ?_
    cases z : H q with
    | none => rfl
    | some o =>
      by_cases y : c.q = some q
      · exact absurd hn (hp.there q y)
      · rw [e.keep q o z y] at hn; cases hn
theorem PostN.seq {r : Rg X α} {r' : Ro β} {m : PM α} {f : α → PM β} {Q' : VK} (h : PostN c σ F H r' Q' ((m >>= f) p))
    (k : ∀ a p1 v F1 H1, Ext c.q F H F1 H1 → PoolOk c.q c.s F1 H1 p1 → r.rel F1 v a → PostN c σ F1 H1 r' Q' (f a p1) → Q v H1) : Post c σ F H r Q (m p) := by
  rw [run_bind] at h
  cases e : m p with
  | mk x p1 =>
    rw [e] at h
    cases x with
    | error er =>
      cases er with
      | stuck => exact h
      | exc ex => exact h
    | ok a => exact fun v F1 H1 e1 pl1 r1 => k a p1 v F1 H1 e1 pl1 r1 (PostN.later h e1 pl1)
/-- the new object at p -/
theorem PostN.now {r : Ro α} {a : α} {Q : VK} {q : Addr} {o : HO} (h : PostN c σ F H r Q ((pure a : PM α) p)) (s : Same F H) (pl : PoolOk c.q c.s F H p) (hq : H q = none) (k : r.rel F o a) : Q (.ref q) (upd H q o) :=
  h q o F (upd H q o) (Ext.loose s hq) (pl.up (Ext.loose s hq)) hq (Same.none s hq) upd_same (fun z => pl.there q z hq) k
end
section
variable {c : Cf} {Γ : List Sl} {ta tb tc : TE} {α β : Type}
/-- what is made may stand still -/
theorem ev_fz {t : TE} {m : PM α} {r : Ro α} (h : En c Γ t m r) : Ev c Γ t m (fz r) := fun S σ F H p Q g q =>
  h S σ F H p Q g (by
    rcases e : m p with ⟨_ | a, p1⟩
    · rw [e] at q; rename_i er; cases er <;> exact q
    · rw [e] at q
      intro x ho F1 H1 e1 pl1 hn hf hh hq rr
      have e2 : Ext c.q F H (upd F1 x ho) H1 := by
        refine ⟨e1.sub.trans (same_upd hf), fun b o z => ?_, e1.keep, fun b o z => ?_⟩
        · by_cases hb : b = x
          · subst hb; rw [upd_same] at z; rw [← z]; exact hh
          · rw [upd_ne hb] at z; exact e1.sub' b o z
        · by_cases hb : b = x
          · subst hb; exact .inr hn
          · rw [upd_ne hb] at z; exact e1.new b o z
      refine q (.ref x) (upd F1 x ho) H1 e2 ?_ ⟨x, ho, rfl, upd_same, r.mono (same_upd hf) rr⟩
      cases cq : c.q with
      | none => trivial
      | some a0 =>
        rw [cq] at pl1
        obtain ⟨h1, h2, h3⟩ := pl1
        have ne : a0 ≠ x := fun z => hq (by rw [cq, z])
        exact ⟨by rw [upd_ne ne]; exact h1, h2, same_upd hf _ _ h3.1, h3.2⟩)
/-! ### displays -/
/-- n items of one kind -/
def aAll (r : Rl α) (n : Nat) : Ra (List α) := ⟨fun F vs l => vs.length = n ∧ All2 (r.rel F) vs l, fun s h => ⟨h.1, h.2.imp fun _ _ => r.mono s⟩⟩
theorem ea_lnil {r : Rl α} : Ea c Γ tNil (pure []) (aAll r 0) := fun S σ F H p Q g q => q.now g.sub g.pl ⟨rfl, .nil⟩
theorem ea_lcons {r : Rl α} {n : Nat} {t : TA} {ma : PM α} {mr : PM (List α)} (ha : Ev c Γ ta ma r) (hr : Ea c Γ t mr (aAll r n)) : Ea c Γ (tCons ta t) (ma >>= fun a => mr >>= fun as => pure (a :: as)) (aAll r (n + 1)) := fun S σ F H p Q g q =>
  ha S σ F H p _ g (q.seq fun a p1 v F1 H1 e1 pl1 r1 h1 => hr S σ F1 H1 p1 _ (g.ext e1 pl1) (h1.seq fun b p2 w F2 H2 e2 pl2 r2 h2 =>
    h2.now ((g.ext e1 pl1).ext e2 pl2).sub pl2 ⟨by rw [List.length_cons, r2.1], .cons (r.mono e2.sub r1) r2.2⟩))
theorem en_lst {r : Rl α} {n : Nat} {t : TA} {m : PM (List α)} (h : Ea c Γ t m (aAll r n)) (hn : n ≤ sizeLine := by decide) : En c Γ (tLst t) m (oList r) := fun S σ F H p Q g q =>
  h S σ F H p _ g (by
    have q' : PostN c σ F H (oList r) Q ((m >>= fun l => pure l) p) := by rw [bind_pure]; exact q
    exact q'.seq fun a p1 v F1 H1 e1 pl1 r1 h1 => ⟨by rw [r1.1]; exact hn, fun x hx => h1.now (g.ext e1 pl1).sub pl1 hx ⟨v, rfl, by rw [r1.1]; exact hn, r1.2⟩⟩)
/-- a new tuple -/
theorem Post.tup {σ : St} {F H : Hp} {p : Pool} {r : Rl α} {a : α} {Q : VK} {x : Addr} {xs : List V} (h : Post c σ F H r Q ((pure a : PM α) p)) (s : Same F H) (pl : PoolOk c.q c.s F H p) (hx : H x = none)
    (k : r.rel (upd F x (.tup xs)) (.ref x) a) : Q (.ref x) (upd H x (.tup xs)) :=
  h (.ref x) (upd F x (.tup xs)) (upd H x (.tup xs)) (Ext.new' s hx) (pl.up (Ext.new' s hx)) k
theorem ev_pair {r : Rl α} {u : Rl β} {t : TA} {m : PM (α × β × Unit)} (h : Ea c Γ t m (aCons r (aCons u aNil))) : Ev c Γ (tTup t) (m >>= fun x => pure (x.1, x.2.1)) (rPair c.K r u) := fun S σ F H p Q g q =>
  h S σ F H p _ g (q.seq fun a p1 v F1 H1 e1 pl1 r1 h1 => by
    obtain ⟨y, ws, rfl, ry, z, ws', rfl, rz, rfl⟩ := r1
    have gs := (g.ext e1 pl1).sub
    refine ⟨(by decide : (2 : Nat) ≤ sizeLine), fun x hx => h1.tup gs pl1 hx ⟨x, y, z, rfl, SqT.of upd_same, r.mono (same_upd (Same.none gs hx)) ry, u.mono (same_upd (Same.none gs hx)) rz⟩⟩)
theorem ev_trip {γ : Type} {r : Rl α} {u : Rl β} {w : Rl γ} {t : TA} {m : PM (α × β × γ × Unit)} (h : Ea c Γ t m (aCons r (aCons u (aCons w aNil)))) : Ev c Γ (tTup t) (m >>= fun x => pure (x.1, x.2.1, x.2.2.1)) (rTrip c.K r u w) := fun S σ F H p Q g q =>
  h S σ F H p _ g (q.seq fun a p1 v F1 H1 e1 pl1 r1 h1 => by
    obtain ⟨y, ws, rfl, ry, z, ws', rfl, rz, z2, ws2, rfl, rz2, rfl⟩ := r1
    have gs := (g.ext e1 pl1).sub
    refine ⟨(by decide : (3 : Nat) ≤ sizeLine), fun x hx => h1.tup gs pl1 hx ⟨x, y, z, z2, rfl, SqT.of upd_same, r.mono (same_upd (Same.none gs hx)) ry, u.mono (same_upd (Same.none gs hx)) rz, w.mono (same_upd (Same.none gs hx)) rz2⟩⟩)
theorem ev_tupN {r : Rl α} {n : Nat} {t : TA} {m : PM (List α)} (h : Ea c Γ t m (aAll r n)) (hn : n ≤ sizeLine := by decide) : Ev c Γ (tTup t) m (rTup c.K r) := fun S σ F H p Q g q =>
  h S σ F H p _ g (by
    have q' : Post c σ F H (rTup c.K r) Q ((m >>= fun l => pure l) p) := by rw [bind_pure]; exact q
    exact q'.seq fun a p1 v F1 H1 e1 pl1 r1 h1 => ⟨by rw [r1.1]; exact hn, fun x hx => h1.tup (g.ext e1 pl1).sub pl1 hx ⟨x, v, rfl, SqT.of upd_same, by rw [r1.1]; exact hn, r1.2.imp fun _ _ => r.mono (same_upd (Same.none (g.ext e1 pl1).sub hx))⟩⟩)
/-! ### subscripts -/
/-- xs[i] -/
def getM (l : List α) (i : Int) : PM α := match atI l i with
  | some a => pure a
  | none => stuck
theorem All2.atI {R : V → α → Prop} {vs : List V} {l : List α} {i : Int} {a : α} (h : All2 R vs l) (e : L2.atI l i = some a) : ∃ v, L2.atI vs i = some v ∧ R v a := by
  unfold L2.atI at e ⊢
  rw [h.length]
  cases z : ixN l.length i with
  | none => rw [z] at e; cases e
  | some j =>
    rw [z] at e
    exact h.get (i := j) e
theorem ev_ixL {r : Rl α} {ma : PM (List α)} {mb : PM Int} (ha : Ev c Γ ta ma (rList r)) (hb : Ev c Γ tb mb rInt) : Ev c Γ (tOp (rIxL c.K) ta tb) (ma >>= fun l => mb >>= fun i => getM l i) r :=
  ev_op ha hb fun l i S σ F H p x y Q gd hx hy q => by
    obtain ⟨a, vs, rfl, h1, h2, h3⟩ := rList.of hx
    unfold getM at q
    cases e : L2.atI l i with
    | none => rw [e] at q; exact q.elim
    | some b =>
      rw [e] at q
      obtain ⟨v, h4, h5⟩ := h3.atI e
      exact ⟨a, vs, i, v, rfl, hy, SqL.of (gd.sub _ _ h1), h4, q.now gd.sub gd.pl h5⟩
theorem ev_ixT {r : Rl α} {ma : PM (List α)} {mb : PM Int} (ha : Ev c Γ ta ma (rTup c.K r)) (hb : Ev c Γ tb mb rInt) : Ev c Γ (tOp (rIxT c.K) ta tb) (ma >>= fun l => mb >>= fun i => getM l i) r :=
  ev_op ha hb fun l i S σ F H p x y Q gd hx hy q => by
    obtain ⟨a, vs, rfl, h1, h2, h3⟩ := hx
    unfold getM at q
    cases e : L2.atI l i with
    | none => rw [e] at q; exact q.elim
    | some b =>
      rw [e] at q
      obtain ⟨v, h4, h5⟩ := h3.atI e
      exact ⟨a, vs, i, v, rfl, hy, SqT.same gd.sub h1, h4, q.now gd.sub gd.pl h5⟩
def getS (x : Str) (i : Int) : PM Str := match atI x.cps.toList i with
  | some ch => pure ⟨#[ch]⟩
  | none => stuck
theorem one_le : ((1 : Nat) ≤ sizeLine) := by decide
theorem ev_ixS {ma : PM Str} {mb : PM Int} (ha : Ev c Γ ta ma rStr) (hb : Ev c Γ tb mb rInt) : Ev c Γ (tOp rIxS ta tb) (ma >>= fun l => mb >>= fun i => getS l i) rStr :=
  ev_op ha hb fun l i S σ F H p x y Q gd hx hy q => by
    obtain ⟨rfl, hl⟩ := hx
    unfold getS at q
    cases e : L2.atI l.cps.toList i with
    | none => rw [e] at q; exact q.elim
    | some b =>
      rw [e] at q
      exact ⟨l, i, b, rfl, hy, hl, e, q.now gd.sub gd.pl ⟨rfl, one_le⟩⟩
/-- an item of a pair by its written place -/
theorem ev_fst {r : Rl α} {u : Rl β} {ma : PM (α × β)} (ha : Ev c Γ ta ma (rPair c.K r u)) : Ev c Γ (tOp (rIxT c.K) ta (tC (.int 0))) (ma >>= fun x => pure x.1) r := fun S σ F H p Q g q =>
  ha S σ F H p _ g (q.seq fun a p1 v F1 H1 e1 pl1 r1 h1 => by
    obtain ⟨x, y, z, rfl, k1, k2, k3⟩ := r1
    exact ⟨x, _, 0, y, rfl, rfl, SqT.same (g.ext e1 pl1).sub k1, rfl, h1.now (g.ext e1 pl1).sub pl1 k2⟩)
theorem ev_snd {r : Rl α} {u : Rl β} {ma : PM (α × β)} (ha : Ev c Γ ta ma (rPair c.K r u)) : Ev c Γ (tOp (rIxT c.K) ta (tC (.int 1))) (ma >>= fun x => pure x.2) u := fun S σ F H p Q g q =>
  ha S σ F H p _ g (q.seq fun a p1 v F1 H1 e1 pl1 r1 h1 => by
    obtain ⟨x, y, z, rfl, k1, k2, k3⟩ := r1
    exact ⟨x, _, 1, z, rfl, rfl, SqT.same (g.ext e1 pl1).sub k1, rfl, h1.now (g.ext e1 pl1).sub pl1 k3⟩)
theorem ev_t1 {γ : Type} {r : Rl α} {u : Rl β} {w : Rl γ} {ma : PM (α × β × γ)} (ha : Ev c Γ ta ma (rTrip c.K r u w)) : Ev c Γ (tOp (rIxT c.K) ta (tC (.int 0))) (ma >>= fun x => pure x.1) r := fun S σ F H p Q g q =>
  ha S σ F H p _ g (q.seq fun a p1 v F1 H1 e1 pl1 r1 h1 => by
    obtain ⟨x, y, z, z2, rfl, k1, k2, k3, k4⟩ := r1
    exact ⟨x, _, 0, y, rfl, rfl, SqT.same (g.ext e1 pl1).sub k1, rfl, h1.now (g.ext e1 pl1).sub pl1 k2⟩)
theorem ev_t2 {γ : Type} {r : Rl α} {u : Rl β} {w : Rl γ} {ma : PM (α × β × γ)} (ha : Ev c Γ ta ma (rTrip c.K r u w)) : Ev c Γ (tOp (rIxT c.K) ta (tC (.int 1))) (ma >>= fun x => pure x.2.1) u := fun S σ F H p Q g q =>
  ha S σ F H p _ g (q.seq fun a p1 v F1 H1 e1 pl1 r1 h1 => by
    obtain ⟨x, y, z, z2, rfl, k1, k2, k3, k4⟩ := r1
    exact ⟨x, _, 1, z, rfl, rfl, SqT.same (g.ext e1 pl1).sub k1, rfl, h1.now (g.ext e1 pl1).sub pl1 k3⟩)
theorem ev_t3 {γ : Type} {r : Rl α} {u : Rl β} {w : Rl γ} {ma : PM (α × β × γ)} (ha : Ev c Γ ta ma (rTrip c.K r u w)) : Ev c Γ (tOp (rIxT c.K) ta (tC (.int 2))) (ma >>= fun x => pure x.2.2) w := fun S σ F H p Q g q =>
  ha S σ F H p _ g (q.seq fun a p1 v F1 H1 e1 pl1 r1 h1 => by
    obtain ⟨x, y, z, z2, rfl, k1, k2, k3, k4⟩ := r1
    exact ⟨x, _, 2, z2, rfl, rfl, SqT.same (g.ext e1 pl1).sub k1, rfl, h1.now (g.ext e1 pl1).sub pl1 k4⟩)
/-! ### slices -/
def Eo (c : Cf) (Γ : List Sl) (t : TO) (m : PM (Option Int)) : Prop :=
  ∀ (S : Hp × Hp) (σ : St) (F H : Hp) (p : Pool) (Q : Option Int → Hp → Prop), Good S c.q c.s Γ σ F H p → Post c σ F H (⟨fun _ x o => x = o, fun _ h => h⟩ : Rg (Option Int) (Option Int)) Q (m p) → t σ H Q
theorem eo_none : Eo c Γ tNoPart (pure none) := fun S σ F H p Q g q => q.now g.sub g.pl rfl
theorem eo_some {mb : PM Int} (hb : Ev c Γ tb mb rInt) : Eo c Γ (tPart tb) (mb >>= fun i => pure (some i)) := fun S σ F H p Q g q =>
  hb S σ F H p _ g (q.seq fun a p1 v F1 H1 e1 pl1 r1 h1 => ⟨a, r1, h1.now (g.ext e1 pl1).sub pl1 rfl⟩)
theorem ev_slS {tl th : TO} {ma : PM Str} {ml mh : PM (Option Int)} (ha : Ev c Γ ta ma rStr) (hl : Eo c Γ tl ml) (hh : Eo c Γ th mh) : Ev c Γ (tSl rSlS ta tl th) (ma >>= fun x => ml >>= fun l => mh >>= fun h => pure (cutS x l h)) rStr := fun S σ F H p Q g q =>
  ha S σ F H p _ g (q.seq fun a p1 v F1 H1 e1 pl1 r1 h1 => hl S σ F1 H1 p1 _ (g.ext e1 pl1) (h1.seq fun l p2 lv F2 H2 e2 pl2 r2 h2 => hh S σ F2 H2 p2 _ ((g.ext e1 pl1).ext e2 pl2) (h2.seq fun h p3 hv F3 H3 e3 pl3 r3 h3 => by
    obtain ⟨rfl, k⟩ := r1
    subst r2 r3
    exact ⟨a, rfl, k, h3.now (((g.ext e1 pl1).ext e2 pl2).ext e3 pl3).sub pl3 ⟨rfl, Nat.le_trans (cutS_length a lv hv) k⟩⟩)))
def cutL (l : List α) (lo hi : Option Int) : List α := (l.drop (HT.sIx l.length 0 lo)).take (HT.sIx l.length l.length hi - HT.sIx l.length 0 lo)
theorem All2.cut {R : V → α → Prop} {vs : List V} {l : List α} (h : All2 R vs l) (lo hi : Option Int) : All2 R (cutV vs lo hi) (cutL l lo hi) := by
  unfold cutV cutL
  rw [h.length]
  exact (h.drop _).take _
theorem en_slL {r : Rl α} {tl th : TO} {ma : PM (List α)} {ml mh : PM (Option Int)} (ha : Ev c Γ ta ma (rList r)) (hl : Eo c Γ tl ml) (hh : Eo c Γ th mh) : En c Γ (tSl (rSlL c.K) ta tl th) (ma >>= fun x => ml >>= fun l => mh >>= fun h => pure (cutL x l h)) (oList r) := fun S σ F H p Q g q =>
  ha S σ F H p _ g (q.seq fun a p1 v F1 H1 e1 pl1 r1 h1 => hl S σ F1 H1 p1 _ (g.ext e1 pl1) (h1.seq fun l p2 lv F2 H2 e2 pl2 r2 h2 => hh S σ F2 H2 p2 _ ((g.ext e1 pl1).ext e2 pl2) (h2.seq fun h p3 hv F3 H3 e3 pl3 r3 h3 => by
    obtain ⟨x, vs, rfl, k1, k2, k3⟩ := rList.of ((rList r).mono (e2.sub.trans e3.sub) r1)
    subst r2 r3
    have gs := (((g.ext e1 pl1).ext e2 pl2).ext e3 pl3).sub
    exact ⟨x, vs, rfl, SqL.of (gs _ _ k1), fun y hy => h3.now gs pl3 hy ⟨_, rfl, Nat.le_trans (cutV_length vs lv hv) k2, k3.cut lv hv⟩⟩)))
/-! ### texts -/
def catS (x y : Str) : PM Str := guardM (x.length + y.length ≤ sizeLine) (x ++ y)
theorem length_app (x y : Str) : (x ++ y).length = x.length + y.length := by
  show (x.cps ++ y.cps).size = x.cps.size + y.cps.size
  simp
theorem ev_catS {ma mb : PM Str} (ha : Ev c Γ ta ma rStr) (hb : Ev c Γ tb mb rStr) : Ev c Γ (tOp (fun x y H Q => ∃ i j, x = .str i ∧ y = .str j ∧ i.length + j.length ≤ sizeLine ∧ Q (.str (i ++ j)) H) ta tb) (ma >>= fun a => mb >>= fun b => catS a b) rStr :=
  ev_op ha hb fun a b S σ F H p x y Q gd hx hy q => by
    unfold catS guardM at q
    by_cases h : a.length + b.length ≤ sizeLine
    · rw [if_pos h] at q
      exact ⟨a, b, hx.1, hy.1, h, q.now gd.sub gd.pl ⟨rfl, by rw [length_app]; exact h⟩⟩
    · rw [if_neg h] at q
      exact q.elim
def inSign (x z : Str) : PM Bool := match x.cps.toList with
  | [ch] => pure (decide (ch ∈ z.cps.toList))
  | _ => stuck
theorem sign_of {x : Str} {ch : Nat} (h : x.cps.toList = [ch]) : x = ⟨#[ch]⟩ := by
  obtain ⟨a⟩ := x
  congr 1
  exact Array.toList_inj.mp h
theorem inSign_ok {x z : Str} {γ : Type} {f : Bool → PM γ} {P : Except Er γ × Pool → Prop} {p : Pool} (h : P ((inSign x z >>= f) p)) (hs : ¬ P (.error .stuck, p)) : ∃ ch, x.cps.toList = [ch] ∧ P (f (decide (ch ∈ z.cps.toList)) p) := by
  unfold inSign at h
  generalize x.cps.toList = l at h ⊢
  match l, h with
  | [], h => exact absurd h hs
  | [ch], h => exact ⟨ch, rfl, h⟩
  | _ :: _ :: _, h => exact absurd h hs
theorem ev_inS {ma mb : PM Str} (ha : Ev c Γ ta ma rStr) (hb : Ev c Γ tb mb rStr) : Ev c Γ (tOp (fun x y H Q => ∃ (ch : Nat) (z : Str), x = .str ⟨#[ch]⟩ ∧ y = .str z ∧ Q (.bl (decide (ch ∈ z.cps.toList))) H) ta tb) (ma >>= fun a => mb >>= fun b => inSign a b) rBool :=
  ev_op ha hb fun a b S σ F H p x y Q gd hx hy q => by
    obtain ⟨ch, e, q⟩ := inSign_ok (f := pure) (P := Post c σ F H rBool Q) (by rw [bind_pure]; exact q) fun z => z
    exact ⟨ch, b, by rw [hx.1, sign_of e], hy.1, q.now gd.sub gd.pl rfl⟩
theorem ev_ninS {ma mb : PM Str} (ha : Ev c Γ ta ma rStr) (hb : Ev c Γ tb mb rStr) : Ev c Γ (tOp (fun x y H Q => ∃ (ch : Nat) (z : Str), x = .str ⟨#[ch]⟩ ∧ y = .str z ∧ Q (.bl (!decide (ch ∈ z.cps.toList))) H) ta tb) (ma >>= fun a => mb >>= fun b => inSign a b >>= fun k => pure (!k)) rBool :=
  ev_op ha hb fun a b S σ F H p x y Q gd hx hy q => by
    obtain ⟨ch, e, q⟩ := inSign_ok (P := Post c σ F H rBool Q) q fun z => z
    exact ⟨ch, b, by rw [hx.1, sign_of e], hy.1, q.now gd.sub gd.pl rfl⟩
/-! ### lists -/
def catL (a b : List α) : PM (List α) := guardM (a.length + b.length ≤ sizeLine) (a ++ b)
theorem en_cat {r : Rl α} {ma mb : PM (List α)} (ha : Ev c Γ ta ma (rList r)) (hb : Ev c Γ tb mb (rList r)) : En c Γ (tOp rCat ta tb) (ma >>= fun a => mb >>= fun b => catL a b) (oList r) := fun S σ F H p Q g q =>
  ha S σ F H p _ g (q.seq fun a p1 v F1 H1 e1 pl1 r1 h1 => hb S σ F1 H1 p1 _ (g.ext e1 pl1) (h1.seq fun b p2 w F2 H2 e2 pl2 r2 h2 => by
    obtain ⟨x, vs, rfl, k1, k2, k3⟩ := rList.of ((rList r).mono e2.sub r1)
    obtain ⟨y, ws, rfl, j1, j2, j3⟩ := rList.of r2
    have gs := ((g.ext e1 pl1).ext e2 pl2).sub
    unfold catL guardM at h2
    by_cases h : a.length + b.length ≤ sizeLine
    · rw [if_pos h] at h2
      have h' : vs.length + ws.length ≤ sizeLine := by rw [k3.length, j3.length]; exact h
      exact ⟨x, y, vs, ws, rfl, rfl, gs _ _ k1, gs _ _ j1, h', fun z hz => h2.now gs pl2 hz ⟨_, rfl, by rw [List.length_append]; exact h', k3.append j3⟩⟩
    · rw [if_neg h] at h2
      exact h2.elim))
/-! ### built-in functions -/
theorem ev_cb {A : Type} {γ : Type} {rr : List V → Hp → VK → Prop} {t : TA} {ra : Ra A} {rc : Rl γ} {m : PM A} {f : A → PM γ} (h : Ea c Γ t m ra)
    (k : ∀ a S σ F H p vs Q, Good S c.q c.s Γ σ F H p → ra.rel F vs a → Post c σ F H rc Q (f a p) → rr vs H Q) : Ev c Γ (tCB rr t) (m >>= f) rc := fun S σ F H p Q g q =>
  h S σ F H p _ g (q.seq fun a p1 v F1 H1 e1 pl1 r1 h1 => k a S σ F1 H1 p1 v Q (g.ext e1 pl1) r1 h1)
theorem ev_lenS {ma : PM Str} (ha : Ev c Γ ta ma rStr) : Ev c Γ (tCB (fun xs H Q => ∃ z : Str, xs = [.str z] ∧ z.length ≤ sizeLine ∧ Q (.int z.length) H) (tCons ta tNil)) (ma >>= fun x => pure (x.length : Int)) rInt := fun S σ F H p Q g q =>
  ha S σ F H p _ g (q.seq fun a p1 v F1 H1 e1 pl1 r1 h1 => ⟨a, by rw [r1.1], r1.2, h1.now (g.ext e1 pl1).sub pl1 rfl⟩)
abbrev rLenQ (K : PySem.W.Frag) : List V → Hp → VK → Prop := fun xs H Q => ∃ p ys, xs = [.ref p] ∧ (SqL K H p ys ∨ SqT K H p ys) ∧ Q (.int ys.length) H
theorem ev_lenL {r : Rl α} {ma : PM (List α)} (ha : Ev c Γ ta ma (rList r)) : Ev c Γ (tCB (rLenQ c.K) (tCons ta tNil)) (ma >>= fun x => pure (x.length : Int)) rInt := fun S σ F H p Q g q =>
  ha S σ F H p _ g (q.seq fun a p1 v F1 H1 e1 pl1 r1 h1 => by
    obtain ⟨x, vs, rfl, k1, k2, k3⟩ := rList.of r1
    refine ⟨x, vs, rfl, .inl (SqL.of ((g.ext e1 pl1).sub _ _ k1)), ?_⟩
    rw [k3.length]
    exact h1.now (g.ext e1 pl1).sub pl1 rfl)
theorem ev_lenT {r : Rl α} {ma : PM (List α)} (ha : Ev c Γ ta ma (rTup c.K r)) : Ev c Γ (tCB (rLenQ c.K) (tCons ta tNil)) (ma >>= fun x => pure (x.length : Int)) rInt := fun S σ F H p Q g q =>
  ha S σ F H p _ g (q.seq fun a p1 v F1 H1 e1 pl1 r1 h1 => by
    obtain ⟨x, vs, rfl, k1, k2, k3⟩ := r1
    refine ⟨x, vs, rfl, .inr (SqT.same (g.ext e1 pl1).sub k1), ?_⟩
    rw [k3.length]
    exact h1.now (g.ext e1 pl1).sub pl1 rfl)
/-- len of an own list -/
theorem ev_lenO (i : Nat) {r : Rl α} {l : List α} (h : nth Γ i = .own (oList r) l) : Ev c Γ (tCB (rLenQ c.K) (tCons (tVar i) tNil)) (pure (l.length : Int)) rInt := fun S σ F H p Q g q => by
  obtain ⟨x, ho, h1, h2, ⟨vs, rfl, k2, k3⟩, _⟩ := g.sl.own h
  refine ⟨_, h1, x, vs, rfl, .inl (SqL.of h2), ?_⟩
  rw [k3.length]
  exact q.now g.sub g.pl rfl
theorem ev_int1 {ma : PM Int} (ha : Ev c Γ ta ma rInt) : Ev c Γ (tCB (fun xs H Q => (∃ i, xs = [.int i] ∧ Q (.int i) H) ∨ ∃ k, xs = [.bl k] ∧ Q (.int (if k then 1 else 0)) H) (tCons ta tNil)) ma rInt := fun S σ F H p Q g q =>
  ha S σ F H p _ g (by
    have q' : Post c σ F H rInt Q ((ma >>= fun l => pure l) p) := by rw [bind_pure]; exact q
    exact q'.seq fun a p1 v F1 H1 e1 pl1 r1 h1 => .inl ⟨a, by rw [show v = .int a from r1], h1.now (g.ext e1 pl1).sub pl1 rfl⟩)
theorem ev_abs {ma : PM Int} (ha : Ev c Γ ta ma rInt) : Ev c Γ (tCB (fun xs H Q => ∃ i, xs = [.int i] ∧ Q (.int (if i < 0 then -i else i)) H) (tCons ta tNil)) (ma >>= fun i => pure (if i < 0 then -i else i)) rInt := fun S σ F H p Q g q =>
  ha S σ F H p _ g (q.seq fun a p1 v F1 H1 e1 pl1 r1 h1 => ⟨a, by rw [show v = .int a from r1], h1.now (g.ext e1 pl1).sub pl1 rfl⟩)
def strM (i : Int) : PM Str := guardM (i.natAbs.log2 < 1920 ∧ (Str.ofString (toString i)).length ≤ sizeLine) (toString i : Str)
theorem ev_strI {ma : PM Int} (ha : Ev c Γ ta ma rInt) : Ev c Γ (tCB (fun xs H Q => ∃ i : Int, xs = [.int i] ∧ i.natAbs.log2 < 1920 ∧ Q (.str (toString i)) H) (tCons ta tNil)) (ma >>= fun i => strM i) rStr := fun S σ F H p Q g q =>
  ha S σ F H p _ g (q.seq fun a p1 v F1 H1 e1 pl1 r1 h1 => by
    unfold strM guardM at h1
    by_cases h : a.natAbs.log2 < 1920 ∧ (Str.ofString (toString a)).length ≤ sizeLine
    · rw [if_pos h] at h1
      exact ⟨a, by rw [show v = .int a from r1], h.1, h1.now (g.ext e1 pl1).sub pl1 ⟨rfl, h.2⟩⟩
    · rw [if_neg h] at h1
      exact h1.elim)
/-- all(xs), any(xs) -/
theorem All2.bools {F : Hp} : ∀ {vs : List V} {l : List Bool}, All2 (rBool.rel F) vs l → vs = l.map V.bl
  | _, _, .nil => rfl
  | _, _, .cons r t => by rw [show _ = V.bl _ from r, t.bools]; rfl
theorem ev_all {ma : PM (List Bool)} (ha : Ev c Γ ta ma (rList rBool)) : Ev c Γ (tCB (rAll c.K) (tCons ta tNil)) (ma >>= fun l => pure (l.all id)) rBool := fun S σ F H p Q g q =>
  ha S σ F H p _ g (q.seq fun a p1 v F1 H1 e1 pl1 r1 h1 => by
    obtain ⟨x, vs, rfl, k1, k2, k3⟩ := rList.of r1
    rw [k3.bools] at k1
    exact ⟨x, a, rfl, SqL.of ((g.ext e1 pl1).sub _ _ k1), h1.now (g.ext e1 pl1).sub pl1 rfl⟩)
theorem ev_any {ma : PM (List Bool)} (ha : Ev c Γ ta ma (rList rBool)) : Ev c Γ (tCB (rAny c.K) (tCons ta tNil)) (ma >>= fun l => pure (l.any id)) rBool := fun S σ F H p Q g q =>
  ha S σ F H p _ g (q.seq fun a p1 v F1 H1 e1 pl1 r1 h1 => by
    obtain ⟨x, vs, rfl, k1, k2, k3⟩ := rList.of r1
    rw [k3.bools] at k1
    exact ⟨x, a, rfl, SqL.of ((g.ext e1 pl1).sub _ _ k1), h1.now (g.ext e1 pl1).sub pl1 rfl⟩)
/-- list(xs), tuple(xs) -/
abbrev rListOf (K : PySem.W.Frag) : List V → Hp → VK → Prop := fun xs H Q => ∃ p ys, xs = [.ref p] ∧ (SqL K H p ys ∨ SqT K H p ys) ∧ ∀ l, H l = none → Q (.ref l) (upd H l (.lst ys))
theorem en_listL {r : Rl α} {ma : PM (List α)} (ha : Ev c Γ ta ma (rList r)) : En c Γ (tCB (rListOf c.K) (tCons ta tNil)) ma (oList r) := fun S σ F H p Q g q =>
  ha S σ F H p _ g (by
    have q' : PostN c σ F H (oList r) Q ((ma >>= fun l => pure l) p) := by rw [bind_pure]; exact q
    exact q'.seq fun a p1 v F1 H1 e1 pl1 r1 h1 => by
      obtain ⟨x, vs, rfl, k1, k2, k3⟩ := rList.of r1
      have gs := (g.ext e1 pl1).sub
      exact ⟨x, vs, rfl, .inl (SqL.of (gs _ _ k1)), fun z hz => h1.now gs pl1 hz ⟨_, rfl, k2, k3⟩⟩)
theorem en_listT {r : Rl α} {ma : PM (List α)} (ha : Ev c Γ ta ma (rTup c.K r)) : En c Γ (tCB (rListOf c.K) (tCons ta tNil)) ma (oList r) := fun S σ F H p Q g q =>
  ha S σ F H p _ g (by
    have q' : PostN c σ F H (oList r) Q ((ma >>= fun l => pure l) p) := by rw [bind_pure]; exact q
    exact q'.seq fun a p1 v F1 H1 e1 pl1 r1 h1 => by
      obtain ⟨x, vs, rfl, k1, k2, k3⟩ := r1
      have gs := (g.ext e1 pl1).sub
      exact ⟨x, vs, rfl, .inr (SqT.same gs k1), fun z hz => h1.now gs pl1 hz ⟨_, rfl, k2, k3⟩⟩)
abbrev rTupOf (K : PySem.W.Frag) : List V → Hp → VK → Prop := fun xs H Q => ∃ p ys, xs = [.ref p] ∧ ((SqL K H p ys ∧ ∀ l, H l = none → Q (.ref l) (upd H l (.tup ys))) ∨ (SqT K H p ys ∧ Q (.ref p) H))
theorem ev_tupL {r : Rl α} {ma : PM (List α)} (ha : Ev c Γ ta ma (rList r)) : Ev c Γ (tCB (rTupOf c.K) (tCons ta tNil)) ma (rTup c.K r) := fun S σ F H p Q g q =>
  ha S σ F H p _ g (by
    have q' : Post c σ F H (rTup c.K r) Q ((ma >>= fun l => pure l) p) := by rw [bind_pure]; exact q
    exact q'.seq fun a p1 v F1 H1 e1 pl1 r1 h1 => by
      obtain ⟨x, vs, rfl, k1, k2, k3⟩ := rList.of r1
      have gs := (g.ext e1 pl1).sub
      exact ⟨x, vs, rfl, .inl ⟨SqL.of (gs _ _ k1), fun z hz => h1.tup gs pl1 hz ⟨z, vs, rfl, SqT.of upd_same, k2, k3.imp fun _ _ => r.mono (same_upd (Same.none gs hz))⟩⟩⟩)
theorem ev_tupT {r : Rl α} {ma : PM (List α)} (ha : Ev c Γ ta ma (rTup c.K r)) : Ev c Γ (tCB (rTupOf c.K) (tCons ta tNil)) ma (rTup c.K r) := fun S σ F H p Q g q =>
  ha S σ F H p _ g (by
    have q' : Post c σ F H (rTup c.K r) Q ((ma >>= fun l => pure l) p) := by rw [bind_pure]; exact q
    exact q'.seq fun a p1 v F1 H1 e1 pl1 r1 h1 => by
      obtain ⟨x, vs, rfl, k1, k2, k3⟩ := id r1
      have gs := (g.ext e1 pl1).sub
      exact ⟨x, vs, rfl, .inr ⟨SqT.same gs k1, h1.now gs pl1 r1⟩⟩)
end
end Kf

set_option maxHeartbeats 4000000
namespace Kf
open PySem PySem.Spec L2
open PyProof.Rows hiding St
/-! ### states changed -/
theorem own_put_val : ∀ {Γ : List Sl} {σ : St} {i : Nat} {s : Sl} {o : Option V}, (∀ α (r : Ro α) a, s ≠ .own r a) → (∀ R, s ≠ .res R) → (ownA (put Γ i s) (σ.set i o)).Sublist (ownA Γ σ)
  | [], σ, i, s, o, _, _ => by cases i <;> cases σ <;> exact List.Sublist.refl _
  | x :: Γ, [], i, s, o, _, _ => by cases i <;> cases s <;> cases x <;> exact List.Sublist.refl _
  | x :: Γ, y :: σ, 0, s, o, h, hR => by
    have e : ownA (put (x :: Γ) 0 s) ((y :: σ).set 0 o) = ownA Γ σ := by
      cases s with
      | any => rfl
      | val _ _ => rfl
      | own r a => exact absurd rfl (h _ r a)
      | res R => exact absurd rfl (hR R)
    rw [e]
    cases x with
    | any => exact List.Sublist.refl _
    | val _ _ => exact List.Sublist.refl _
    | res R => exact List.sublist_append_right _ _
    | own r a =>
      cases y with
      | none => exact List.Sublist.refl _
      | some v => cases v with
        | ref p => exact List.sublist_cons_self _ _
        | _ => exact List.Sublist.refl _
  | x :: Γ, y :: σ, i + 1, s, o, h, hR => by
    have ih := own_put_val (Γ := Γ) (σ := σ) (i := i) (s := s) (o := o) h hR
    cases x with
    | any => exact ih
    | val _ _ => exact ih
    | res R => exact ih.append_left _
    | own r a =>
      cases y with
      | none => exact ih
      | some v => cases v with
        | ref p => exact ih.cons_cons _
        | _ => exact ih
theorem own_put_new : ∀ {Γ : List Sl} {σ : St} {i : Nat} {α : Type} {r : Ro α} {a : α} {p : Addr}, p ∉ ownA Γ σ → (ownA Γ σ).Nodup →
    (ownA (put Γ i (.own r a)) (σ.set i (some (.ref p)))).Nodup ∧ ∀ x ∈ ownA (put Γ i (.own r a)) (σ.set i (some (.ref p))), x = p ∨ x ∈ ownA Γ σ
  | [], σ, i, α, r, a, p, _, h => by cases i <;> cases σ <;> exact ⟨h, fun x hx => nomatch hx⟩
  | s :: Γ, [], i, α, r, a, p, _, h => by cases i <;> cases s <;> exact ⟨h, fun x hx => nomatch hx⟩
  | s :: Γ, o :: σ, 0, α, r, a, p, hp, h => by
    have sub : (ownA Γ σ).Sublist (ownA (s :: Γ) (o :: σ)) := by
      cases s with
      | any => exact List.Sublist.refl _
      | val _ _ => exact List.Sublist.refl _
      | res R => exact List.sublist_append_right _ _
      | own _ _ =>
        cases o with
        | none => exact List.Sublist.refl _
        | some v => cases v with
          | ref q => exact List.sublist_cons_self _ _
          | _ => exact List.Sublist.refl _
    exact ⟨List.nodup_cons.mpr ⟨fun z => hp (sub.subset z), h.sublist sub⟩, fun x hx => (List.mem_cons.mp hx).imp id fun z => sub.subset z⟩
  | s :: Γ, o :: σ, i + 1, α, r, a, p, hp, h => by
    cases s with
    | any => exact own_put_new (Γ := Γ) (σ := σ) (i := i) hp h
    | val _ _ => exact own_put_new (Γ := Γ) (σ := σ) (i := i) hp h
    | res R =>
      have hp' : p ∉ R.A ++ ownA Γ σ := hp
      have h' : (R.A ++ ownA Γ σ).Nodup := h
      obtain ⟨n0, n2, n3⟩ := List.nodup_append.mp h'
      obtain ⟨k1, k2⟩ := own_put_new (Γ := Γ) (σ := σ) (i := i) (r := r) (a := a) (fun z => hp' (List.mem_append_right _ z)) n2
      refine ⟨List.nodup_append.mpr ⟨n0, k1, fun x hx y hy e => ?_⟩, fun x hx => ?_⟩
      · subst e
        rcases k2 x hy with e | e
        · exact hp' (by rw [← e]; exact List.mem_append_left _ hx)
        · exact n3 x hx x e rfl
      · rcases List.mem_append.mp hx with e | e
        · exact .inr (List.mem_append_left _ e)
        · exact (k2 x e).imp id fun z => List.mem_append_right _ z
    | own r' a' =>
      cases o with
      | none => exact own_put_new (Γ := Γ) (σ := σ) (i := i) hp h
      | some v => cases v with
        | ref q =>
          have hp' : p ∉ q :: ownA Γ σ := hp
          have h' : (q :: ownA Γ σ).Nodup := h
          obtain ⟨n1, n2⟩ := List.nodup_cons.mp h'
          obtain ⟨k1, k2⟩ := own_put_new (Γ := Γ) (σ := σ) (i := i) (r := r) (a := a) (fun z => hp' (List.mem_cons_of_mem _ z)) n2
          refine ⟨List.nodup_cons.mpr ⟨fun z => ?_, k1⟩, fun x hx => ?_⟩
          · rcases k2 q z with e | e
            · exact hp' (by rw [e]; exact List.mem_cons_self)
            · exact n1 e
          · rcases List.mem_cons.mp hx with e | e
            · exact .inr (by rw [e]; exact List.mem_cons_self)
            · rcases k2 x e with e | e
              · exact .inl e
              · exact .inr (List.mem_cons_of_mem _ e)
        | _ => exact own_put_new (Γ := Γ) (σ := σ) (i := i) hp h
theorem SlsOk.putS {F H : Hp} {s : Sl} {o : Option V} (h : SlOk F H s o) : ∀ {Γ : List Sl} {σ : St} (i : Nat), SlsOk F H Γ σ → SlsOk F H (put Γ i s) (σ.set i o)
  | _, _, i, .nil => by cases i <;> exact .nil
  | _, _, 0, .cons _ t => .cons h t
  | _, _, i + 1, .cons q t => .cons q (SlsOk.putS h i t)
section
variable {S : Hp × Hp} {q : Option Addr} {sc : SG} {Γ : List Sl} {σ : St} {F H : Hp} {p : Pool} {α β : Type}
theorem Good.setv (g : Good S q sc Γ σ F H p) (i : Nat) (hG : fre sc.G i = true) {r : Rl α} {a : α} {v : V} (h : r.rel F v a) : Good S q sc (put Γ i (.val r a)) (σ.set i (some v)) F H p := by
  have sub := own_put_val (Γ := Γ) (σ := σ) (i := i) (s := .val r a) (o := some v) (fun _ _ _ z => by cases z) (fun _ z => by cases z)
  exact ⟨g.sub, SlsOk.putS (s := .val r a) (o := some v) ⟨v, rfl, h⟩ i g.sl, g.nd.sublist sub, fun a ha => g.of a (sub.subset ha), fun a ha => g.oq a (sub.subset ha), fun a ha => g.os a (sub.subset ha), g.ent, g.pl, g.gx.set hG, g.ln⟩
/-- a slot forgotten -/
theorem Good.seta (g : Good S q sc Γ σ F H p) (i : Nat) (hG : fre sc.G i = true) {o : Option V} : Good S q sc (put Γ i .any) (σ.set i o) F H p := by
  have sub := own_put_val (Γ := Γ) (σ := σ) (i := i) (s := .any) (o := o) (fun _ _ _ z => by cases z) (fun _ z => by cases z)
  exact ⟨g.sub, SlsOk.putS (s := .any) (o := o) trivial i g.sl, g.nd.sublist sub, fun a ha => g.of a (sub.subset ha), fun a ha => g.oq a (sub.subset ha), fun a ha => g.os a (sub.subset ha), g.ent, g.pl, g.gx.set hG, g.ln⟩
/-- a slot gets a new object -/
theorem Good.seto (g : Good S q sc Γ σ F H p) (i : Nat) (hG : fre sc.G i = true) {r : Ro α} {a : α} {x : Addr} {ho : HO} (hH : H x = some ho) (hF : F x = none) (hS : S.2 x = none) (hq : q ≠ some x) (hx : x ∉ ownA Γ σ) (h : r.rel F ho a) : Good S q sc (put Γ i (.own r a)) (σ.set i (some (.ref x))) F H p := by
  obtain ⟨n1, n2⟩ := own_put_new (Γ := Γ) (σ := σ) (i := i) (r := r) (a := a) (p := x) hx g.nd
  refine ⟨g.sub, SlsOk.putS (s := .own r a) (o := some (.ref x)) ⟨x, ho, rfl, hH, h⟩ i g.sl, n1, fun b hb => ?_, fun b hb => ?_, fun b hb => ?_, g.ent, g.pl, g.gx.set hG, g.ln⟩
  · rcases n2 b hb with e | e
    · rw [e]; exact hF
    · exact g.of b e
  · rcases n2 b hb with e | e
    · rw [e]; exact hq
    · exact g.oq b e
  · rcases n2 b hb with e | e
    · rw [e]; exact hS
    · exact g.os b e
theorem sls_upd {x : Addr} {ho' : HO} {r : Ro α} {a : α} {r' : Ro β} {a' : β} (hr : r'.rel F ho' a') : ∀ {Γ : List Sl} {σ : St} {i : Nat}, SlsOk F H Γ σ → (ownA Γ σ).Nodup → nth Γ i = .own r a → σ[i]? = some (some (.ref x)) →
    SlsOk F (upd H x ho') (put Γ i (.own r' a')) σ ∧ ownA (put Γ i (.own r' a')) σ = ownA Γ σ
  | _, _, i, .nil, _, h, _ => by cases i <;> cases h
  | s :: Γ, o :: σ, 0, .cons h t, nd, e, e2 => by
    have e3 : s = .own r a := e
    have e4 : o = some (.ref x) := by simpa using e2
    subst e3 e4
    have nd' : (x :: ownA Γ σ).Nodup := nd
    refine ⟨.cons ⟨x, ho', rfl, upd_same, hr⟩ (t.ext (Same.refl _) fun b hb o ho => ?_), rfl⟩
    rw [upd_ne (fun z => (List.nodup_cons.mp nd').1 (by rw [← z]; exact hb))]
    exact ho
  | s :: Γ, o :: σ, i + 1, .cons h t, nd, e, e2 => by
    have hm := own_mem (Γ := Γ) (σ := σ) (i := i) (r := r) (a := a) (p := x) e (by simpa using e2)
    have ih := fun n => sls_upd (Γ := Γ) (σ := σ) (i := i) hr t n e (by simpa using e2)
    cases s with
    | any => exact ⟨.cons trivial (ih nd).1, (ih nd).2⟩
    | val _ _ => exact ⟨.cons h (ih nd).1, (ih nd).2⟩
    | res R =>
      have nd' : (R.A ++ ownA Γ σ).Nodup := nd
      obtain ⟨n0, n2, n3⟩ := List.nodup_append.mp nd'
      refine ⟨.cons (R.ext (Same.refl _) (fun b hb o ho => ?_) h) (ih n2).1, congrArg (R.A ++ ·) (ih n2).2⟩
      rw [upd_ne (fun z => n3 b hb x hm z)]
      exact ho
    | own r2 a2 =>
      obtain ⟨y, hy, rfl, k1, k2⟩ := h
      have nd' : (y :: ownA Γ σ).Nodup := nd
      obtain ⟨n1, n2⟩ := List.nodup_cons.mp nd'
      refine ⟨.cons ⟨y, hy, rfl, ?_, k2⟩ (ih n2).1, congrArg (y :: ·) (ih n2).2⟩
      rw [upd_ne (fun z => n1 (by rw [z]; exact hm))]
      exact k1
/-- an own object is changed -/
theorem Good.updo (g : Good S q sc Γ σ F H p) {i : Nat} {r : Ro α} {a : α} {r' : Ro β} {a' : β} {x : Addr} {ho' : HO} (e : nth Γ i = .own r a) (e2 : σ[i]? = some (some (.ref x))) (hr : r'.rel F ho' a') : Good S q sc (put Γ i (.own r' a')) σ F (L2.upd H x ho') p := by
  have hm := own_mem e e2
  obtain ⟨k1, k2⟩ := sls_upd (ho' := ho') hr g.sl g.nd e e2
  have nF := g.of x hm
  have nS := g.os x hm
  have nq := g.oq x hm
  have sF : Same F (L2.upd H x ho') := fun b o h => by
    rw [upd_ne (fun z => by rw [z, nF] at h; cases h)]
    exact g.sub b o h
  refine ⟨sF, k1, by rw [k2]; exact g.nd, by rw [k2]; exact g.of, by rw [k2]; exact g.oq, by rw [k2]; exact g.os, ⟨g.ent.sub, sF, fun b o h n => ?_, g.ent.new⟩, ?_, g.gx, g.ln⟩
  · rw [upd_ne (fun z => by rw [z, nS] at h; cases h)]
    exact g.ent.keep b o h n
  · have pl := g.pl
    cases q with
    | none => trivial
    | some y =>
      obtain ⟨h1, h2, h3⟩ := pl
      exact ⟨h1, by rw [upd_ne (fun z => nq (by rw [z]))]; exact h2, h3⟩
theorem own_put_fz : ∀ {Γ : List Sl} {σ : St} {i : Nat} {r : Ro α} {a : α} {x : Addr}, (ownA Γ σ).Nodup → nth Γ i = .own r a → σ[i]? = some (some (.ref x)) → (ownA (put Γ i (.val (fz r) a)) σ).Sublist (ownA Γ σ) ∧ x ∉ ownA (put Γ i (.val (fz r) a)) σ
  | [], _, i, _, _, _, _, h, _ => by cases i <;> cases h
  | _ :: _, [], i, _, _, _, _, _, h => by simp at h
  | s :: Γ, o :: σ, 0, r, a, x, nd, e, e2 => by
    have e3 : s = .own r a := e
    have e4 : o = some (.ref x) := by simpa using e2
    subst e3 e4
    exact ⟨List.sublist_cons_self _ _, (List.nodup_cons.mp (show (x :: ownA Γ σ).Nodup from nd)).1⟩
  | s :: Γ, o :: σ, i + 1, r, a, x, nd, e, e2 => by
    have hm := own_mem (Γ := Γ) (σ := σ) (i := i) (r := r) (a := a) (p := x) e (by simpa using e2)
    have ih := fun n => own_put_fz (Γ := Γ) (σ := σ) (i := i) (r := r) (a := a) (x := x) n e (by simpa using e2)
    cases s with
    | any => exact ih nd
    | val _ _ => exact ih nd
    | res R =>
      have nd' : (R.A ++ ownA Γ σ).Nodup := nd
      obtain ⟨n0, n2, n3⟩ := List.nodup_append.mp nd'
      obtain ⟨k1, k2⟩ := ih n2
      exact ⟨k1.append_left _, fun z => (List.mem_append.mp z).elim (fun e => n3 x e x hm rfl) k2⟩
    | own r2 a2 =>
      cases o with
      | none => exact ih nd
      | some v => cases v with
        | ref y =>
          have nd' : (y :: ownA Γ σ).Nodup := nd
          obtain ⟨n1, n2⟩ := List.nodup_cons.mp nd'
          obtain ⟨k1, k2⟩ := ih n2
          exact ⟨k1.cons_cons _, fun z => (List.mem_cons.mp z).elim (fun e => n1 (by rw [← e]; exact hm)) k2⟩
        | _ => exact ih nd
theorem SlsOk.fz {x : Addr} {ho : HO} (hF : F x = none) {r : Ro α} {a : α} (hr : r.rel F ho a) : ∀ {Γ : List Sl} {σ : St} {i : Nat}, SlsOk F H Γ σ → σ[i]? = some (some (.ref x)) → SlsOk (upd F x ho) H (Kf.put Γ i (.val (fz r) a)) σ
  | _, _, i, .nil, h => by simp at h
  | s :: Γ, o :: σ, 0, .cons h t, e2 => by
    have e4 : o = some (.ref x) := by simpa using e2
    subst e4
    exact .cons ⟨_, rfl, x, ho, rfl, upd_same, r.mono (same_upd hF) hr⟩ (t.ext (same_upd hF) fun _ _ _ h => h)
  | s :: Γ, o :: σ, i + 1, .cons h t, e2 => by
    refine .cons ?_ (SlsOk.fz hF hr t (by simpa using e2))
    cases s with
    | any => trivial
    | val r' a' => obtain ⟨v, e, h⟩ := h; exact ⟨v, e, r'.mono (same_upd hF) h⟩
    | res R => exact R.ext (same_upd hF) (fun _ _ _ h => h) h
    | own r' a' => obtain ⟨y, hy, e, h1, h2⟩ := h; exact ⟨y, hy, e, h1, r'.mono (same_upd hF) h2⟩
/-- an own object stands still from here on -/
theorem Good.fz (g : Good S q sc Γ σ F H p) {i : Nat} {r : Ro α} {a : α} (e : nth Γ i = .own r a) : ∃ F', Same F F' ∧ Good S q sc (put Γ i (.val (fz r) a)) σ F' H p := by
  obtain ⟨x, ho, e2, h1, h2, hm⟩ := g.sl.own e
  have nF := g.of x hm
  obtain ⟨s1, s2⟩ := own_put_fz g.nd e e2
  refine ⟨upd F x ho, same_upd nF, ⟨fun b o z => ?_, g.sl.fz nF h2 e2, g.nd.sublist s1, fun b hb => ?_, fun b hb => g.oq b (s1.subset hb), fun b hb => g.os b (s1.subset hb), ⟨g.ent.sub.trans (same_upd nF), fun b o z => ?_, g.ent.keep, fun b o z => ?_⟩, ?_, g.gx.mono (same_upd nF), g.ln⟩⟩
  · by_cases hb : b = x
    · subst hb; rw [upd_same] at z; rw [← z]; exact h1
    · rw [upd_ne hb] at z; exact g.sub b o z
  · rw [upd_ne (fun z => s2 (by rw [← z]; exact hb))]; exact g.of b (s1.subset hb)
  · by_cases hb : b = x
    · subst hb; rw [upd_same] at z; rw [← z]; exact h1
    · rw [upd_ne hb] at z; exact g.sub b o z
  · by_cases hb : b = x
    · subst hb; exact .inr (g.os b hm)
    · rw [upd_ne hb] at z; exact g.ent.new b o z
  · have pl := g.pl
    have nq := g.oq x hm
    cases q with
    | none => trivial
    | some y =>
      obtain ⟨k1, k2, k3⟩ := pl
      exact ⟨by rw [upd_ne (fun z => nq (by rw [z]))]; exact k1, k2, same_upd nF _ _ k3.1, k3.2⟩
end
/-! ### weaker slots -/
inductive Wk : List Sl → List Sl → Prop where
  | nil : Wk [] []
  | same {s Γ Δ} : Wk Γ Δ → Wk (s :: Γ) (s :: Δ)
  | any {s Γ Δ} : Wk Γ Δ → Wk (s :: Γ) (.any :: Δ)
theorem Wk.own : ∀ {Γ Δ : List Sl} {σ : St}, Wk Γ Δ → (ownA Δ σ).Sublist (ownA Γ σ)
  | _, _, σ, .nil => by cases σ <;> exact List.Sublist.refl _
  | _, _, [], .same _ => by rename_i s _ _ _; cases s <;> exact List.Sublist.refl _
  | _, _, [], .any _ => by rename_i s _ _ _; cases s <;> exact List.Sublist.refl _
  | s :: _, _, o :: σ, .same t => by
    have ih := Wk.own (σ := σ) t
    cases s with
    | any => exact ih
    | val _ _ => exact ih
    | res R => exact ih.append_left _
    | own _ _ =>
      cases o with
      | none => exact ih
      | some v => cases v with
        | ref y => exact ih.cons_cons _
        | _ => exact ih
  | s :: _, _, o :: σ, .any t => by
    have ih := Wk.own (σ := σ) t
    cases s with
    | any => exact ih
    | val _ _ => exact ih
    | res R => exact ih.trans (List.sublist_append_right _ _)
    | own _ _ =>
      cases o with
      | none => exact ih
      | some v => cases v with
        | ref y => exact ih.trans (List.sublist_cons_self _ _)
        | _ => exact ih
theorem Wk.sls {F H : Hp} : ∀ {Γ Δ : List Sl} {σ : St}, Wk Γ Δ → SlsOk F H Γ σ → SlsOk F H Δ σ
  | _, _, _, .nil, h => h
  | _, _, _, .same t, .cons h k => .cons h (t.sls k)
  | _, _, _, .any t, .cons _ k => .cons trivial (t.sls k)
theorem Wk.good {S : Hp × Hp} {q : Option Addr} {sc : SG} {Γ Δ : List Sl} {σ : St} {F H : Hp} {p : Pool} (w : Wk Γ Δ) (g : Good S q sc Γ σ F H p) : Good S q sc Δ σ F H p := by
  have s := w.own (σ := σ)
  exact ⟨g.sub, w.sls g.sl, g.nd.sublist s, fun b hb => g.of b (s.subset hb), fun b hb => g.oq b (s.subset hb), fun b hb => g.os b (s.subset hb), g.ent, g.pl, g.gx, g.ln⟩
theorem Wk.refl : ∀ Γ : List Sl, Wk Γ Γ
  | [] => .nil
  | _ :: Γ => .same (Wk.refl Γ)
/-! ### targets -/
def Eg {α : Type} (c : Cf) (Γ : List Sl) (g : TG) (r : Rl α) (Γ' : α → List Sl) (ws : List Nat) : Prop :=
  ∀ (a : α) (v : V) (S : Hp × Hp) (σ : St) (F H : Hp) (p : Pool) (Q : St → Hp → Prop), Good S c.q c.s Γ σ F H p → r.rel F v a →
    (∀ σ', Good S c.q c.s (Γ' a) σ' F H p → (∀ vs : List Nat, (∀ i ∈ ws, i ∈ vs) → wipe σ' vs = wipe σ vs) → Q σ' H) → g v σ H Q
theorem wipe_comm (σ : St) (i : Nat) (o : Option V) : ∀ vs : List Nat, i ∈ vs → wipe (σ.set i o) vs = wipe σ vs
  | [], h => nomatch h
  | v :: vs, h => by
    unfold wipe
    by_cases e : i ∈ vs
    · rw [wipe_comm σ i o vs e]
    · have e2 : i = v := (List.mem_cons.mp h).resolve_right e
      subst e2
      have : ∀ vs : List Nat, i ∉ vs → wipe (σ.set i o) vs = (wipe σ vs).set i o := fun vs => by
        induction vs with
        | nil => intro _; rfl
        | cons w ws ih =>
          intro hn
          unfold wipe
          rw [ih fun z => hn (List.mem_cons_of_mem _ z), List.set_comm]
          exact fun z => hn (by rw [z]; exact List.mem_cons_self)
      rw [this vs e, List.set_set]
section
variable {c : Cf} {Γ : List Sl} {α β γ : Type}
theorem eg_name (i : Nat) {r : Rl α} (hG : fre c.s.G i = true := by rfl) : Eg c Γ (gName i) r (fun a => put Γ i (.val r a)) [i] := fun a v S σ F H p Q g h k =>
  k _ (g.setv i hG h) fun vs hv => wipe_comm σ i _ vs (hv i (List.mem_singleton.mpr rfl))
theorem eg_pair {r : Rl α} {u : Rl β} {g1 g2 : TG} {Γ1 : α → List Sl} {Γ2 : α → β → List Sl} {w1 w2 : List Nat} (h1 : Eg c Γ g1 r Γ1 w1) (h2 : ∀ a, Eg c (Γ1 a) g2 u (Γ2 a) w2) :
    Eg c Γ (gTup c.K 2 (gCons g1 (gCons g2 gNil))) (rPair c.K r u) (fun x => Γ2 x.1 x.2) (w1 ++ w2) := fun a v S σ F H p Q g h k => by
  obtain ⟨x, y, z, rfl, k1, k2, k3⟩ := h
  refine ⟨x, [y, z], rfl, SqT.same g.sub k1, rfl, y, [z], rfl, h1 _ _ S σ F H p _ g k2 fun σ1 g1 e1 => ⟨z, [], rfl, h2 _ _ _ S σ1 F H p _ g1 k3 fun σ2 g2 e2 => ⟨rfl, k σ2 g2 fun vs hv => ?_⟩⟩⟩
  rw [e2 vs fun i hi => hv i (List.mem_append_right _ hi), e1 vs fun i hi => hv i (List.mem_append_left _ hi)]
theorem eg_trip {r : Rl α} {u : Rl β} {w : Rl γ} {g1 g2 g3 : TG} {Γ1 : α → List Sl} {Γ2 : α → β → List Sl} {Γ3 : α → β → γ → List Sl} {w1 w2 w3 : List Nat} (h1 : Eg c Γ g1 r Γ1 w1) (h2 : ∀ a, Eg c (Γ1 a) g2 u (Γ2 a) w2) (h3 : ∀ a b, Eg c (Γ2 a b) g3 w (Γ3 a b) w3) :
    Eg c Γ (gTup c.K 3 (gCons g1 (gCons g2 (gCons g3 gNil)))) (rTrip c.K r u w) (fun x => Γ3 x.1 x.2.1 x.2.2) (w1 ++ (w2 ++ w3)) := fun a v S σ F H p Q g h k => by
  obtain ⟨x, y, z, z2, rfl, k1, k2, k3, k4⟩ := h
  refine ⟨x, [y, z, z2], rfl, SqT.same g.sub k1, rfl, y, [z, z2], rfl, h1 _ _ S σ F H p _ g k2 fun σ1 g1 e1 => ⟨z, [z2], rfl, h2 _ _ _ S σ1 F H p _ g1 k3 fun σ2 g2 e2 => ⟨z2, [], rfl, h3 _ _ _ _ S σ2 F H p _ g2 k4 fun σ3 g3 e3 => ⟨rfl, k σ3 g3 fun vs hv => ?_⟩⟩⟩⟩
  rw [e3 vs fun i hi => hv i (List.mem_append_right _ (List.mem_append_right _ hi)), e2 vs fun i hi => hv i (List.mem_append_right _ (List.mem_append_left _ hi)), e1 vs fun i hi => hv i (List.mem_append_left _ hi)]
end
end Kf

set_option maxHeartbeats 4000000
namespace Kf
open PySem PySem.Spec L2
open PyProof.Rows hiding St
/-- how a statement ends: it goes on, or it leaves the def -/
inductive Fl (β ρ : Type) where
  | nx (b : β)
  | rt (a : ρ)
/-- what is wanted behind a statement that goes on -/
def PostS {β : Type} (c : Cf) (S : Hp × Hp) (Γ' : β → List Sl) (D : Ends) : Except Er β × Pool → Prop
  | (.ok b, p') => ∀ σ' F' H', Good S c.q c.s (Γ' b) σ' F' H' p' → D.nx σ' H'
  | (.error (.exc e), p') => ∀ cls d σ' F' H', Ext c.q S.1 S.2 F' H' → PoolOk c.q c.s F' H' p' → SlsG F' c.s.G σ' → ExR c.K F' e cls d → c.W cls d σ' H'
  | (.error .stuck, _) => False
/-- what is handed back: a value, or a new object -/
structure Rr (ρ : Type) where
  rel : Option Addr → Hp → Hp → Hp → V → ρ → Prop
def Rr.fz {ρ : Type} (r : Rl ρ) : Rr ρ := ⟨fun _ _ F _ v a => r.rel F v a⟩
instance {ρ : Type} : Coe (Rl ρ) (Rr ρ) := ⟨Rr.fz⟩
def Rr.new {ρ : Type} (r : Ro ρ) : Rr ρ := ⟨fun q S2 F H v a => ∃ p ho, v = .ref p ∧ S2 p = none ∧ F p = none ∧ H p = some ho ∧ q ≠ some p ∧ r.rel F ho a⟩
def PostF {β ρ : Type} (c : Cf) (S : Hp × Hp) (rr : Rr ρ) (Γ' : β → List Sl) (D : Ends) : Except Er (Fl β ρ) × Pool → Prop
  | (.ok (.nx b), p') => ∀ σ' F' H', Good S c.q c.s (Γ' b) σ' F' H' p' → D.nx σ' H'
  | (.ok (.rt a), p') => ∀ v F' H', Ext c.q S.1 S.2 F' H' → PoolOk c.q c.s F' H' p' → rr.rel c.q S.2 F' H' v a → D.rt v H'
  | (.error (.exc e), p') => ∀ cls d σ' F' H', Ext c.q S.1 S.2 F' H' → PoolOk c.q c.s F' H' p' → SlsG F' c.s.G σ' → ExR c.K F' e cls d → c.W cls d σ' H'
  | (.error .stuck, _) => False
/-- .. that leaves it -/
def PostL {ρ : Type} (c : Cf) (S : Hp × Hp) (rr : Rr ρ) (D : Ends) : Except Er ρ × Pool → Prop
  | (.ok a, p') => ∀ v F' H', Ext c.q S.1 S.2 F' H' → PoolOk c.q c.s F' H' p' → rr.rel c.q S.2 F' H' v a → D.rt v H'
  | (.error (.exc e), p') => ∀ cls d σ' F' H', Ext c.q S.1 S.2 F' H' → PoolOk c.q c.s F' H' p' → SlsG F' c.s.G σ' → ExR c.K F' e cls d → c.W cls d σ' H'
  | (.error .stuck, _) => False
def Es {β : Type} (c : Cf) (Γ : List Sl) (t : TS) (m : PM β) (Γ' : β → List Sl) : Prop :=
  ∀ (S : Hp × Hp) (σ : St) (F H : Hp) (p : Pool) (D : Ends), Good S c.q c.s Γ σ F H p → PostS c S Γ' D (m p) → t D σ H
def Ef {β ρ : Type} (c : Cf) (rr : Rr ρ) (Γ : List Sl) (t : TS) (m : PM (Fl β ρ)) (Γ' : β → List Sl) : Prop :=
  ∀ (S : Hp × Hp) (σ : St) (F H : Hp) (p : Pool) (D : Ends), Good S c.q c.s Γ σ F H p → PostF c S rr Γ' D (m p) → t D σ H
/-- fall: it may come to its end (None is handed back) -/
def El {ρ : Type} (c : Cf) (rr : Rr ρ) (fall : Prop) (Γ : List Sl) (t : TS) (m : PM ρ) : Prop :=
  ∀ (S : Hp × Hp) (σ : St) (F H : Hp) (p : Pool) (D : Ends), Good S c.q c.s Γ σ F H p → (fall → ∀ σ H, D.rt .non H → D.nx σ H) → PostL c S rr D (m p) → t D σ H
section
variable {c : Cf} {Γ : List Sl} {ta tb : TE} {α β γ ρ : Type} {rr : Rr ρ}
/-! ### from what is wanted of the whole to what is wanted of its first part -/
theorem PostS.seqE {X : Type} {S : Hp × Hp} {σ : St} {F H : Hp} {p : Pool} {D : Ends} {Γ' : β → List Sl} {r : Rg X α} {m : PM α} {f : α → PM β} {Q : X → Hp → Prop} (g : Good S c.q c.s Γ σ F H p) (h : PostS c S Γ' D ((m >>= f) p))
    (k : ∀ a p1 v F1 H1, Good S c.q c.s Γ σ F1 H1 p1 → Same F F1 → r.rel F1 v a → (∀ x, H x = none → H1 x ≠ none → True) → PostS c S Γ' D (f a p1) → Q v H1) : Post c σ F H r Q (m p) := by
  rw [run_bind] at h
  cases e : m p with
  | mk x p1 =>
    rw [e] at h
    cases x with
    | error er =>
      cases er with
      | stuck => exact h
      | exc ex => exact fun cls d F' H' e' pl k => h cls d σ F' H' (g.ent.tr e' g.pl) pl (g.gx.mono e'.sub) k
    | ok a => exact fun v F1 H1 e1 pl1 r1 => k a p1 v F1 H1 (g.ext e1 pl1) e1.sub r1 (fun _ _ _ => trivial) h
theorem PostS.seqT {S : Hp × Hp} {σ : St} {F H : Hp} {p : Pool} {D : Ends} {Γ' : β → List Sl} {m : PM Bool} {f : Bool → PM β} {Q : Bool → Hp → Prop} (g : Good S c.q c.s Γ σ F H p) (h : PostS c S Γ' D ((m >>= f) p))
    (k : ∀ a p1 F1 H1, Good S c.q c.s Γ σ F1 H1 p1 → PostS c S Γ' D (f a p1) → Q a H1) : Post c σ F H rBool (fun v H' => ∀ b, v = .bl b → Q b H') (m p) :=
  h.seqE g fun a p1 v F1 H1 g1 _ r1 _ h1 b eb => by
    have : a = b := by rw [show v = .bl a from r1] at eb; injection eb
    subst this
    exact k a p1 F1 H1 g1 h1
theorem PostF.seqE {X : Type} {S : Hp × Hp} {σ : St} {F H : Hp} {p : Pool} {D : Ends} {Γ' : β → List Sl} {r : Rg X α} {m : PM α} {f : α → PM (Fl β ρ)} {Q : X → Hp → Prop} (g : Good S c.q c.s Γ σ F H p) (h : PostF c S rr Γ' D ((m >>= f) p))
    (k : ∀ a p1 v F1 H1, Good S c.q c.s Γ σ F1 H1 p1 → Same F F1 → r.rel F1 v a → PostF c S rr Γ' D (f a p1) → Q v H1) : Post c σ F H r Q (m p) := by
  rw [run_bind] at h
  cases e : m p with
  | mk x p1 =>
    rw [e] at h
    cases x with
    | error er =>
      cases er with
      | stuck => exact h
      | exc ex => exact fun cls d F' H' e' pl k => h cls d σ F' H' (g.ent.tr e' g.pl) pl (g.gx.mono e'.sub) k
    | ok a => exact fun v F1 H1 e1 pl1 r1 => k a p1 v F1 H1 (g.ext e1 pl1) e1.sub r1 h
theorem PostF.seqT {S : Hp × Hp} {σ : St} {F H : Hp} {p : Pool} {D : Ends} {Γ' : β → List Sl} {m : PM Bool} {f : Bool → PM (Fl β ρ)} {Q : Bool → Hp → Prop} (g : Good S c.q c.s Γ σ F H p) (h : PostF c S rr Γ' D ((m >>= f) p))
    (k : ∀ a p1 F1 H1, Good S c.q c.s Γ σ F1 H1 p1 → PostF c S rr Γ' D (f a p1) → Q a H1) : Post c σ F H rBool (fun v H' => ∀ b, v = .bl b → Q b H') (m p) :=
  h.seqE g fun a p1 v F1 H1 g1 _ r1 h1 b eb => by
    have : a = b := by rw [show v = .bl a from r1] at eb; injection eb
    subst this
    exact k a p1 F1 H1 g1 h1
theorem PostL.seqE {X : Type} {S : Hp × Hp} {σ : St} {F H : Hp} {p : Pool} {D : Ends} {r : Rg X α} {m : PM α} {f : α → PM ρ} {Q : X → Hp → Prop} (g : Good S c.q c.s Γ σ F H p) (h : PostL c S rr D ((m >>= f) p))
    (k : ∀ a p1 v F1 H1, Good S c.q c.s Γ σ F1 H1 p1 → Same F F1 → r.rel F1 v a → PostL c S rr D (f a p1) → Q v H1) : Post c σ F H r Q (m p) := by
  rw [run_bind] at h
  cases e : m p with
  | mk x p1 =>
    rw [e] at h
    cases x with
    | error er =>
      cases er with
      | stuck => exact h
      | exc ex => exact fun cls d F' H' e' pl k => h cls d σ F' H' (g.ent.tr e' g.pl) pl (g.gx.mono e'.sub) k
    | ok a => exact fun v F1 H1 e1 pl1 r1 => k a p1 v F1 H1 (g.ext e1 pl1) e1.sub r1 h
theorem PostL.seqT {S : Hp × Hp} {σ : St} {F H : Hp} {p : Pool} {D : Ends} {m : PM Bool} {f : Bool → PM ρ} {Q : Bool → Hp → Prop} (g : Good S c.q c.s Γ σ F H p) (h : PostL c S rr D ((m >>= f) p))
    (k : ∀ a p1 F1 H1, Good S c.q c.s Γ σ F1 H1 p1 → PostL c S rr D (f a p1) → Q a H1) : Post c σ F H rBool (fun v H' => ∀ b, v = .bl b → Q b H') (m p) :=
  h.seqE g fun a p1 v F1 H1 g1 _ r1 h1 b eb => by
    have : a = b := by rw [show v = .bl a from r1] at eb; injection eb
    subst this
    exact k a p1 F1 H1 g1 h1
/-- behind a statement -/
theorem PostS.seqS {S : Hp × Hp} {p : Pool} {D : Ends} {Γ1 : α → List Sl} {Γ' : β → List Sl} {m : PM α} {f : α → PM β} {u : TS} (h : PostS c S Γ' D ((m >>= f) p))
    (k : ∀ a p1 σ1 F1 H1, Good S c.q c.s (Γ1 a) σ1 F1 H1 p1 → PostS c S Γ' D (f a p1) → u D σ1 H1) : PostS c S Γ1 { D with nx := u D } (m p) := by
  rw [run_bind] at h
  cases e : m p with
  | mk x p1 =>
    rw [e] at h
    cases x with
    | error er => cases er <;> exact h
    | ok a => exact fun σ1 F1 H1 g1 => k a p1 σ1 F1 H1 g1 h
theorem PostF.seqS {S : Hp × Hp} {p : Pool} {D : Ends} {Γ1 : α → List Sl} {Γ' : β → List Sl} {m : PM α} {f : α → PM (Fl β ρ)} {u : TS} (h : PostF c S rr Γ' D ((m >>= f) p))
    (k : ∀ a p1 σ1 F1 H1, Good S c.q c.s (Γ1 a) σ1 F1 H1 p1 → PostF c S rr Γ' D (f a p1) → u D σ1 H1) : PostS c S Γ1 { D with nx := u D } (m p) := by
  rw [run_bind] at h
  cases e : m p with
  | mk x p1 =>
    rw [e] at h
    cases x with
    | error er => cases er <;> exact h
    | ok a => exact fun σ1 F1 H1 g1 => k a p1 σ1 F1 H1 g1 h
theorem PostL.seqS {S : Hp × Hp} {p : Pool} {D : Ends} {Γ1 : α → List Sl} {m : PM α} {f : α → PM ρ} {u : TS} (h : PostL c S rr D ((m >>= f) p))
    (k : ∀ a p1 σ1 F1 H1, Good S c.q c.s (Γ1 a) σ1 F1 H1 p1 → PostL c S rr D (f a p1) → u D σ1 H1) : PostS c S Γ1 { D with nx := u D } (m p) := by
  rw [run_bind] at h
  cases e : m p with
  | mk x p1 =>
    rw [e] at h
    cases x with
    | error er => cases er <;> exact h
    | ok a => exact fun σ1 F1 H1 g1 => k a p1 σ1 F1 H1 g1 h
/-! ### statements -/
theorem es_pass : Es c Γ tNext (pure ()) fun _ => Γ := fun S σ F H p D g q => q σ F H g
theorem es_expr {r : Rl α} {m : PM α} (h : Ev c Γ ta m r) : Es c Γ (tDrop ta) (m >>= fun _ => pure ()) fun _ => Γ := fun S σ F H p D g q =>
  h S σ F H p _ g (q.seqE g fun a p1 v F1 H1 g1 _ r1 _ h1 => h1 σ F1 H1 g1)
theorem es_asg {r : Rl α} {m : PM α} {g : TG} {Γ' : α → List Sl} {ws : List Nat} (h : Ev c Γ ta m r) (hg : Eg c Γ g r Γ' ws) : Es c Γ (tAsg ta g) m Γ' := fun S σ F H p D gd q =>
  h S σ F H p _ gd (by
    have q' : PostS c S Γ' D ((m >>= fun a => pure a) p) := by rw [bind_pure]; exact q
    exact q'.seqE gd fun a p1 v F1 H1 g1 _ r1 _ h1 => hg a v S σ F1 H1 p1 _ g1 r1 fun σ' g' _ => h1 σ' F1 H1 g')
theorem es_set (i : Nat) {r : Rl α} {m : PM α} (h : Ev c Γ ta m r) (hG : fre c.s.G i = true := by rfl) : Es c Γ (tAsg ta (gName i)) m fun a => put Γ i (.val r a) := es_asg h (eg_name i hG)
/-- a new object of the def's own -/
theorem es_new (i : Nat) {r : Ro α} {m : PM α} (h : En c Γ ta m r) (hG : fre c.s.G i = true := by rfl) : Es c Γ (tAsg ta (gName i)) m fun a => put Γ i (.own r a) := fun S σ F H p D g q =>
  h S σ F H p _ g (by
    rcases e : m p with ⟨_ | a, p1⟩
    · rw [e] at q
      rename_i er
      cases er with
      | stuck => exact q
      | exc ex => exact fun cls d F' H' e' pl k => q cls d σ F' H' (g.ent.tr e' g.pl) pl (g.gx.mono e'.sub) k
    · rw [e] at q
      intro x ho F1 H1 e1 pl1 hn hf hh hq rr
      have nS : S.2 x = none := by
        cases z : S.2 x with
        | none => rfl
        | some o => rw [g.ent.keep x o z (fun y => hq y)] at hn; cases hn
      have no : x ∉ ownA Γ σ := fun hm => by
        obtain ⟨o, ho⟩ := g.sl.ownAt x hm
        rw [hn] at ho; cases ho
      exact q _ F1 H1 ((g.ext e1 pl1).seto i hG hh hf nS hq no rr))
/-- x += e, whole numbers -/
theorem es_aug (i : Nat) {f : Int → Int → Int} {x : Int} {m : PM Int} (hx : nth Γ i = .val rInt x) (h : Ev c Γ ta m rInt) (hG : fre c.s.G i = true := by rfl) : Es c Γ (tAug i ta (ipI f)) (m >>= fun y => pure (f x y)) fun z => put Γ i (.val rInt z) := fun S σ F H p D g q => by
  obtain ⟨v, h1, h2⟩ := g.sl.val hx
  refine ⟨v, h1, h S σ F H p _ g (q.seqE g fun a p1 w F1 H1 g1 _ r1 _ h3 => ⟨x, a, h2, r1, ?_⟩)⟩
  exact h3 _ F1 H1 (g1.setv i hG rfl)
def appM (l : List α) (a : α) : PM (List α) := guardM (l.length < sizeLine) (l ++ [a])
theorem es_app (i : Nat) {r : Rl α} {l : List α} {m : PM α} (hx : nth Γ i = .own (oList r) l) (h : Ev c Γ ta m r) :
    Es c Γ (tDrop (tBM c.K "list" rAppend (tVar i) (tCons ta tNil))) (m >>= fun a => appM l a) fun l' => put Γ i (.own (oList r) l') := fun S σ F H p D g q => by
  obtain ⟨x, ho, h1, h2, ⟨vs, rfl, k2, k3⟩, hm⟩ := g.sl.own hx
  refine ⟨_, h1, .inl ⟨rfl, _, SqL.of h2⟩, h S σ F H p _ g (q.seqE g fun a p1 w F1 H1 g1 s1 r1 _ h3 => ?_)⟩
  obtain ⟨x', ho', h1', h2', ⟨vs', rfl, k2', k3'⟩, hm'⟩ := g1.sl.own hx
  have ex : x' = x := by rw [h1] at h1'; injection h1' with z; injection z with z; injection z with z; exact z.symm
  subst ex
  unfold appM guardM at h3
  by_cases hl : l.length < sizeLine
  · rw [if_pos hl] at h3
    have hl' : vs'.length < sizeLine := by rw [k3'.length]; exact hl
    refine ⟨x', vs', w, rfl, rfl, h2', hl', ?_⟩
    exact h3 σ F1 _ (g1.updo hx h1' ⟨_, rfl, by rw [List.length_append]; exact hl', k3'.append (.cons r1 .nil)⟩)
  · rw [if_neg hl] at h3
    exact h3.elim
theorem es_seq {t u : TS} {m : PM α} {Γ1 : α → List Sl} {k : α → PM β} {Γ' : β → List Sl} (h1 : Es c Γ t m Γ1) (h2 : ∀ a, Es c (Γ1 a) u (k a) Γ') : Es c Γ (tSeq t u) (m >>= k) Γ' := fun S σ F H p D g q =>
  h1 S σ F H p _ g (q.seqS fun a p1 σ1 F1 H1 g1 q1 => h2 a S σ1 F1 H1 p1 D g1 q1)
theorem es_if {tt : TT} {t u : TS} {mt : PM Bool} {m1 m2 : PM β} {Γ' : β → List Sl} (ht : Et c Γ tt mt) (h1 : Es c Γ t m1 Γ') (h2 : Es c Γ u m2 Γ') : Es c Γ (tIfS tt t u) (mt >>= fun b => if b = true then m1 else m2) Γ' := fun S σ F H p D g q =>
  ht S σ F H p _ g (q.seqT g fun a p1 F1 H1 g1 q1 => by
    by_cases hg : a = true
    · rw [if_pos hg] at q1 ⊢; exact h1 S σ F1 H1 p1 D g1 q1
    · rw [if_neg hg] at q1 ⊢; exact h2 S σ F1 H1 p1 D g1 q1)
/-- the state behind it said otherwise -/
theorem es_weak {t : TS} {m : PM α} {Γ1 : α → List Sl} {Γ' : β → List Sl} (f : α → β) (h : Es c Γ t m Γ1) (w : ∀ a, Wk (Γ1 a) (Γ' (f a))) : Es c Γ t (m >>= fun a => pure (f a)) Γ' := fun S σ F H p D g q =>
  h S σ F H p D g (by
    rw [run_bind] at q
    rcases e : m p with ⟨_ | a, p1⟩
    · rw [e] at q; rename_i er; cases er <;> exact q
    · rw [e] at q; exact fun σ1 F1 H1 g1 => q σ1 F1 H1 ((w a).good g1))
/-- an own object stands still from here on -/
theorem es_fz (i : Nat) {r : Ro α} {a : α} {t : TS} {m : PM β} {Γ' : β → List Sl} (e : nth Γ i = .own r a) (h : Es c (put Γ i (.val (fz r) a)) t m Γ') : Es c Γ t m Γ' := fun S σ F H p D g q => by
  obtain ⟨F', _, g'⟩ := g.fz e
  exact h S σ F' H p D g' q
theorem ef_fz (i : Nat) {r : Ro α} {a : α} {t : TS} {m : PM (Fl β ρ)} {Γ' : β → List Sl} (e : nth Γ i = .own r a) (h : Ef c rr (put Γ i (.val (fz r) a)) t m Γ') : Ef c rr Γ t m Γ' := fun S σ F H p D g q => by
  obtain ⟨F', _, g'⟩ := g.fz e
  exact h S σ F' H p D g' q
theorem el_fz (i : Nat) {r : Ro α} {a : α} {t : TS} {m : PM ρ} {fall : Prop} (e : nth Γ i = .own r a) (h : El c rr fall (put Γ i (.val (fz r) a)) t m) : El c rr fall Γ t m := fun S σ F H p D g hf q => by
  obtain ⟨F', _, g'⟩ := g.fz e
  exact h S σ F' H p D g' hf q
/-! ### that may leave -/
theorem ef_of {t : TS} {m : PM β} {Γ' : β → List Sl} (h : Es c Γ t m Γ') : Ef c rr Γ t (m >>= fun b => pure (.nx b)) Γ' := fun S σ F H p D g q =>
  h S σ F H p D g (by
    rw [run_bind] at q
    rcases e : m p with ⟨_ | a, p1⟩
    · rw [e] at q; rename_i er; cases er <;> exact q
    · rw [e] at q; exact q)
theorem ef_ol {t : TS} {m : PM ρ} {Γ' : β → List Sl} (h : El c rr False Γ t m) : Ef c rr Γ t (m >>= fun a => pure (.rt a)) Γ' := fun S σ F H p D g q =>
  h S σ F H p D g (fun z => z.elim) (by
    rw [run_bind] at q
    rcases e : m p with ⟨_ | a, p1⟩
    · rw [e] at q; rename_i er; cases er <;> exact q
    · rw [e] at q; exact q)
theorem ef_seq {t u : TS} {m : PM α} {Γ1 : α → List Sl} {k : α → PM (Fl β ρ)} {Γ' : β → List Sl} (h1 : Es c Γ t m Γ1) (h2 : ∀ a, Ef c rr (Γ1 a) u (k a) Γ') : Ef c rr Γ (tSeq t u) (m >>= k) Γ' := fun S σ F H p D g q =>
  h1 S σ F H p _ g (q.seqS fun a p1 σ1 F1 H1 g1 q1 => h2 a S σ1 F1 H1 p1 D g1 q1)
def andThen {α β ρ : Type} (k : α → PM (Fl β ρ)) : Fl α ρ → PM (Fl β ρ)
  | .nx b => k b
  | .rt a => pure (.rt a)
def orElse {α ρ : Type} (k : α → PM ρ) : Fl α ρ → PM ρ
  | .nx b => k b
  | .rt a => pure a
@[simp] theorem andThen_nx {α β ρ : Type} (k : α → PM (Fl β ρ)) (b : α) : andThen k (.nx b) = k b := rfl
@[simp] theorem andThen_rt {α β ρ : Type} (k : α → PM (Fl β ρ)) (a : ρ) : andThen k (.rt a) = pure (.rt a) := rfl
@[simp] theorem orElse_nx {α ρ : Type} (k : α → PM ρ) (b : α) : orElse k (.nx b) = k b := rfl
@[simp] theorem orElse_rt {α ρ : Type} (k : α → PM ρ) (a : ρ) : orElse k (.rt a) = pure a := rfl
theorem ef_seqF {t u : TS} {m : PM (Fl α ρ)} {Γ1 : α → List Sl} {k : α → PM (Fl β ρ)} {Γ' : β → List Sl} (h1 : Ef c rr Γ t m Γ1) (h2 : ∀ a, Ef c rr (Γ1 a) u (k a) Γ') : Ef c rr Γ (tSeq t u) (m >>= andThen k) Γ' := fun S σ F H p D g q =>
  h1 S σ F H p _ g (by
    rw [run_bind] at q
    rcases e : m p with ⟨_ | a, p1⟩
    · rw [e] at q; rename_i er; cases er <;> exact q
    · rw [e] at q
      cases a with
      | nx b => exact fun σ1 F1 H1 g1 => h2 b S σ1 F1 H1 p1 D g1 q
      | rt a => exact q)
theorem ef_if {tt : TT} {t u : TS} {mt : PM Bool} {m1 m2 : PM (Fl β ρ)} {Γ' : β → List Sl} (ht : Et c Γ tt mt) (h1 : Ef c rr Γ t m1 Γ') (h2 : Ef c rr Γ u m2 Γ') : Ef c rr Γ (tIfS tt t u) (mt >>= fun b => if b = true then m1 else m2) Γ' := fun S σ F H p D g q =>
  ht S σ F H p _ g (q.seqT g fun a p1 F1 H1 g1 q1 => by
    by_cases hg : a = true
    · rw [if_pos hg] at q1 ⊢; exact h1 S σ F1 H1 p1 D g1 q1
    · rw [if_neg hg] at q1 ⊢; exact h2 S σ F1 H1 p1 D g1 q1)
theorem ef_weak {t : TS} {m : PM (Fl α ρ)} {Γ1 : α → List Sl} {Γ' : β → List Sl} (f : α → β) (h : Ef c rr Γ t m Γ1) (w : ∀ a, Wk (Γ1 a) (Γ' (f a))) : Ef c rr Γ t (m >>= andThen fun a => pure (.nx (f a))) Γ' := fun S σ F H p D g q =>
  h S σ F H p D g (by
    rw [run_bind] at q
    rcases e : m p with ⟨_ | a, p1⟩
    · rw [e] at q; rename_i er; cases er <;> exact q
    · rw [e] at q
      cases a with
      | nx b => exact fun σ1 F1 H1 g1 => q σ1 F1 H1 ((w b).good g1)
      | rt a => exact q)
/-! ### that leaves -/
theorem el_ret {r : Rl ρ} {m : PM ρ} {fall : Prop} (h : Ev c Γ ta m r) : El c r fall Γ (tRet ta) m := fun S σ F H p D g _ q =>
  h S σ F H p _ g (by
    have q' : PostL c S r D ((m >>= fun a => pure a) p) := by rw [bind_pure]; exact q
    exact q'.seqE g fun a p1 v F1 H1 g1 _ r1 h1 => h1 v F1 H1 g1.ent g1.pl r1)
theorem none_back {q : Option Addr} {F H F1 H1 : Hp} {x : Addr} (e : Ext q F H F1 H1) (hn : H1 x = none) (hq : q ≠ some x) : H x = none := by
  cases z : H x with
  | none => rfl
  | some o => rw [e.keep x o z hq] at hn; cases hn
theorem el_new {r : Ro ρ} {m : PM ρ} {fall : Prop} (h : En c Γ ta m r) : El c (Rr.new r) fall Γ (tRet ta) m := fun S σ F H p D g _ q =>
  h S σ F H p _ g (by
    rcases e : m p with ⟨er | a, p1⟩
    · rw [e] at q
      cases er with
      | stuck => exact q
      | exc ex => exact fun cls d F' H' e' pl k => q cls d σ F' H' (g.ent.tr e' g.pl) pl (g.gx.mono e'.sub) k
    · rw [e] at q
      exact fun x ho F1 H1 e1 pl1 hn hf hh hq r1 => q (.ref x) F1 H1 (g.ent.tr e1 g.pl) pl1 ⟨x, ho, rfl, none_back g.ent hn hq, hf, hh, hq, r1⟩)
theorem el_retO (i : Nat) {r : Ro ρ} {a : ρ} {fall : Prop} (e : nth Γ i = .own r a) : El c (Rr.new r) fall Γ (tRet (tVar i)) (pure a) := fun S σ F H p D g _ q => by
  obtain ⟨x, ho, e2, h1, h2, hm⟩ := g.sl.own e
  exact ⟨.ref x, e2, q (.ref x) F H g.ent g.pl ⟨x, ho, rfl, g.os x hm, g.of x hm, h1, g.oq x hm, h2⟩⟩
theorem el_retN {fall : Prop} : El c rNone fall Γ tRetN (pure ()) := fun S σ F H p D g _ q => q .non F H g.ent g.pl rfl
theorem el_nil {fall : Prop} (hf : fall) : El c rNone fall Γ tNext (pure ()) := fun S σ F H p D g k q => k hf σ H (q .non F H g.ent g.pl rfl)
theorem el_seq {t u : TS} {m : PM α} {Γ1 : α → List Sl} {k : α → PM ρ} {fall : Prop} (h1 : Es c Γ t m Γ1) (h2 : ∀ a, El c rr fall (Γ1 a) u (k a)) : El c rr fall Γ (tSeq t u) (m >>= k) := fun S σ F H p D g hf q =>
  h1 S σ F H p _ g (q.seqS fun a p1 σ1 F1 H1 g1 q1 => h2 a S σ1 F1 H1 p1 D g1 hf q1)
theorem el_seqF {t u : TS} {m : PM (Fl α ρ)} {Γ1 : α → List Sl} {k : α → PM ρ} {fall : Prop} (h1 : Ef c rr Γ t m Γ1) (h2 : ∀ a, El c rr fall (Γ1 a) u (k a)) : El c rr fall Γ (tSeq t u) (m >>= orElse k) := fun S σ F H p D g hf q =>
  h1 S σ F H p _ g (by
    rw [run_bind] at q
    rcases e : m p with ⟨_ | a, p1⟩
    · rw [e] at q; rename_i er; cases er <;> exact q
    · rw [e] at q
      cases a with
      | nx b => exact fun σ1 F1 H1 g1 => h2 b S σ1 F1 H1 p1 D g1 hf q
      | rt a => exact q)
theorem el_if {tt : TT} {t u : TS} {mt : PM Bool} {m1 m2 : PM ρ} {fall : Prop} (ht : Et c Γ tt mt) (h1 : El c rr fall Γ t m1) (h2 : El c rr fall Γ u m2) : El c rr fall Γ (tIfS tt t u) (mt >>= fun b => if b = true then m1 else m2) := fun S σ F H p D g hf q =>
  ht S σ F H p _ g (q.seqT g fun a p1 F1 H1 g1 q1 => by
    by_cases hg : a = true
    · rw [if_pos hg] at q1 ⊢; exact h1 S σ F1 H1 p1 D g1 hf q1
    · rw [if_neg hg] at q1 ⊢; exact h2 S σ F1 H1 p1 D g1 hf q1)
/-- if t: (leaves); what follows -/
theorem el_guard {tt : TT} {t u : TS} {mt : PM Bool} {m1 m2 : PM ρ} {fall : Prop} (ht : Et c Γ tt mt) (h1 : El c rr False Γ t m1) (h2 : El c rr fall Γ u m2) : El c rr fall Γ (tSeq (tIfS tt t tNext) u) (mt >>= fun b => if b = true then m1 else m2) := fun S σ F H p D g hf q =>
  ht S σ F H p _ g (q.seqT g fun a p1 F1 H1 g1 q1 => by
    by_cases hg : a = true
    · rw [if_pos hg] at q1 ⊢; exact h1 S σ F1 H1 p1 _ g1 (fun z => z.elim) q1
    · rw [if_neg hg] at q1 ⊢; exact h2 S σ F1 H1 p1 D g1 hf q1)
/-- .. that is all -/
theorem el_one {t : TS} {m : PM α} {Γ1 : α → List Sl} {fall : Prop} (hf : fall) (h : Es c Γ t m Γ1) : El c rNone fall Γ t (m >>= fun _ => pure ()) := fun S σ F H p D g k q =>
  h S σ F H p D g (by
    rw [run_bind] at q
    rcases e : m p with ⟨_ | a, p1⟩
    · rw [e] at q; rename_i er; cases er <;> exact q
    · rw [e] at q
      exact fun σ1 F1 H1 g1 => k hf σ1 H1 (q .non F1 H1 g1.ent g1.pl rfl))
theorem el_oneF {t : TS} {m : PM (Fl α Unit)} {Γ1 : α → List Sl} {fall : Prop} (hf : fall) (h : Ef c rNone Γ t m Γ1) : El c rNone fall Γ t (m >>= orElse fun _ => pure ()) := fun S σ F H p D g k q =>
  h S σ F H p D g (by
    rw [run_bind] at q
    rcases e : m p with ⟨_ | a, p1⟩
    · rw [e] at q; rename_i er; cases er <;> exact q
    · rw [e] at q
      cases a with
      | nx b => exact fun σ1 F1 H1 g1 => k hf σ1 H1 (q .non F1 H1 g1.ent g1.pl rfl)
      | rt a => exact q)
/-! ### what is walked -/
def PostI {α : Type} (c : Cf) (σ : St) (F H : Hp) (r : Rl α) (R : It → Hp → Prop) : Except Er (List α) × Pool → Prop
  | (.ok l, p') => ∀ J F' H' G Y, Ext c.q F H F' H' → PoolOk c.q c.s F' H' p' → Walk J l.length G Y → (∀ H2, Same F' H2 → Same c.s.L H2 → G H2) →
      (∀ i x F2 H2 H3, i < l.length → Same F' F2 → Same F2 H2 → Y i H2 x H3 → ∃ F3, Ext none F2 H2 F3 H3 ∧ ∀ a, l[i]? = some a → r.rel F3 x a) → R J H'
  | (.error (.exc e), p') => ∀ cls d F' H', Ext c.q F H F' H' → PoolOk c.q c.s F' H' p' → ExR c.K F' e cls d → c.W cls d σ H'
  | (.error .stuck, _) => False
def Ei (c : Cf) (Γ : List Sl) (w : TI) (m : PM (List α)) (r : Rl α) : Prop :=
  ∀ (S : Hp × Hp) (σ : St) (F H : Hp) (p : Pool) (R : It → Hp → Prop), Good S c.q c.s Γ σ F H p → PostI c σ F H r R (m p) → w σ H R
theorem PostI.seq {X : Type} {σ : St} {F H : Hp} {p : Pool} {r : Rg X β} {r' : Rl α} {m : PM β} {f : β → PM (List α)} {R : It → Hp → Prop} {Q : X → Hp → Prop} (h : PostI c σ F H r' R ((m >>= f) p))
    (k : ∀ a p1 v F1 H1, Ext c.q F H F1 H1 → PoolOk c.q c.s F1 H1 p1 → r.rel F1 v a → PostI c σ F H r' R (f a p1) → Q v H1) : Post c σ F H r Q (m p) := by
  rw [run_bind] at h
  cases e : m p with
  | mk x p1 =>
    rw [e] at h
    cases x with
    | error er => cases er <;> exact h
    | ok a => exact fun v F1 H1 e1 pl1 r1 => k a p1 v F1 H1 e1 pl1 r1 h
theorem ei_list {r : Rl α} {m : PM (List α)} (h : Ev c Γ ta m (rList r)) : Ei c Γ (iList c.K ta) m r := fun S σ F H p R g q =>
  h S σ F H p _ g (by
    have q' : PostI c σ F H r R ((m >>= fun l => pure l) p) := by rw [bind_pure]; exact q
    exact q'.seq fun l p1 v F1 H1 e1 pl1 r1 h1 => by
      obtain ⟨x, vs, rfl, k1, k2, k3⟩ := rList.of r1
      have hs := e1.sub' _ _ k1
      refine ⟨x, rfl, ⟨vs, SqL.of hs⟩, h1 (Itl c.K x) F1 H1 (fun H => SqL c.K H x vs) (YAt vs) e1 pl1 (by rw [← k3.length]; exact walk_list) (fun H2 s _ => SqL.of (s _ _ k1)) fun i y F2 H2 H3 hi s2 s3 hy => ?_⟩
      obtain ⟨rfl, hy⟩ := hy
      refine ⟨F2, Ext.refl s3, fun a ha => ?_⟩
      obtain ⟨w, hw, rw_⟩ := k3.get ha
      rw [hy] at hw
      obtain rfl := Option.some.inj hw
      exact r.mono s2 rw_)
theorem ei_tup {r : Rl α} {m : PM (List α)} (h : Ev c Γ ta m (rTup c.K r)) : Ei c Γ (iTup c.K ta) m r := fun S σ F H p R g q =>
  h S σ F H p _ g (by
    have q' : PostI c σ F H r R ((m >>= fun l => pure l) p) := by rw [bind_pure]; exact q
    exact q'.seq fun l p1 v F1 H1 e1 pl1 r1 h1 => by
      obtain ⟨x, vs, rfl, k1, k2, k3⟩ := r1
      refine ⟨x, rfl, ⟨vs, SqT.same e1.sub' k1⟩, h1 (Itt c.K x) F1 H1 (fun H => SqT c.K H x vs) (YAt vs) e1 pl1 (by rw [← k3.length]; exact walk_tup) (fun H2 s _ => SqT.same s k1) fun i y F2 H2 H3 hi s2 s3 hy => ?_⟩
      obtain ⟨rfl, hy⟩ := hy
      refine ⟨F2, Ext.refl s3, fun a ha => ?_⟩
      obtain ⟨w, hw, rw_⟩ := k3.get ha
      rw [hy] at hw
      obtain rfl := Option.some.inj hw
      exact r.mono s2 rw_)
/-- lo, lo + 1, .. below hi -/
def irange (lo hi : Int) : List Int := (List.range (hi - lo).toNat).map fun (i : Nat) => lo + (i : Int)
theorem irange_len (lo hi : Int) : (irange lo hi).length = (hi - lo).toNat := by simp [irange]
theorem irange_get {lo hi : Int} {i : Nat} {a : Int} (h : (irange lo hi)[i]? = some a) : a = lo + i := by
  unfold irange at h
  rw [List.getElem?_map, Option.map_eq_some_iff] at h
  obtain ⟨j, h1, h2⟩ := h
  have : j = i := by
    obtain ⟨hlt, h3⟩ := List.getElem?_eq_some_iff.mp h1
    rw [List.getElem_range] at h3
    exact h3.symm
  subst this
  exact h2.symm
def RngOk (i j : Int) : Prop := -(2 ^ 62) ≤ i ∧ i < 2 ^ 62 ∧ -(2 ^ 62) ≤ j ∧ j < 2 ^ 62
instance (i j : Int) : Decidable (RngOk i j) := inferInstanceAs (Decidable (_ ∧ _))
def rangeM (lo hi : Int) : PM (List Int) := guardM (RngOk lo hi) (irange lo hi)
theorem PostI.range {σ : St} {F H : Hp} {p : Pool} {R : It → Hp → Prop} {lo hi : Int} (h : PostI c σ F H rInt R ((pure (irange lo hi) : PM (List Int)) p)) {F1 H1 : Hp} (e1 : Ext c.q F H F1 H1) (pl1 : PoolOk c.q c.s F1 H1 p) {n : Nat} (hn : n = (hi - lo).toNat) : R (Itr lo n) H1 := by
  subst hn
  refine h (Itr lo (hi - lo).toNat) F1 H1 (fun _ => True) (YFn fun i => .int (lo + i)) e1 pl1 (by rw [irange_len]; exact walk_range) (fun _ _ _ => trivial) fun i y F2 H2 H3 _ s2 s3 hy => ?_
  obtain ⟨rfl, rfl⟩ := hy
  exact ⟨F2, Ext.refl s3, fun a ha => by rw [irange_get ha]; rfl⟩
theorem ei_r1 {m : PM Int} (h : Ev c Γ ta m rInt) : Ei c Γ (iRng1 (tCons ta tNil)) (m >>= fun n => rangeM 0 n) rInt := fun S σ F H p R g q =>
  h S σ F H p _ g (q.seq fun n p1 v F1 H1 e1 pl1 r1 h1 => by
    unfold rangeM guardM at h1
    by_cases hb : RngOk 0 n
    · rw [if_pos hb] at h1
      exact ⟨n, by rw [show v = .int n from r1], hb.2.2.1, hb.2.2.2, h1.range e1 pl1 (by omega)⟩
    · rw [if_neg hb] at h1; exact h1.elim)
theorem ei_r2 {m m2 : PM Int} (h : Ev c Γ ta m rInt) (h2 : Ev c Γ tb m2 rInt) : Ei c Γ (iRng2 (tCons ta (tCons tb tNil))) (m >>= fun i => m2 >>= fun n => rangeM i n) rInt := fun S σ F H p R g q =>
  h S σ F H p _ g (q.seq fun i p1 v F1 H1 e1 pl1 r1 h1 => h2 S σ F1 H1 p1 _ (g.ext e1 pl1) (by
    rw [run_bind] at h1
    rcases e : m2 p1 with ⟨er | n, p2⟩
    · rw [e] at h1
      cases er with
      | stuck => exact h1
      | exc ex => exact fun cls d F' H' e' pl k => h1 cls d F' H' (e1.tr e' pl1) pl k
    · rw [e] at h1
      intro w F2 H2 e2 pl2 r2
      have h1' : PostI c σ F H rInt R (rangeM i n p2) := h1
      unfold rangeM guardM at h1'
      by_cases hb : RngOk i n
      · rw [if_pos hb] at h1'
        exact ⟨i, n, by rw [show v = .int i from r1, show w = .int n from r2], ⟨hb.1, hb.2.1, hb.2.2.1, hb.2.2.2⟩, h1'.range (e1.tr e2 pl1) pl2 rfl⟩
      · rw [if_neg hb] at h1'; exact h1'.elim))
/-- the signs of a text -/
def signsL (x : Str) : List Str := x.cps.toList.map fun ch => ⟨#[ch]⟩
theorem ei_str {m : PM Str} (h : Ev c Γ ta m rStr) : Ei c Γ (iStr ta) (m >>= fun x => pure (signsL x)) rStr := fun S σ F H p R g q =>
  h S σ F H p _ g (q.seq fun x p1 v F1 H1 e1 pl1 r1 h1 => by
    refine ⟨x, r1.1, h1 (Its x) F1 H1 (fun _ => True) _ e1 pl1 (by rw [show (signsL x).length = x.cps.size by simp [signsL]]; exact walk_str) (fun _ _ _ => trivial) fun i y F2 H2 H3 hi s2 s3 hy => ?_⟩
    obtain ⟨rfl, ch, hc, rfl⟩ := hy
    refine ⟨F2, Ext.refl s3, fun a ha => ?_⟩
    unfold signsL at ha
    rw [List.getElem?_map, Array.getElem?_toList, hc] at ha
    obtain rfl := Option.some.inj ha
    exact ⟨rfl, one_le⟩)
/-! ### loops -/
def forA (f : α → β → PM β) : List α → β → PM β
  | [], b => pure b
  | x :: l, b => f x b >>= fun b' => forA f l b'
def forF (f : α → β → PM (Fl β ρ)) : List α → β → PM (Fl β ρ)
  | [], b => pure (.nx b)
  | x :: l, b => f x b >>= andThen fun b' => forF f l b'
theorem drop_cons {l : List α} {i : Nat} {a : α} (h : l[i]? = some a) : l.drop i = a :: l.drop (i + 1) := by
  obtain ⟨hlt, h1⟩ := List.getElem?_eq_some_iff.mp h
  rw [List.drop_eq_getElem_cons hlt, h1]
theorem Ext.rebase {q : Option Addr} {S : Hp × Hp} {F1 H1 F' H' : Hp} (e : Ext q S.1 S.2 F1 H1) (e' : Ext q F1 S.2 F' H') : Ext q S.1 S.2 F' H' :=
  ⟨e.sub.trans e'.sub, e'.sub', e'.keep, fun b o h => (e'.new b o h).elim (e.new b o) .inr⟩
theorem Good.unbase {q : Option Addr} {sc : SG} {S : Hp × Hp} {Γ : List Sl} {σ : St} {F1 H1 F H : Hp} {p : Pool} (e : Ext q S.1 S.2 F1 H1) (g : Good (F1, S.2) q sc Γ σ F H p) : Good S q sc Γ σ F H p :=
  ⟨g.sub, g.sl, g.nd, g.of, g.oq, g.os, e.rebase g.ent, g.pl, g.gx, g.ln⟩
theorem Good.rebase {q : Option Addr} {sc : SG} {S : Hp × Hp} {Γ : List Sl} {σ : St} {F H : Hp} {p : Pool} (g : Good S q sc Γ σ F H p) : Good (F, S.2) q sc Γ σ F H p :=
  ⟨g.sub, g.sl, g.nd, g.of, g.oq, g.os, ⟨Same.refl _, g.sub, g.ent.keep, fun _ _ h => .inl h⟩, g.pl, g.gx, g.ln⟩
theorem PostS.rebase {S : Hp × Hp} {F1 H1 : Hp} {D : Ends} {Γ' : β → List Sl} {x : Except Er β × Pool} (e : Ext c.q S.1 S.2 F1 H1) (h : PostS c S Γ' D x) : PostS c (F1, S.2) Γ' D x := by
  rcases x with ⟨er | b, p⟩
  · cases er with
    | stuck => exact h
    | exc ex => exact fun cls d σ' F' H' e' => h cls d σ' F' H' (e.rebase e')
  · exact fun σ' F' H' g => h σ' F' H' (g.unbase e)
theorem PostF.rebase {S : Hp × Hp} {F1 H1 : Hp} {D : Ends} {Γ' : β → List Sl} {x : Except Er (Fl β ρ) × Pool} (e : Ext c.q S.1 S.2 F1 H1) (h : PostF c S rr Γ' D x) : PostF c (F1, S.2) rr Γ' D x := by
  rcases x with ⟨er | b, p⟩
  · cases er with
    | stuck => exact h
    | exc ex => exact fun cls d σ' F' H' e' => h cls d σ' F' H' (e.rebase e')
  · cases b with
    | nx b => exact fun σ' F' H' g => h σ' F' H' (g.unbase e)
    | rt a => exact fun v F' H' e' => h v F' H' (e.rebase e')
theorem es_for {w : TI} {g : TG} {tb : TS} {r : Rl α} {mi : PM (List α)} {f : α → β → PM β} {b0 : β} {Γ : β → List Sl} {Γt : β → α → List Sl} {ws : List Nat} (hi : Ei c (Γ b0) w mi r) (hg : ∀ b, Eg c (Γ b) g r (Γt b) ws) (hb : ∀ x b, Es c (Γt b x) tb (f x b) Γ) :
    Es c (Γ b0) (tFor w g tb) (mi >>= fun l => forA f l b0) Γ := fun S σ F H p D gd q =>
  hi S σ F H p _ gd (by
    rw [run_bind] at q
    rcases e : mi p with ⟨er | l, p1⟩
    · rw [e] at q
      cases er with
      | stuck => exact q
      | exc ex => exact fun cls d F' H' e' pl k => q cls d σ F' H' (gd.ent.tr e' gd.pl) pl (gd.gx.mono e'.sub) k
    · rw [e] at q
      intro J F1 H1 G Y e1 pl1 wk hG hY
      have g1 := gd.ext e1 pl1
      refine for_it wk (D := D) (fun i σ H => ∃ b F2 p2, Good (F1, S.2) c.q c.s (Γ b) σ F2 H p2 ∧ PostS c (F1, S.2) Γ D (forA f (l.drop i) b p2)) ⟨b0, F1, p1, g1.rebase, q.rebase g1.ent⟩ (fun i σ H _ ⟨b, F2, p2, g2, _⟩ => hG H (g2.ent.sub.trans g2.sub) g2.lh) ?_ ?_
      · rintro i x σ2 H2 H3 hlt ⟨b, F2, p2, g2, q2⟩ hy
        obtain ⟨F3, e3, hr⟩ := hY i x F2 H2 H3 hlt g2.ent.sub g2.sub hy
        have ha : l[i]? = some l[i] := List.getElem?_eq_getElem hlt
        have g3 := g2.ext e3.widen (g2.pl.up e3)
        refine hg b l[i] x _ σ2 F3 H3 p2 _ g3 (hr _ ha) fun σ4 g4 _ => hb _ b _ σ4 F3 H3 p2 _ g4 ?_
        rw [drop_cons ha] at q2
        have q3 : PostS c (F1, S.2) Γ D ((f l[i] b >>= fun b' => forA f (l.drop (i + 1)) b') p2) := q2
        rw [run_bind] at q3
        rcases e4 : f l[i] b p2 with ⟨er | b', p5⟩
        · rw [e4] at q3; cases er <;> exact q3
        · rw [e4] at q3
          exact fun σ5 F5 H5 g5 => ⟨b', F5, p5, g5, q3⟩
      · rintro σ2 H2 ⟨b, F2, p2, g2, q2⟩
        rw [List.drop_length] at q2
        exact q2 σ2 F2 H2 g2)
theorem ef_for {w : TI} {g : TG} {tb : TS} {r : Rl α} {mi : PM (List α)} {f : α → β → PM (Fl β ρ)} {b0 : β} {Γ : β → List Sl} {Γt : β → α → List Sl} {ws : List Nat} (hi : Ei c (Γ b0) w mi r) (hg : ∀ b, Eg c (Γ b) g r (Γt b) ws) (hb : ∀ x b, Ef c rr (Γt b x) tb (f x b) Γ) :
    Ef c rr (Γ b0) (tFor w g tb) (mi >>= fun l => forF f l b0) Γ := fun S σ F H p D gd q =>
  hi S σ F H p _ gd (by
    rw [run_bind] at q
    rcases e : mi p with ⟨er | l, p1⟩
    · rw [e] at q
      cases er with
      | stuck => exact q
      | exc ex => exact fun cls d F' H' e' pl k => q cls d σ F' H' (gd.ent.tr e' gd.pl) pl (gd.gx.mono e'.sub) k
    · rw [e] at q
      intro J F1 H1 G Y e1 pl1 wk hG hY
      have g1 := gd.ext e1 pl1
      refine for_it wk (D := D) (fun i σ H => ∃ b F2 p2, Good (F1, S.2) c.q c.s (Γ b) σ F2 H p2 ∧ PostF c (F1, S.2) rr Γ D (forF f (l.drop i) b p2)) ⟨b0, F1, p1, g1.rebase, q.rebase g1.ent⟩ (fun i σ H _ ⟨b, F2, p2, g2, _⟩ => hG H (g2.ent.sub.trans g2.sub) g2.lh) ?_ ?_
      · rintro i x σ2 H2 H3 hlt ⟨b, F2, p2, g2, q2⟩ hy
        obtain ⟨F3, e3, hr⟩ := hY i x F2 H2 H3 hlt g2.ent.sub g2.sub hy
        have ha : l[i]? = some l[i] := List.getElem?_eq_getElem hlt
        have g3 := g2.ext e3.widen (g2.pl.up e3)
        refine hg b l[i] x _ σ2 F3 H3 p2 _ g3 (hr _ ha) fun σ4 g4 _ => hb _ b _ σ4 F3 H3 p2 _ g4 ?_
        rw [drop_cons ha] at q2
        have q3 : PostF c (F1, S.2) rr Γ D ((f l[i] b >>= andThen fun b' => forF f (l.drop (i + 1)) b') p2) := q2
        rw [run_bind] at q3
        rcases e4 : f l[i] b p2 with ⟨er | b', p5⟩
        · rw [e4] at q3; cases er <;> exact q3
        · rw [e4] at q3
          cases b' with
          | nx b' => exact fun σ5 F5 H5 g5 => ⟨b', F5, p5, g5, q3⟩
          | rt a => exact q3
      · rintro σ2 H2 ⟨b, F2, p2, g2, q2⟩
        rw [List.drop_length] at q2
        exact q2 σ2 F2 H2 g2)
/-! ### while: so many turns at most -/
def whileA (test : β → PM Bool) (f : β → PM β) : Nat → β → PM β
  | 0, _ => stuck
  | n + 1, b => test b >>= fun k => if k = true then f b >>= fun b' => whileA test f n b' else pure b
theorem es_while {tt : TT} {tb : TS} {mt : β → PM Bool} {f : β → PM β} {b0 : β} {Γ : β → List Sl} (n : Nat) (ht : ∀ b, Et c (Γ b) tt (mt b)) (hb : ∀ b, Es c (Γ b) tb (f b) Γ) : Es c (Γ b0) (tWhile tt tb) (whileA mt f n b0) Γ := fun S σ F H p D g q => by
  refine ⟨fun m σ H => ∃ b F p, Good S c.q c.s (Γ b) σ F H p ∧ PostS c S Γ D (whileA mt f m b p), ⟨n, b0, F, p, g, q⟩, ?_⟩
  rintro m σ H ⟨b, F, p, g, q⟩
  cases m with
  | zero => exact q.elim
  | succ m =>
    refine ht b S σ F H p _ g ?_
    have q' : PostS c S Γ D ((mt b >>= fun k => if k = true then f b >>= fun b' => whileA mt f m b' else pure b) p) := q
    refine q'.seqT g fun a p1 F1 H1 g1 q1 => ?_
    cases a with
    | false =>
      rw [if_neg Bool.false_ne_true] at q1
      exact q1 σ F1 H1 g1
    | true =>
      rw [if_pos rfl] at q1
      refine ⟨fun σ' H' => ∃ b F p, Good S c.q c.s (Γ b) σ' F H' p ∧ PostS c S Γ D (whileA mt f m b p), fun σ' H' h => ⟨m, Nat.lt_succ_self m, h⟩, hb b S σ F1 H1 p1 _ g1 ?_⟩
      rw [run_bind] at q1
      rcases e4 : f b p1 with ⟨er | b', p5⟩
      · rw [e4] at q1; cases er <;> exact q1
      · rw [e4] at q1
        exact fun σ5 F5 H5 g5 => ⟨b', F5, p5, g5, q1⟩
end
end Kf

set_option maxHeartbeats 4000000
namespace Kf
open PySem PySem.Spec L2
open PyProof.Rows hiding St
/-! ### comprehensions -/
/-- nothing may be raised -/
def noX {α : Type} (m : PM α) : PM α := fun p => match m p with
  | (.error (.exc _), p') => (.error .stuck, p')
  | x => x
@[simp] theorem noX_pure {α : Type} (a : α) : noX (pure a : PM α) = pure a := rfl
@[simp] theorem noX_stuck {α : Type} : noX (stuck : PM α) = stuck := rfl
@[simp] theorem noX_guard {α : Type} {C : Prop} [Decidable C] (a : α) : noX (guardM C a) = guardM C a := by
  unfold guardM; split <;> rfl
theorem noX_bind {α β : Type} (m : PM α) (f : α → PM β) : noX (m >>= f) = noX m >>= fun a => noX (f a) := by
  funext p
  simp only [noX, run_bind]
  rcases m p with ⟨er | a, p'⟩
  · cases er <;> rfl
  · rfl
/-- the same, nothing raised -/
def Cf.nox (c : Cf) : Cf := { c with W := fun _ _ _ _ => False, s := ⟨c.s.a, [], c.s.L⟩ }
theorem Good.nox {S : Hp × Hp} {q : Option Addr} {sc : SG} {Γ : List Sl} {σ : St} {F H : Hp} {p : Pool} (g : Good S q sc Γ σ F H p) : Good S q ⟨sc.a, [], sc.L⟩ Γ σ F H p := ⟨g.sub, g.sl, g.nd, g.of, g.oq, g.os, g.ent, g.pl, .nil, g.ln⟩
theorem Post.nox {X α : Type} {c : Cf} {σ σ' : St} {F H : Hp} {r : Rg X α} {Q : X → Hp → Prop} {m : PM α} {p : Pool} (h : Post c σ F H r Q (noX m p)) : Post c.nox σ' F H r Q (m p) := by
  unfold noX at h
  rcases e : m p with ⟨er | a, p'⟩
  · rw [e] at h
    cases er <;> exact h.elim
  · rw [e] at h
    exact h
/-- [e for x in l if t] -/
def compF {α β : Type} (t : α → PM Bool) (e : α → PM β) : List α → PM (List β)
  | [] => pure []
  | x :: l => noX (t x) >>= fun b => if b = true then noX (e x) >>= fun y => compF t e l >>= fun r => pure (y :: r) else compF t e l
def sized {α : Type} (m : PM (List α)) : PM (List α) := m >>= fun r => guardM (r.length ≤ sizeLine) r
/-- [e for x in l] -/
def compE {α β : Type} (e : α → PM β) : List α → PM (List β)
  | [] => pure []
  | x :: l => noX (e x) >>= fun y => compE e l >>= fun r => pure (y :: r)
theorem compE_eq {α β : Type} (e : α → PM β) : ∀ l : List α, compF (fun _ => pure true) e l = compE e l
  | [] => rfl
  | x :: l => by
    unfold compF compE
    rw [compE_eq e l]
    rfl
def wipeΓ (Γ : List Sl) : List Nat → List Sl
  | [] => Γ
  | v :: vs => put (wipeΓ Γ vs) v .any
theorem Good.wipe {S : Hp × Hp} {q : Option Addr} {sc : SG} {Γ : List Sl} {σ : St} {F H : Hp} {p : Pool} (g : Good S q sc Γ σ F H p) (hG : sc.G = []) : ∀ vs : List Nat, Good S q sc (wipeΓ Γ vs) (wipe σ vs) F H p
  | [] => g
  | v :: vs => (g.wipe hG vs).seta v (by rw [hG]; rfl)
section
variable {c : Cf} {Γ : List Sl} {ta tb : TE} {α β γ ρ : Type} {rr : Rr ρ}
theorem noX_ne {α : Type} {m : PM α} {p : Pool} {e : Exc} {p' : Pool} : noX m p ≠ (.error (.exc e), p') := by
  unfold noX
  rcases m p with ⟨er | a, p2⟩
  · cases er <;> (intro z; cases z)
  · intro z; cases z
theorem Post.ofT {σ : St} {F H : Hp} {p : Pool} {m : PM Bool} {Q : Bool → Hp → Prop}
    (k : match noX m p with | (.ok b, p') => ∀ F' H', Ext c.q F H F' H' → PoolOk c.q c.s F' H' p' → Q b H' | _ => False) : Post c.nox σ F H rBool (fun v H' => ∀ b, v = .bl b → Q b H') (m p) := by
  unfold noX at k
  rcases e : m p with ⟨er | b, p'⟩
  · rw [e] at k
    cases er <;> exact k.elim
  · rw [e] at k
    intro v F' H' e' pl r b' eb
    have : b = b' := by rw [show v = .bl b from r] at eb; injection eb
    subst this
    exact k F' H' e' pl
theorem wipe_idem (σ : St) (vs : List Nat) : wipe (wipe σ vs) vs = wipe σ vs := by
  have key : ∀ (us : List Nat), (∀ i ∈ us, i ∈ vs) → wipe (wipe σ us) vs = wipe σ vs := by
    intro us
    induction us with
    | nil => intro _; rfl
    | cons u us ih =>
      intro h
      show wipe ((wipe σ us).set u none) vs = _
      rw [wipe_comm _ _ _ _ (h u List.mem_cons_self), ih fun i hi => h i (List.mem_cons_of_mem _ hi)]
  exact key vs fun _ h => h
theorem compF_ne {t : α → PM Bool} {e : α → PM β} : ∀ {l : List α} {p : Pool} {x : Exc} {p' : Pool}, compF t e l p ≠ (.error (.exc x), p')
  | [], _, _, _ => by intro z; cases z
  | a :: l, p, x, p' => by
    intro z
    unfold compF at z
    rw [run_bind] at z
    rcases h : noX (t a) p with ⟨er | b, p2⟩
    · rw [h] at z
      cases er with
      | stuck => cases z
      | exc ex => exact noX_ne h
    · rw [h] at z
      cases b with
      | false => exact compF_ne (l := l) (p := p2) z
      | true =>
        have z2 : (noX (e a) >>= fun y => compF t e l >>= fun r => pure (y :: r)) p2 = (.error (.exc x), p') := z
        rw [run_bind] at z2
        rcases h2 : noX (e a) p2 with ⟨er | y, p3⟩
        · rw [h2] at z2
          cases er with
          | stuck => cases z2
          | exc ex => exact noX_ne h2
        · rw [h2] at z2
          have z3 : (compF t e l >>= fun r => pure (y :: r)) p3 = (.error (.exc x), p') := z2
          rw [run_bind] at z3
          rcases h3 : compF t e l p3 with ⟨er | r, p4⟩
          · rw [h3] at z3
            cases er with
            | stuck => cases z3
            | exc ex => exact compF_ne h3
          · rw [h3] at z3; cases z3
theorem en_lc {w : TI} {g : TG} {tt : TT} {te : TE} {vs ws : List Nat} {ru : Rl α} {r : Rl β} {mi : PM (List α)} {t : α → PM Bool} {e : α → PM β} {Γt : α → List Sl} (hi : Ei c Γ w mi ru) (hg : Eg c.nox (wipeΓ Γ vs) g ru Γt ws) (hw : ∀ i ∈ ws, i ∈ vs)
    (ht : ∀ x, Et c.nox (Γt x) tt (t x)) (he : ∀ x, Ev c.nox (Γt x) te (e x) r) : En c Γ (tLc w g tt te vs) (mi >>= fun l => sized (compF t e l)) (oList r) := fun S σ F H p Q gd q =>
  hi S σ F H p _ gd (by
    rw [run_bind] at q
    rcases e0 : mi p with ⟨er | l, p1⟩
    · rw [e0] at q
      cases er <;> exact q
    · rw [e0] at q
      intro J F1 H1 G Y e1 pl1 wk hG hY D nD
      have g1 := gd.ext e1 pl1
      have qD : c.q ≠ some D := fun z => pl1.there D z nD
      have nF1 : F1 D = none := Same.none g1.sub nD
      have nH : H D = none := by
        cases z : H D with
        | none => rfl
        | some o => rw [e1.keep D o z qD] at nD; cases nD
      refine lc_it wk (fun i H' => ∃ F2 p2 vs2 acc, Ext c.q F1 H1 F2 H' ∧ PoolOk c.q c.s F2 H' p2 ∧ F2 D = none ∧ H' D = some (.lst vs2) ∧ vs2.length ≤ sizeLine ∧ All2 (r.rel F2) vs2 acc ∧
          PostN c σ F H (oList r) Q ((compF t e (l.drop i) >>= fun rest => guardM ((acc ++ rest).length ≤ sizeLine) (acc ++ rest)) p2)) ?_ ?_ ?_ ?_
      · exact ⟨F1, p1, [], [], Ext.loose g1.sub nD, pl1.up (Ext.loose g1.sub nD), nF1, upd_same, Nat.zero_le _, .nil, q⟩
      · rintro i H' _ ⟨F2, p2, vs2, acc, e2, pl2, _⟩
        exact hG H' (e2.sub.trans e2.sub') (g1.ext e2 pl2).lh
      · rintro i x H2 H3 hlt ⟨F2, p2, vs2, acc, e2, pl2, nF2, hD, hl2, k2, q2⟩ hy
        obtain ⟨F3, e3, hr⟩ := hY i x F2 H2 H3 hlt e2.sub e2.sub' hy
        have ha : l[i]? = some l[i] := List.getElem?_eq_getElem hlt
        have g3 := ((gd.ext e1 pl1).ext e2 pl2).ext e3.widen (pl2.up e3)
        have pl3 := pl2.up e3
        have hD3 : H3 D = some (.lst vs2) := e3.keep D _ hD (by simp)
        have nF3 : F3 D = none := by
          cases z : F3 D with
          | none => rfl
          | some o =>
            rcases e3.new D o z with y | y
            · rw [nF2] at y; cases y
            · rw [hD] at y; cases y
        have e13 : Ext c.q F1 H1 F3 H3 := e2.tr e3.widen pl2
        rw [drop_cons ha] at q2
        refine hg l[i] x S (wipe σ vs) F3 H3 p2 _ (g3.nox.wipe rfl vs) (hr _ ha) fun σ4 g4 w4 => ⟨by rw [w4 vs hw, wipe_idem], ht l[i] S σ4 F3 H3 p2 _ g4 (Post.ofT ?_)⟩
        unfold compF at q2
        rw [bind_assoc, run_bind] at q2
        rcases h4 : noX (t l[i]) p2 with ⟨er | b, p4⟩
        · rw [h4] at q2
          cases er with
          | stuck => exact q2
          | exc ex => exact noX_ne h4
        · rw [h4] at q2
          intro F4 H4 e4 pl4
          have e14 : Ext c.q F1 H1 F4 H4 := e13.tr e4 pl3
          have hD4 : H4 D = some (.lst vs2) := e4.keep D _ hD3 qD
          have nF4 : F4 D = none := by
            cases z : F4 D with
            | none => rfl
            | some o =>
              rcases e4.new D o z with y | y
              · rw [nF3] at y; cases y
              · rw [hD3] at y; cases y
          cases b with
          | false =>
            rw [if_neg Bool.false_ne_true]
            exact ⟨F4, p4, vs2, acc, e14, pl4, nF4, hD4, hl2, k2.imp fun _ _ => r.mono (e3.sub.trans e4.sub), q2⟩
          | true =>
            rw [if_pos rfl]
            have q3 : PostN c σ F H (oList r) Q ((noX (e l[i]) >>= fun y => (compF t e (l.drop (i + 1)) >>= fun rr => pure (y :: rr)) >>= fun rest => guardM ((acc ++ rest).length ≤ sizeLine) (acc ++ rest)) p4) := by
              have z : (noX (e l[i]) >>= fun y => (compF t e (l.drop (i + 1)) >>= fun rr => pure (y :: rr)) >>= fun rest => guardM ((acc ++ rest).length ≤ sizeLine) (acc ++ rest)) = ((noX (e l[i]) >>= fun y => compF t e (l.drop (i + 1)) >>= fun rr => pure (y :: rr)) >>= fun rest => guardM ((acc ++ rest).length ≤ sizeLine) (acc ++ rest)) := by rw [bind_assoc]
              rw [z]
              exact q2
            refine he l[i] S σ4 F4 H4 p4 _ (g4.ext e4 pl4) (Post.nox (c := c) (σ := σ) ?_)
            rw [run_bind] at q3
            rcases h5 : noX (e l[i]) p4 with ⟨er | y, p5⟩
            · rw [h5] at q3
              cases er with
              | stuck => exact q3
              | exc ex => exact (noX_ne h5).elim
            · rw [h5] at q3
              intro v F5 H5 e5 pl5 r5
              have hD5 : H5 D = some (.lst vs2) := e5.keep D _ hD4 qD
              have nF5 : F5 D = none := by
                cases z : F5 D with
                | none => rfl
                | some o =>
                  rcases e5.new D o z with y | y
                  · rw [nF4] at y; cases y
                  · rw [hD4] at y; cases y
              have e15 : Ext c.q F1 H1 F5 H5 := e14.tr e5 pl4
              have q4 : PostN c σ F H (oList r) Q ((compF t e (l.drop (i + 1)) >>= fun rr => guardM ((acc ++ (y :: rr)).length ≤ sizeLine) (acc ++ (y :: rr))) p5) := by
                have z : (compF t e (l.drop (i + 1)) >>= fun rr => guardM ((acc ++ (y :: rr)).length ≤ sizeLine) (acc ++ (y :: rr))) = ((compF t e (l.drop (i + 1)) >>= fun rr => pure (y :: rr)) >>= fun rest => guardM ((acc ++ rest).length ≤ sizeLine) (acc ++ rest)) := by
                  rw [bind_assoc]
                  rfl
                rw [z]
                exact q3
              have hl : vs2.length < sizeLine := by
                rw [k2.length]
                rw [run_bind] at q4
                rcases h6 : compF t e (l.drop (i + 1)) p5 with ⟨er | rest, p6⟩
                · rw [h6] at q4
                  cases er with
                  | stuck => exact q4.elim
                  | exc ex => exact (compF_ne h6).elim
                · rw [h6] at q4
                  have q5 : PostN c σ F H (oList r) Q (guardM ((acc ++ (y :: rest)).length ≤ sizeLine) (acc ++ (y :: rest)) p6) := q4
                  unfold guardM at q5
                  by_cases hh : (acc ++ (y :: rest)).length ≤ sizeLine
                  · rw [List.length_append, List.length_cons] at hh
                    omega
                  · rw [if_neg hh] at q5
                    exact q5.elim
              refine ⟨vs2, hD5, hl, F5, p5, vs2 ++ [v], acc ++ [y], ⟨e15.sub, fun b o z => ?_, fun b o z n => ?_, e15.new⟩, ?_, nF5, upd_same, by rw [List.length_append]; exact hl, (k2.imp fun _ _ => r.mono (e3.sub.trans (e4.sub.trans e5.sub))).append (.cons r5 .nil), ?_⟩
              · rw [upd_ne (fun y => by rw [y, nF5] at z; cases z)]
                exact e15.sub' b o z
              · rw [upd_ne (fun y => by rw [y, nD] at z; cases z)]
                exact e15.keep b o z n
              · cases cq : c.q with
                | none => trivial
                | some a0 =>
                  rw [cq] at pl5 qD
                  obtain ⟨z1, z2, z3⟩ := pl5
                  exact ⟨z1, by rw [upd_ne (fun y => qD (by rw [y]))]; exact z2, z3⟩
              · have z : (fun rest => guardM ((acc ++ [y] ++ rest).length ≤ sizeLine) (acc ++ [y] ++ rest)) = fun rest => guardM ((acc ++ (y :: rest)).length ≤ sizeLine) (acc ++ (y :: rest)) := by
                  funext rest
                  rw [List.append_assoc]
                  rfl
                rw [z]
                exact q4
      · rintro H' ⟨F2, p2, vs2, acc, e2, pl2, nF2, hD, hl2, k2, q2⟩
        rw [List.drop_length] at q2
        unfold compF at q2
        rw [pure_bind, List.append_nil] at q2
        unfold guardM at q2
        by_cases hh : acc.length ≤ sizeLine
        · rw [if_pos hh] at q2
          exact q2 D (.lst vs2) F2 H' (e1.tr e2 pl1) pl2 nH nF2 hD qD ⟨vs2, rfl, hl2, k2⟩
        · rw [if_neg hh] at q2
          exact q2.elim)
/-- without an if -/
theorem et_yes : Et c Γ tYes (pure true) := fun S σ F H p Q g q => Post.now (v := V.bl true) q g.sub g.pl (show rBool.rel F (.bl true) true from rfl) true rfl
theorem en_lcE {w : TI} {g : TG} {te : TE} {vs ws : List Nat} {ru : Rl α} {r : Rl β} {mi : PM (List α)} {e : α → PM β} {Γt : α → List Sl} (hi : Ei c Γ w mi ru) (hg : Eg c.nox (wipeΓ Γ vs) g ru Γt ws) (hw : ∀ i ∈ ws, i ∈ vs)
    (he : ∀ x, Ev c.nox (Γt x) te (e x) r) : En c Γ (tLc w g tYes te vs) (mi >>= fun l => sized (compE e l)) (oList r) := by
  have h := en_lc (t := fun _ => pure true) hi hg hw (fun x => et_yes) he
  simp only [compE_eq] at h
  exact h
/-- an own object is lent for an expression that hands back what needs no heap -/
theorem ev_borrow (i : Nat) {ro : Ro α} {a : α} {rf : Rl β} {t : TE} {m : PM β} (e : nth Γ i = .own ro a) (fl : rf.Flat) (h : Ev c (put Γ i (.val (fz ro) a)) t m rf) :
    Ev c Γ t (noX m) rf := fun S σ F H p Q g q => by
  obtain ⟨F', s, g'⟩ := g.fz e
  refine h S σ F' H p Q g' ?_
  unfold noX at q
  rcases em : m p with ⟨er | b, p'⟩
  · rw [em] at q
    cases er with
    | stuck => exact q
    | exc ex => exact (show False from q).elim
  · rw [em] at q
    exact fun v F2 H2 e2 pl2 k => q v F H2 ⟨Same.refl _, (s.trans e2.sub).trans e2.sub', e2.keep, fun _ _ z => .inl z⟩ (by
        have pl := g.pl
        have pl2' := pl2
        cases cq : c.q with
        | none => trivial
        | some y =>
          rw [cq] at pl pl2'
          obtain ⟨z1, z2, z3, z4⟩ := pl
          obtain ⟨w1, w2, w3, w4⟩ := pl2'
          refine ⟨z1, w2, ?_, w4⟩
          have z5 := s _ _ z3
          have z6 := e2.sub _ _ z5
          rw [w3] at z6
          rw [z3, z6]) (fl _ _ _ _ k)
end
end Kf

set_option maxHeartbeats 4000000
namespace Kf
open PySem PySem.Spec L2
open PyProof.Rows hiding St
/-! ### what a def promises -/
def cfE (K : PySem.W.Frag) (q : Option Addr) (sc : Addr) (E : XK) (L : Hp := fun _ => none) : Cf := ⟨K, q, ⟨sc, [], L⟩, fun cls d _ H => E cls d H⟩
/-- its value is the mirror's -/
def spF {A α : Type} (K : PySem.W.Frag) (ra : Ra A) (m : A → PM α) (r : Rl α) : Sp := fun vs H Q E =>
  ∃ F a p, Same F H ∧ ra.rel F vs a ∧ Post (cfE K none 0 E) [] F H r Q (m a p)
/-- .. its first argument is the pool -/
def spP {A α : Type} (K : PySem.W.Frag) (ra : Ra A) (m : A → PM α) (r : Rl α) : Sp := fun vs H Q E =>
  ∃ q sc ws F a p, vs = .ref q :: ws ∧ Same F H ∧ PoolOk (some q) ⟨sc, [], fun _ => none⟩ F H p ∧ ra.rel F ws a ∧ Post (cfE K (some q) sc E) [] F H r Q (m a p)
/-- the pool as it was -/
def frame {α : Type} (m : PM α) : PM α := fun p => ((m p).1, p)
@[simp] theorem frame_pure {α : Type} (a : α) : frame (pure a : PM α) = pure a := rfl
@[simp] theorem frame_raise {α : Type} (e : Exc) : frame (raise e : PM α) = raise e := rfl
def rPool : Rl Addr := ⟨fun _ v q => v = .ref q, fun _ h => h⟩
section
variable {c : Cf} {Γ : List Sl} {ta tb : TE} {α β γ ρ A B : Type} {t : TA}
theorem Post.toE {σ : St} {F H : Hp} {r : Rl α} {Q : VK} {x : Except Er α × Pool} (h : Post c σ F H r Q x) : Post (cfE c.K c.q c.s.a (WE c.W σ)) [] F H r Q x := by
  rcases x with ⟨er | a, p⟩
  · cases er <;> exact h
  · exact h
theorem ev_callD {ra0 : Ra B} {ra : Ra A} {f : A → PM α} {r : Rl α} {m : PM B} {dvs : List V} (cv : B → A) (hc : ∀ F vs b, ra0.rel F vs b → ra.rel F (vs ++ dvs) (cv b)) (h : Ea c Γ t m ra0) :
    Ev c Γ (tCallSD (spF c.K ra f r) dvs (WE c.W) t) (m >>= fun b => frame (f (cv b))) r := fun S σ F H p Q g q =>
  h S σ F H p _ g (q.seq fun b p1 vs F1 H1 e1 pl1 r1 h1 => by
    refine ⟨F1, cv b, p1, (g.ext e1 pl1).sub, hc F1 vs b r1, ?_⟩
    have h2 : Post c σ F1 H1 r Q ((f (cv b) p1).1, p1) := h1
    rcases e : f (cv b) p1 with ⟨er | a, p2⟩
    · rw [e] at h2
      cases er with
      | stuck => exact h2
      | exc ex => exact fun cls d F' H' e' _ k => h2 cls d F' H' e'.widen (pl1.up e') k
    · rw [e] at h2
      exact fun v F' H' e' _ k => h2 v F' H' e'.widen (pl1.up e') k)
theorem ev_call {ra : Ra A} {f : A → PM α} {r : Rl α} {m : PM A} (h : Ea c Γ t m ra) : Ev c Γ (tCallSD (spF c.K ra f r) [] (WE c.W) t) (m >>= fun a => frame (f a)) r :=
  ev_callD id (fun F vs b k => by rw [List.append_nil]; exact k) h
/-- where there is no pool -/
theorem ev_call0 (hq : c.q = none) {ra : Ra A} {f : A → PM α} {r : Rl α} {m : PM A} (h : Ea c Γ t m ra) : Ev c Γ (tCallSD (spF c.K ra f r) [] (WE c.W) t) (m >>= fun a => f a) r := fun S σ F H p Q g q =>
  h S σ F H p _ g (q.seq fun b p1 vs F1 H1 e1 pl1 r1 h1 => by
    refine ⟨F1, b, p1, (g.ext e1 pl1).sub, by rw [List.append_nil]; exact r1, ?_⟩
    have := Post.toE h1
    rw [hq] at this
    exact this)
theorem ev_callD0 (hq : c.q = none) {ra0 : Ra B} {ra : Ra A} {f : A → PM α} {r : Rl α} {m : PM B} {dvs : List V} (cv : B → A) (hc : ∀ F vs b, ra0.rel F vs b → ra.rel F (vs ++ dvs) (cv b)) (h : Ea c Γ t m ra0) :
    Ev c Γ (tCallSD (spF c.K ra f r) dvs (WE c.W) t) (m >>= fun b => f (cv b)) r := fun S σ F H p Q g q =>
  h S σ F H p _ g (q.seq fun b p1 vs F1 H1 e1 pl1 r1 h1 => by
    refine ⟨F1, cv b, p1, (g.ext e1 pl1).sub, hc F1 vs b r1, ?_⟩
    have := Post.toE h1
    rw [hq] at this
    exact this)
theorem ev_callP {q : Addr} (i : Nat) (hq : c.q = some q) (hi : nth Γ i = .val rPool q) {ra : Ra A} {f : A → PM α} {r : Rl α} {m : PM A} (h : Ea c Γ t m ra) : Ev c Γ (tCallSD (spP c.K ra f r) [] (WE c.W) (tCons (tVar i) t)) (m >>= fun a => f a) r := fun S σ F H p Q g qq => by
  obtain ⟨v, h1, h2⟩ := g.sl.val hi
  refine ⟨v, h1, h S σ F H p _ g (qq.seq fun b p1 vs F1 H1 e1 pl1 r1 h3 => ?_)⟩
  rw [show v = .ref q from h2]
  have := Post.toE h3
  rw [hq] at this pl1
  exact ⟨q, c.s.a, vs, F1, b, p1, by simp, (g.ext e1 (by rw [hq]; exact pl1)).sub, pl1, r1, this⟩
/-! ### the pool's own parts -/
def poolGet (k : Nat) : PM Int := fun p => (.ok (match k with
  | 1 => p.pos
  | 2 => p.cur
  | 3 => p.left
  | _ => p.mode), p)
def poolScr : PM (List Int) := fun p => (.ok p.scr, p)
def poolSet (k : Nat) (v : Int) : PM Unit := fun p => (.ok (), match k with
  | 1 => { p with pos := v }
  | 2 => { p with cur := v }
  | 3 => { p with left := v }
  | _ => { p with mode := v })
theorem ev_pool {q : Addr} (i k : Nat) (hk : k = 1 ∨ k = 2 ∨ k = 3 ∨ k = 4) (hq : c.q = some q) (hi : nth Γ i = .val rPool q) : Ev c Γ (tOp (rIxL c.K) (tVar i) (tC (.int (k : Int)))) (poolGet k) rInt := fun S σ F H p Q g qq => by
  obtain ⟨v, h1, h2⟩ := g.sl.val hi
  have pl := g.pl
  rw [hq] at pl
  obtain ⟨z1, z2, z3, z4⟩ := pl
  refine ⟨v, h1, ?_⟩
  rw [show v = .ref q from h2]
  have fin : ∀ x : Int, (poolGet k p) = (.ok x, p) → Q (.int x) H := fun x e => by
    rw [e] at qq
    exact qq (.int x) F H (Ext.refl g.sub) g.pl rfl
  rcases hk with rfl | rfl | rfl | rfl
  · exact ⟨q, _, 1, .int p.pos, rfl, rfl, SqL.of z2, rfl, fin p.pos rfl⟩
  · exact ⟨q, _, 2, .int p.cur, rfl, rfl, SqL.of z2, rfl, fin p.cur rfl⟩
  · exact ⟨q, _, 3, .int p.left, rfl, rfl, SqL.of z2, rfl, fin p.left rfl⟩
  · exact ⟨q, _, 4, .int p.mode, rfl, rfl, SqL.of z2, rfl, fin p.mode rfl⟩
theorem All2.ints {F : Hp} : ∀ (l : List Int), All2 (rInt.rel F) (l.map V.int) l
  | [] => .nil
  | _ :: l => .cons rfl (All2.ints l)
theorem ev_pool0 {q : Addr} (i : Nat) (hq : c.q = some q) (hi : nth Γ i = .val rPool q) : Ev c Γ (tOp (rIxL c.K) (tVar i) (tC (.int 0))) poolScr (rList rInt) := fun S σ F H p Q g qq => by
  obtain ⟨v, h1, h2⟩ := g.sl.val hi
  have pl := g.pl
  rw [hq] at pl
  obtain ⟨z1, z2, z3, z4⟩ := pl
  refine ⟨v, h1, ?_⟩
  rw [show v = .ref q from h2]
  refine ⟨q, _, 0, .ref c.s.a, rfl, rfl, SqL.of z2, rfl, ?_⟩
  exact qq (.ref c.s.a) F H (Ext.refl g.sub) g.pl (rList.mk z3 (by rw [List.length_map]; exact Nat.le_trans z4 (by decide)) (All2.ints _))
theorem es_pool {q : Addr} (i k : Nat) (hk : k = 1 ∨ k = 2 ∨ k = 3 ∨ k = 4) (hq : c.q = some q) (hi : nth Γ i = .val rPool q) {m : PM Int} (h : Ev c Γ ta m rInt) : Es c Γ (tAsg ta (gSub (tVar i) (tC (.int (k : Int))) rSetL)) (m >>= fun v => poolSet k v) fun _ => Γ := fun S σ F H p D g qq => by
  refine h S σ F H p _ g (qq.seqE g fun a p1 v F1 H1 g1 s1 r1 _ h3 => ?_)
  obtain ⟨x, h1, h2⟩ := g1.sl.val hi
  have pl := g1.pl
  rw [hq] at pl
  obtain ⟨z1, z2, z3, z4⟩ := pl
  refine ⟨x, h1, ?_⟩
  rw [show x = .ref q from h2, show v = .int a from r1]
  have nS : ∀ b, b ∈ ownA Γ σ → b ≠ q := fun b hb e => g1.oq b hb (by rw [hq, e])
  have sq : Same F1 (upd H1 q (.lst [])) → True := fun _ => trivial
  have fin : ∀ (p2 : Pool), (poolSet k a p1) = (.ok (), p2) → p2.scr = p1.scr → D.nx σ (upd H1 q (.lst [.ref c.s.a, .int p2.pos, .int p2.cur, .int p2.left, .int p2.mode])) := fun p2 e es => by
    rw [e] at h3
    refine h3 σ F1 _ ⟨fun b o z => ?_, g1.sl.ext (Same.refl _) fun b hb o z => ?_, g1.nd, g1.of, g1.oq, g1.os, ⟨g1.ent.sub, fun b o z => ?_, fun b o z n => ?_, g1.ent.new⟩, ?_, g1.gx, g1.ln⟩
    · rw [upd_ne (fun y => by rw [y, z1] at z; cases z)]; exact g1.sub b o z
    · rw [upd_ne (nS b hb)]; exact z
    · rw [upd_ne (fun y => by rw [y, z1] at z; cases z)]; exact g1.sub b o z
    · rw [upd_ne (fun y => n (by rw [hq, y]))]; exact g1.ent.keep b o z n
    · rw [hq]
      exact ⟨z1, upd_same, by rw [es]; exact z3, by rw [es]; exact z4⟩
  rcases hk with rfl | rfl | rfl | rfl
  · exact ⟨q, _, 1, 1, rfl, rfl, z2, rfl, fin { p1 with pos := a } rfl rfl⟩
  · exact ⟨q, _, 2, 2, rfl, rfl, z2, rfl, fin { p1 with cur := a } rfl rfl⟩
  · exact ⟨q, _, 3, 3, rfl, rfl, z2, rfl, fin { p1 with left := a } rfl rfl⟩
  · exact ⟨q, _, 4, 4, rfl, rfl, z2, rfl, fin { p1 with mode := a } rfl rfl⟩
end
/-! ### the parameters' slots -/
def anys : Nat → List Sl
  | 0 => []
  | n + 1 => .any :: anys n
def Bd {A : Type} (ra : Ra A) (Γ : A → List Sl) (n : Nat) : Prop := ∀ (F H : Hp) (vs : List V) (a : A) (k : Nat), ra.rel F vs a → vs.length = n ∧ SlsOk F H (Γ a ++ anys k) (vs.map some ++ List.replicate k none) ∧ ownA (Γ a ++ anys k) (vs.map some ++ List.replicate k none) = []
theorem anys_ok (F H : Hp) : ∀ k, SlsOk F H (anys k) (List.replicate k none) ∧ ownA (anys k) (List.replicate k none) = []
  | 0 => ⟨.nil, rfl⟩
  | k + 1 => ⟨.cons trivial (anys_ok F H k).1, (anys_ok F H k).2⟩
theorem bd_nil : Bd aNil (fun _ => []) 0 := fun F H vs a k h => by
  subst h
  exact ⟨rfl, anys_ok F H k⟩
theorem bd_cons {α A : Type} {r : Rl α} {ra : Ra A} {Γ : A → List Sl} {n : Nat} (h : Bd ra Γ n) : Bd (aCons r ra) (fun x => .val r x.1 :: Γ x.2) (n + 1) := fun F H vs a k q => by
  obtain ⟨v, ws, rfl, h1, h2⟩ := q
  obtain ⟨k1, k2, k3⟩ := h F H ws a.2 k h2
  exact ⟨by rw [List.length_cons, k1], .cons ⟨v, rfl, h1⟩ k2, k3⟩
section
variable {P : Program} {w : World} {K : PySem.W.Frag} {mg : Str → Option Value} {base : Heap} {A α : Type}
theorem good_start {q : Option Addr} {sc : SG} (hG : sc.G = []) {Γ : List Sl} {σ : St} {F H : Hp} {p : Pool} (s : Same F H) (h : SlsOk F H Γ σ) (no : ownA Γ σ = []) (pl : PoolOk q sc F H p) (hL : Same sc.L H ∧ ∀ x, q = some x → sc.L x = none := by exact ⟨fun _ _ z => (nomatch z), fun _ _ => rfl⟩) : Good (F, H) q sc Γ σ F H p where
  sub := s
  sl := h
  nd := by rw [no]; exact List.nodup_nil
  of := fun a ha => by rw [no] at ha; cases ha
  oq := fun a ha => by rw [no] at ha; cases ha
  os := fun a ha => by rw [no] at ha; cases ha
  ent := Ext.refl s
  pl := pl
  gx := by rw [hG]; exact .nil
  ln := hL
theorem Post.toL {K : PySem.W.Frag} {q : Option Addr} {sc : Addr} {E : XK} {L F H : Hp} {r : Rl α} {Q : VK} {x : Except Er α × Pool} (h : Post (cfE K q sc E L) [] F H r Q x) : PostL (cfE K q sc E L) (F, H) r { nx := fun _ H' => Q .non H', rt := Q } x := by
  rcases x with ⟨er | a, p⟩
  · cases er with
    | stuck => exact h
    | exc ex => exact fun cls d _ F' H' e pl _ k => h cls d F' H' e pl k
  · exact fun v F' H' e pl k => h v F' H' e pl k
theorem start_eq {N : List Str} {vs : List V} {n j : Nat} (h1 : vs.length = n) (h2 : N.length = n + j) : L2.start N vs = vs.map some ++ List.replicate j none := by
  unfold L2.start
  rw [h1, h2, Nat.add_sub_cancel_left]
/-- THE RULE for a def -/
theorem okF {x qual : Str} {params : Arguments} {body : List Stmt} {scope : Scope} {dvs : List V} {kws : List (Str × V)} {f : Addr} {fd : FuncData} {N ps : List Str} {k n j : Nat} {ra : Ra A} {m : A → PM α} {r : Rl α} {Γ : A → List Sl}
    (F : FunD K x qual params body scope dvs kws f fd) (S : FnScope N ps scope) (hb : Bd ra Γ n) (hn : ps.length = n) (hN : N.length = n + j)
    (hbody : ∀ (cdv : Value) (A_ : Around) (outer : List Env) (s : Shared) (H : Hp) (E : XK), Room k (A_.deeper (envOfC qual scope s.heap.objs.size f cdv)) →
      ∃ t, PSs (cxOf (L2N.CX P w) P w K mg base N qual scope f cdv A_ outer s H E) body t ∧ ∀ a, El (cfE K none 0 E) r True (Γ a ++ anys j) t (m a)) : FnOk P w K mg base (L2N.CX P w) (k + 1) f fd ps (spF K ra m r) := by
  refine FunD.ok F S (fun vs H Q E h => ?_) fun cdv A_ outer s H vs Q E hr h => ?_
  · obtain ⟨F, a, p, _, h2, _⟩ := h
    rw [(hb F H vs a 0 h2).1, hn]
  · obtain ⟨t, h1, h2⟩ := hbody cdv A_ outer s H E hr
    obtain ⟨F, a, p, s1, s2, s3⟩ := h
    obtain ⟨k1, k2, k3⟩ := hb F H vs a j s2
    refine ⟨t, h1, ?_⟩
    rw [start_eq k1 hN]
    exact h2 a (F, H) _ F H p _ (good_start rfl s1 k2 k3 trivial) (fun _ _ _ z => z) s3.toL
/-- .. with the pool ahead -/
theorem okP {x qual : Str} {params : Arguments} {body : List Stmt} {scope : Scope} {dvs : List V} {kws : List (Str × V)} {f : Addr} {fd : FuncData} {N ps : List Str} {k n j : Nat} {ra : Ra A} {m : A → PM α} {r : Rl α} {Γ : A → List Sl}
    (F : FunD K x qual params body scope dvs kws f fd) (S : FnScope N ps scope) (hb : Bd ra Γ n) (hn : ps.length = n + 1) (hN : N.length = n + 1 + j)
    (hbody : ∀ (cdv : Value) (A_ : Around) (outer : List Env) (s : Shared) (H : Hp) (E : XK), Room k (A_.deeper (envOfC qual scope s.heap.objs.size f cdv)) →
      ∃ t, PSs (cxOf (L2N.CX P w) P w K mg base N qual scope f cdv A_ outer s H E) body t ∧ ∀ q sc a, El (cfE K (some q) sc E) r True (.val rPool q :: (Γ a ++ anys j)) t (m a)) : FnOk P w K mg base (L2N.CX P w) (k + 1) f fd ps (spP K ra m r) := by
  refine FunD.ok F S (fun vs H Q E h => ?_) fun cdv A_ outer s H vs Q E hr h => ?_
  · obtain ⟨q, sc, ws, F, a, p, rfl, _, _, h2, _⟩ := h
    rw [List.length_cons, (hb F H ws a 0 h2).1, hn]
  · obtain ⟨t, h1, h2⟩ := hbody cdv A_ outer s H E hr
    obtain ⟨q, sc, ws, F, a, p, rfl, s1, pl, s2, s3⟩ := h
    obtain ⟨k1, k2, k3⟩ := hb F H ws a j s2
    refine ⟨t, h1, ?_⟩
    rw [start_eq (n := n + 1) (by rw [List.length_cons, k1]) hN]
    exact h2 q sc a (F, H) _ F H p _ (good_start rfl s1 (.cons ⟨_, rfl, rfl⟩ k2) k3 pl) (fun _ _ _ z => z) s3.toL
end
/-! ### the law -/
def spPool (K : PySem.W.Frag) : Sp := fun vs H Q _ => ∃ (a : Addr) (ns : List Int), vs = [.ref a] ∧ SqL K H a (ns.map V.int) ∧ ns.length ≤ 63 ∧
  ∀ q s H', Same H H' → H q = none → H s = none → s ≠ q → H' q = some (.lst [.ref s, .int 0, .int 0, .int 0, .int 0]) → H' s = some (.lst (ns.map V.int)) → Q (.ref q) H'
def spLaw (K : PySem.W.Frag) : Sp := fun vs H Q _ => ∃ (a : Addr) (ns : List Int), vs = [.ref a] ∧ SqL K H a (ns.map V.int) ∧ ns.length ≤ 63 ∧ ∀ H', Q (.bl true) H'
def pool0 (ns : List Int) : Pool := ⟨ns, 0, 0, 0, 0⟩
theorem okLaw {P : Program} {w : World} {K : PySem.W.Frag} {mg : Str → Option Value} {base : Heap} {x qual : Str} {params : Arguments} {body : List Stmt} {scope : Scope} {dvs : List V} {kws : List (Str × V)} {f : Addr} {fd : FuncData} {N ps : List Str} {k j : Nat} {m : PM Bool}
    (F : FunD K x qual params body scope dvs kws f fd) (S : FnScope N ps scope) (hn : ps.length = 1) (hN : N.length = 1 + (1 + j)) (hm : ∀ ns : List Int, ns.length ≤ 63 → ∃ p', m (pool0 ns) = (.ok true, p'))
    (hbody : ∀ (cdv : Value) (A_ : Around) (outer : List Env) (s : Shared) (H : Hp) (E : XK), Room k (A_.deeper (envOfC qual scope s.heap.objs.size f cdv)) →
      ∃ u, PSs (cxOf (L2N.CX P w) P w K mg base N qual scope f cdv A_ outer s H E) body (tSeq (tAsg (tCallSD (spPool K) [] (WE (cfE K none 0 E).W) (tCons (tVar 0) tNil)) (gName 1)) u) ∧ ∀ q sc, El (cfE K (some q) sc E) rBool True (.any :: .val rPool q :: anys j) u m) :
    FnOk P w K mg base (L2N.CX P w) (k + 1) f fd ps (spLaw K) := by
  refine FunD.ok F S (fun vs H Q E h => ?_) fun cdv A_ outer s H vs Q E hr h => ?_
  · obtain ⟨a, ns, rfl, _⟩ := h
    rw [hn]; rfl
  · obtain ⟨u, h1, h2⟩ := hbody cdv A_ outer s H E hr
    obtain ⟨a, ns, rfl, hS, hl, hQ⟩ := h
    refine ⟨_, h1, ?_⟩
    rw [start_eq (n := 1) rfl hN]
    refine ⟨.ref a, rfl, a, ns, rfl, hS, hl, fun q s0 H1 sm nq ns0 ne hq hs => ?_⟩
    let F1 : Hp := upd (fun _ => none) s0 (.lst (ns.map V.int))
    have sF : Same F1 H1 := fun b o z => by
      by_cases hb : b = s0
      · subst hb
        rw [show F1 b = some (.lst (ns.map V.int)) from upd_same] at z
        rw [← z]; exact hs
      · rw [show F1 b = none from upd_ne hb] at z; cases z
    have pl : PoolOk (some q) ⟨s0, [], fun _ => none⟩ F1 H1 (pool0 ns) := ⟨upd_ne (fun z => ne z.symm), hq, upd_same, Nat.le_trans hl (by decide)⟩
    obtain ⟨p', hp'⟩ := hm ns hl
    have g : Good (F1, H1) (some q) ⟨s0, [], fun _ => none⟩ (.any :: .val rPool q :: anys j) ([some (.ref a), some (.ref q)] ++ List.replicate j none) F1 H1 (pool0 ns) :=
      good_start rfl sF (.cons trivial (.cons ⟨_, rfl, rfl⟩ (anys_ok F1 H1 j).1)) (anys_ok F1 H1 j).2 pl
    have e : List.set (List.map some [V.ref a] ++ List.replicate (1 + j) none) 1 (some (V.ref q)) = [some (V.ref a), some (V.ref q)] ++ List.replicate j none := by
      rw [Nat.add_comm 1 j]
      rfl
    show u _ _ _
    rw [e]
    refine h2 q s0 (F1, H1) _ F1 H1 (pool0 ns) _ g (fun _ _ _ z => z) ?_
    rw [hp']
    intro v F' H' _ _ r
    rw [show v = .bl true from r]
    exact hQ H'
/-- an exception's lie, over any world -/
def CXw (P : Program) : CXT := fun outer H s E u s' => ∃ w, L2N.CX P w outer H s E u s'
theorem fn_cxw {P : Program} {w : World} {K : PySem.W.Frag} {mg : Str → Option Value} {base : Heap} {k : Nat} {f : Addr} {fd : FuncData} {ps : List Str} {sp : Sp} (F : FnOk P w K mg base (L2N.CX P w) k f fd ps sp) : FnOk P w K mg base (CXw P) k f fd ps sp :=
  ⟨F.len, fun A outer s H args us vs Q E hr he hb hv hs => codeAny_mono (F.run A outer s H args us vs Q E hr he hb hv hs) fun r s' h => by
    match r, h with
    | .ok (.ret _), h => exact h
    | .error _, h => exact ⟨w, h⟩⟩
theorem cxw_none {P : Program} (H : Hp) (s : Shared) (e : Value) (s' : Shared) : CXw P [] H s (fun _ _ _ => False) e s' → False := fun ⟨_, _, _, _, _, _, _, _, _, _, _, _, _, h⟩ => h
end Kf

set_option maxHeartbeats 4000000
namespace Kf
open PySem PySem.Spec L2
open PyProof.Rows hiding St
/-! ### names of the module -/
section
variable {X : Cx} {x z : Str} {i : Int} {pos : Pos}
theorem pe_gstr (hg : Gl X x) (hm : ∃ t, X.mg x = some (.str z t)) (hd : (x == ("__debug__" : Str)) = false := by decide) : PE X (.Name x pos) (tC (.str z)) := by
  obtain ⟨t, h⟩ := hm
  exact pe_glob hg h ⟨t, rfl⟩ hd
theorem pe_gint (hg : Gl X x) (hm : ∃ t, X.mg x = some (.int i t)) (hd : (x == ("__debug__" : Str)) = false := by decide) : PE X (.Name x pos) (tC (.int i)) := by
  obtain ⟨t, h⟩ := hm
  exact pe_glob hg h ⟨t, rfl⟩ hd
/-! ### x * n -/
abbrev rMulS : R2 := fun x y H Q => ∃ (a : Str) (n : Int), x = .str a ∧ y = .int n ∧ 0 ≤ n ∧ n ≤ 1000 ∧ a.length ≤ 100 ∧ Q (.str (Txt.mul a n)) H
theorem op_mul_str {X : Cx} : OpR X (binaryOp .Mult) rMulS := by
  intro pins s σ H x y v u Q I rx ry h
  obtain ⟨a, n, rfl, rfl, h0, h1, h2, q⟩ := h
  obtain ⟨t, rfl⟩ := rx
  obtain ⟨t', rfl⟩ := ry
  refine SB.mul (mulOk_of 100 1000 h2 h1 (by omega) (by decide) (by decide)) fun t2 k => ⟨.str _, H, I.tok _, ⟨t2, rfl⟩, q⟩
end
def mulS (a : Str) (n : Int) : PM Str := guardM (0 ≤ n ∧ n ≤ 1000 ∧ a.length ≤ 100 ∧ (Txt.mul a n).length ≤ sizeLine) (Txt.mul a n)
section
variable {c : Cf} {Γ : List Sl} {ta tb tc : TE} {α β : Type}
theorem ev_mulS {ma : PM Str} {mb : PM Int} (ha : Ev c Γ ta ma rStr) (hb : Ev c Γ tb mb rInt) : Ev c Γ (tOp rMulS ta tb) (ma >>= fun a => mb >>= fun b => mulS a b) rStr :=
  ev_op ha hb fun a b S σ F H p x y Q gd hx hy q => by
    unfold mulS guardM at q
    by_cases h : 0 ≤ b ∧ b ≤ 1000 ∧ a.length ≤ 100 ∧ (Txt.mul a b).length ≤ sizeLine
    · rw [if_pos h] at q
      exact ⟨a, b, hx.1, hy, h.1, h.2.1, h.2.2.1, q.now gd.sub gd.pl ⟨rfl, h.2.2.2⟩⟩
    · rw [if_neg h] at q
      exact q.elim
/-! ### data at any depth -/
end
def rD (K : PySem.W.Frag) : Rl PyData := ⟨fun F v d => Dq K F v d, fun s h => Dq.mono s _ _ h⟩
/-- data that are told by what they are made of -/
structure Dat {α : Type} (K : PySem.W.Frag) (r : Rl α) (enc : α → PyData) : Prop where
  dp : ∀ {F v a}, r.rel F v a → Dq K F v (enc a)
theorem datInt {K : PySem.W.Frag} : Dat K rInt PyData.int := ⟨fun h => by rw [show _ = V.int _ from h]; exact .int _⟩
theorem datBool {K : PySem.W.Frag} : Dat K rBool PyData.bool := ⟨fun h => by rw [show _ = V.bl _ from h]; exact .bl _⟩
theorem datStr {K : PySem.W.Frag} : Dat K rStr PyData.str := ⟨fun h => by rw [h.1]; exact .str _ h.2⟩
theorem datNone {K : PySem.W.Frag} : Dat K rNone (fun _ => PyData.none) := ⟨fun h => by rw [show _ = V.non from h]; exact .non⟩
def encO {α : Type} (enc : α → PyData) : Option α → PyData
  | none => .none
  | some a => enc a
theorem datOpt {α : Type} {K : PySem.W.Frag} {r : Rl α} {enc : α → PyData} (h : Dat K r enc) : Dat K (rOpt r) (encO enc) := ⟨fun {F v a} q => by
  cases a with
  | none => rw [show v = V.non from q]; exact .non
  | some a => exact h.dp q⟩
theorem Dat.all {α : Type} {K : PySem.W.Frag} {r : Rl α} {enc : α → PyData} (h : Dat K r enc) {F : Hp} : ∀ {vs : List V} {l : List α}, All2 (r.rel F) vs l → DqAll K F vs (l.map enc)
  | _, _, .nil => .nil
  | _, _, .cons q t => .cons (h.dp q) (h.all t)
theorem datList {α : Type} {K : PySem.W.Frag} {r : Rl α} {enc : α → PyData} (h : Dat K r enc) : Dat K (rList r) (fun l => .list (l.map enc)) := ⟨fun {F v l} q => by
  obtain ⟨p, vs, rfl, h1, h2, h3⟩ := rList.of q
  exact .lst h1 h2 (h.all h3)⟩
theorem datTup {α : Type} {K : PySem.W.Frag} {r : Rl α} {enc : α → PyData} (h : Dat K r enc) : Dat K (rTup K r) (fun l => .tuple (l.map enc)) := ⟨fun {F v l} q => by
  obtain ⟨p, vs, rfl, h1, h2, h3⟩ := q
  exact .tup h1 h2 (h.all h3)⟩
theorem datPair {α β : Type} {K : PySem.W.Frag} {r : Rl α} {u : Rl β} {e1 : α → PyData} {e2 : β → PyData} (h1 : Dat K r e1) (h2 : Dat K u e2) : Dat K (rPair K r u) (fun x => .tuple [e1 x.1, e2 x.2]) := ⟨fun {F v l} q => by
  obtain ⟨p, a, b, rfl, k1, k2, k3⟩ := q
  exact .tup k1 (by show (2 : Nat) ≤ sizeLine; decide) (.cons (h1.dp k2) (.cons (h2.dp k3) .nil))⟩
theorem datTrip {α β γ : Type} {K : PySem.W.Frag} {r : Rl α} {u : Rl β} {w : Rl γ} {e1 : α → PyData} {e2 : β → PyData} {e3 : γ → PyData} (h1 : Dat K r e1) (h2 : Dat K u e2) (h3 : Dat K w e3) : Dat K (rTrip K r u w) (fun x => .tuple [e1 x.1, e2 x.2.1, e3 x.2.2]) := ⟨fun {F v l} q => by
  obtain ⟨p, a, b, c, rfl, k1, k2, k3, k4⟩ := q
  exact .tup k1 (by show (3 : Nat) ≤ sizeLine; decide) (.cons (h1.dp k2) (.cons (h2.dp k3) (.cons (h3.dp k4) .nil)))⟩
theorem datD {K : PySem.W.Frag} : Dat K (rD K) id := ⟨fun h => h⟩
/-! what a law's own comparison asks of data -/
def isND : PyData → Bool
  | .none => true
  | _ => false
inductive DTy where
  | bool | int | str | list | tuple
def DTy.name : DTy → String
  | .bool => "bool"
  | .int => "int"
  | .str => "str"
  | .list => "list"
  | .tuple => "tuple"
inductive DN where
  | non | bool | int | str | list | tuple
def DN.name : DN → String
  | .non => "NoneType"
  | .bool => "bool"
  | .int => "int"
  | .str => "str"
  | .list => "list"
  | .tuple => "tuple"
def isTN : DTy → DN → Bool
  | .bool, .bool => true
  | .int, .bool => true
  | .int, .int => true
  | .str, .str => true
  | .list, .list => true
  | .tuple, .tuple => true
  | _, _ => false
def dn : PyData → DN
  | .none => .non
  | .bool _ => .bool
  | .int _ => .int
  | .str _ => .str
  | .list _ => .list
  | .tuple _ => .tuple
  | .dict _ => .non
def isT (T : DTy) (d : PyData) : Bool := isTN T (dn d)
theorem kit_isTN : ∀ (T : DTy) (n : DN), kitB n.name T.name = some (isTN T n) := by
  intro T n
  cases T <;> cases n <;> decide +kernel
theorem SqT.tyX {K : PySem.W.Frag} {H : Hp} {a : Addr} {xs : List V} (h : SqT K H a xs) : TyX K H (.ref a) (.type "tuple") := by
  rcases h with (h | ⟨o, h⟩) | ⟨o, its, n, h1, h2, h3, h4, h5⟩
  · exact .base (.tup h)
  · exact .fTuple h
  · exact .kTuple h1 h2
theorem Dq.tyX {K : PySem.W.Frag} {F H : Hp} (s : Same F H) {v : V} {d : PyData} (h : Dq K F v d) : TyX K H v (.type (dn d).name) := by
  cases h with
  | non => exact .base .non
  | bl b => exact .base (.bl b)
  | int i => exact .base (.int i)
  | str x k => exact .base (.str x)
  | lst h1 h2 h3 => exact .base (.lst (s _ _ h1))
  | tup h1 h2 h3 => exact SqT.tyX (SqT.same s h1)
section
variable {c : Cf} {Γ : List Sl} {ta tb tc : TE} {α β : Type}
theorem ev_enc {t : TE} {r : Rl α} {enc : α → PyData} {m : PM α} (d : Dat c.K r enc) (h : Ev c Γ t m r) : Ev c Γ t (m >>= fun a => pure (enc a)) (rD c.K) := fun S σ F H p Q g q =>
  h S σ F H p Q g (q.seq fun a p1 v F1 H1 e1 pl1 r1 h1 => h1.now (g.ext e1 pl1).sub pl1 (d.dp r1))
theorem ev_isND {m : PM PyData} (ha : Ev c Γ ta m (rD c.K)) : Ev c Γ (tOp (fun x y H Q => y = .non ∧ Q (.bl (decide (x = .non))) H) ta (tC .non)) (m >>= fun a => pure (isND a)) rBool := fun S σ F H p Q g q =>
  ha S σ F H p _ g (q.seq fun a p1 v F1 H1 e1 pl1 r1 h1 => by
    refine ⟨rfl, h1.now (g.ext e1 pl1).sub pl1 ?_⟩
    have r2 : Dq c.K F1 v a := r1
    cases r2 <;> rfl)
theorem ev_isT (T : DTy) {m : PM PyData} (ha : Ev c Γ ta m (rD c.K)) : Ev c Γ (tCB (rIsi c.K) (tCons ta (tCons (tC (.ty T.name)) tNil))) (m >>= fun a => pure (isT T a)) rBool := fun S σ F H p Q g q =>
  ha S σ F H p _ g (q.seq fun a p1 v F1 H1 e1 pl1 r1 h1 => ⟨v, .ty T.name, _, _, _, rfl, .ty T.name, Dq.tyX (g.ext e1 pl1).sub r1, kit_ty (kit_isTN T (dn a)), h1.now (g.ext e1 pl1).sub pl1 rfl⟩)
/-- two numbers, two texts, two truth values -/
def eqD : PyData → PyData → PM Bool
  | .bool a, .bool b => pure (decide (a = b))
  | .int a, .int b => pure (decide (a = b))
  | .str a, .str b => pure (decide (a = b))
  | _, _ => stuck
theorem dec_V {α : Type} [DecidableEq α] {f : α → V} (hf : ∀ a b, f a = f b ↔ a = b) (a b : α) : decide (f a = f b) = decide (a = b) := by
  by_cases h : a = b
  · rw [decide_eq_true h, decide_eq_true ((hf a b).mpr h)]
  · rw [decide_eq_false h, decide_eq_false fun z => h ((hf a b).mp z)]
theorem ev_eqD {ma mb : PM PyData} (ha : Ev c Γ ta ma (rD c.K)) (hb : Ev c Γ tb mb (rD c.K)) : Ev c Γ (tOp rEq ta tb) (ma >>= fun a => mb >>= fun b => eqD a b) rBool :=
  ev_op ha hb fun a b S σ F H p x y Q gd hx hy q => by
    have hx' : Dq c.K F x a := hx
    have hy' : Dq c.K F y b := hy
    cases hx' with
    | bl a => cases hy' with
      | bl b => exact ⟨rfl, by rw [dec_V (f := V.bl) (fun _ _ => scBool.inj)]; exact q.now gd.sub gd.pl rfl⟩
      | _ => exact q.elim
    | int a => cases hy' with
      | int b => exact ⟨rfl, by rw [dec_V (f := V.int) (fun _ _ => scInt.inj)]; exact q.now gd.sub gd.pl rfl⟩
      | _ => exact q.elim
    | str a _ => cases hy' with
      | str b _ => exact ⟨rfl, by rw [dec_V (f := V.str) (fun _ _ => scStr.inj)]; exact q.now gd.sub gd.pl rfl⟩
      | _ => exact q.elim
    | non => exact q.elim
    | lst _ _ _ => exact q.elim
    | tup _ _ _ => exact q.elim
def itemsD : PyData → Option (List PyData)
  | .list l => some l
  | .tuple l => some l
  | _ => none
def lenD (d : PyData) : PM Int := match itemsD d with
  | some l => pure (l.length : Int)
  | none => stuck
def getD (d : PyData) (i : Int) : PM PyData := match itemsD d with
  | some l => getM l i
  | none => stuck
theorem Dq.items {K : PySem.W.Frag} {F H : Hp} (s : Same F H) {v : V} {d : PyData} {l : List PyData} (h : Dq K F v d) (e : itemsD d = some l) : ∃ p vs, v = .ref p ∧ (SqL K H p vs ∨ SqT K H p vs) ∧ DqAll K F vs l := by
  cases h with
  | lst h1 h2 h3 =>
    obtain rfl := Option.some.inj e
    exact ⟨_, _, rfl, .inl (SqL.of (s _ _ h1)), h3⟩
  | tup h1 h2 h3 =>
    obtain rfl := Option.some.inj e
    exact ⟨_, _, rfl, .inr (SqT.same s h1), h3⟩
  | _ => cases e
theorem ev_lenD {m : PM PyData} (ha : Ev c Γ ta m (rD c.K)) : Ev c Γ (tCB (rLenQ c.K) (tCons ta tNil)) (m >>= fun d => lenD d) rInt := fun S σ F H p Q g q =>
  ha S σ F H p _ g (q.seq fun a p1 v F1 H1 e1 pl1 r1 h1 => by
    unfold lenD at h1
    cases e : itemsD a with
    | none => rw [e] at h1; exact h1.elim
    | some l =>
      rw [e] at h1
      obtain ⟨x, vs, rfl, k1, k2⟩ := Dq.items (g.ext e1 pl1).sub r1 e
      refine ⟨x, vs, rfl, k1, ?_⟩
      rw [k2.length]
      exact h1.now (g.ext e1 pl1).sub pl1 rfl)
theorem ev_ixD {ma : PM PyData} {mb : PM Int} (ha : Ev c Γ ta ma (rD c.K)) (hb : Ev c Γ tb mb rInt) : Ev c Γ (tOp (fun x y H Q => rIxL c.K x y H Q ∨ rIxT c.K x y H Q) ta tb) (ma >>= fun a => mb >>= fun i => getD a i) (rD c.K) :=
  ev_op ha hb fun a i S σ F H p x y Q gd hx hy q => by
    unfold getD at q
    cases e : itemsD a with
    | none => rw [e] at q; exact q.elim
    | some l =>
      rw [e] at q
      obtain ⟨x, vs, rfl, k1, k2⟩ := Dq.items gd.sub hx e
      have q' : Post c σ F H (rD c.K) Q (getM l i p) := q
      unfold getM at q'
      cases e2 : L2.atI l i with
      | none => rw [e2] at q'; exact q'.elim
      | some d =>
        rw [e2] at q'
        have ⟨w, h4, h5⟩ : ∃ w, L2.atI vs i = some w ∧ Dq c.K F w d := by
          unfold L2.atI at e2 ⊢
          rw [k2.length]
          cases z : ixN l.length i with
          | none => rw [z] at e2; cases e2
          | some j =>
            rw [z] at e2
            exact k2.get (i := j) e2
        rcases k1 with k1 | k1
        · exact .inl ⟨x, vs, i, w, rfl, hy, k1, h4, q'.now gd.sub gd.pl h5⟩
        · exact .inr ⟨x, vs, i, w, rfl, hy, k1, h4, q'.now gd.sub gd.pl h5⟩
end
end Kf

set_option maxHeartbeats 4000000
namespace Kf
open PySem PySem.Spec L2
open PyProof.Rows hiding St
section
variable {c : Cf} {Γ : List Sl} {ta tb : TE} {α β γ ρ : Type} {rr : Rr ρ}
theorem es_pre {Δ : List Sl} {t : TS} {m : PM β} {Γ' : β → List Sl} (w : Wk Γ Δ) (h : Es c Δ t m Γ') : Es c Γ t m Γ' := fun S σ F H p D g q => h S σ F H p D (w.good g) q
theorem ef_pre {Δ : List Sl} {t : TS} {m : PM (Fl β ρ)} {Γ' : β → List Sl} (w : Wk Γ Δ) (h : Ef c rr Δ t m Γ') : Ef c rr Γ t m Γ' := fun S σ F H p D g q => h S σ F H p D (w.good g) q
theorem ef_guard {tt : TT} {t u : TS} {mt : PM Bool} {m1 : PM ρ} {m2 : PM (Fl β ρ)} {Γ' : β → List Sl} (ht : Et c Γ tt mt) (h1 : El c rr False Γ t m1) (h2 : Ef c rr Γ u m2 Γ') : Ef c rr Γ (tSeq (tIfS tt t tNext) u) (mt >>= fun b => if b = true then m1 >>= fun a => pure (.rt a) else m2) Γ' := fun S σ F H p D g q =>
  ht S σ F H p _ g (q.seqT g fun a p1 F1 H1 g1 q1 => by
    by_cases hg : a = true
    · rw [if_pos hg] at q1 ⊢
      refine h1 S σ F1 H1 p1 _ g1 (fun z => z.elim) ?_
      rw [run_bind] at q1
      rcases e : m1 p1 with ⟨_ | a, p2⟩
      · rw [e] at q1; rename_i er; cases er <;> exact q1
      · rw [e] at q1; exact q1
    · rw [if_neg hg] at q1 ⊢; exact h2 S σ F1 H1 p1 D g1 q1)
/-! ### membership among flat things -/
theorem All2.memS {r : Rl α} {f : α → V} (sc : Scal r f) [DecidableEq α] {F : Hp} (hf : ∀ a, flatV (f a) = true) (he : ∀ a b, eqV (f a) (f b) = decide (a = b)) : ∀ {vs : List V} {l : List α} (a : α), All2 (r.rel F) vs l → vs.all flatV = true ∧ inV (f a) vs = decide (a ∈ l)
  | _, _, a, .nil => ⟨rfl, by simp [inV]⟩
  | v :: vs, b :: l, a, .cons h t => by
    obtain ⟨k1, k2⟩ := All2.memS sc hf he a t
    have hv := sc.v h
    subst hv
    refine ⟨by rw [List.all_cons, hf, k1]; rfl, ?_⟩
    unfold inV at k2 ⊢
    rw [List.any_cons, k2, he]
    by_cases e : a = b
    · subst e; simp
    · have e' : ¬ b = a := fun z => e z.symm
      simp [e, e']
theorem eqV_str (a b : Str) : eqV (.str a) (.str b) = decide (a = b) := by
  show _ = _
  first | rfl | (unfold eqV; simp)
theorem eqV_int (a b : Int) : eqV (.int a) (.int b) = decide (a = b) := by
  show _ = _
  first | rfl | (unfold eqV; simp)
structure ScalF {α : Type} [DecidableEq α] (r : Rl α) (f : α → V) : Prop extends Scal r f where
  flat : ∀ a, flatV (f a) = true
  eq : ∀ a b, eqV (f a) (f b) = decide (a = b)
theorem sfStr : ScalF rStr V.str := ⟨scStr, fun _ => rfl, eqV_str⟩
theorem sfInt : ScalF rInt V.int := ⟨scInt, fun _ => rfl, eqV_int⟩
theorem ev_inL [DecidableEq α] {r : Rl α} {f : α → V} (sc : ScalF r f) {ma : PM α} {mb : PM (List α)} (ha : Ev c Γ ta ma r) (hb : Ev c Γ tb mb (rList r)) : Ev c Γ (tOp (rIn c.K false) ta tb) (ma >>= fun a => mb >>= fun l => pure (decide (a ∈ l))) rBool :=
  ev_op ha hb fun a l S σ F H p x y Q gd hx hy q => by
    obtain ⟨z, vs, rfl, k1, k2, k3⟩ := rList.of hy
    obtain ⟨j1, j2⟩ := All2.memS sc.toScal sc.flat sc.eq a k3
    rw [sc.v hx]
    refine ⟨z, vs, rfl, .inl (SqL.of (gd.sub _ _ k1)), sc.flat a, j1, ?_⟩
    rw [if_neg Bool.false_ne_true, j2]
    exact q.now gd.sub gd.pl rfl
theorem ev_inT [DecidableEq α] {r : Rl α} {f : α → V} (sc : ScalF r f) {ma : PM α} {mb : PM (List α)} (ha : Ev c Γ ta ma r) (hb : Ev c Γ tb mb (rTup c.K r)) : Ev c Γ (tOp (rIn c.K false) ta tb) (ma >>= fun a => mb >>= fun l => pure (decide (a ∈ l))) rBool :=
  ev_op ha hb fun a l S σ F H p x y Q gd hx hy q => by
    obtain ⟨z, vs, rfl, k1, k2, k3⟩ := hy
    obtain ⟨j1, j2⟩ := All2.memS sc.toScal sc.flat sc.eq a k3
    rw [sc.v hx]
    refine ⟨z, vs, rfl, .inr (SqT.same gd.sub k1), sc.flat a, j1, ?_⟩
    rw [if_neg Bool.false_ne_true, j2]
    exact q.now gd.sub gd.pl rfl
theorem ev_ninL [DecidableEq α] {r : Rl α} {f : α → V} (sc : ScalF r f) {ma : PM α} {mb : PM (List α)} (ha : Ev c Γ ta ma r) (hb : Ev c Γ tb mb (rList r)) : Ev c Γ (tOp (rIn c.K true) ta tb) (ma >>= fun a => mb >>= fun l => pure (!decide (a ∈ l))) rBool :=
  ev_op ha hb fun a l S σ F H p x y Q gd hx hy q => by
    obtain ⟨z, vs, rfl, k1, k2, k3⟩ := rList.of hy
    obtain ⟨j1, j2⟩ := All2.memS sc.toScal sc.flat sc.eq a k3
    rw [sc.v hx]
    refine ⟨z, vs, rfl, .inl (SqL.of (gd.sub _ _ k1)), sc.flat a, j1, ?_⟩
    rw [if_pos rfl, j2]
    exact q.now gd.sub gd.pl rfl
theorem ev_ninT [DecidableEq α] {r : Rl α} {f : α → V} (sc : ScalF r f) {ma : PM α} {mb : PM (List α)} (ha : Ev c Γ ta ma r) (hb : Ev c Γ tb mb (rTup c.K r)) : Ev c Γ (tOp (rIn c.K true) ta tb) (ma >>= fun a => mb >>= fun l => pure (!decide (a ∈ l))) rBool :=
  ev_op ha hb fun a l S σ F H p x y Q gd hx hy q => by
    obtain ⟨z, vs, rfl, k1, k2, k3⟩ := hy
    obtain ⟨j1, j2⟩ := All2.memS sc.toScal sc.flat sc.eq a k3
    rw [sc.v hx]
    refine ⟨z, vs, rfl, .inr (SqT.same gd.sub k1), sc.flat a, j1, ?_⟩
    rw [if_pos rfl, j2]
    exact q.now gd.sub gd.pl rfl
/-! ### truth -/
def tTruth (K : PySem.W.Frag) (ta : TE) : TT := fun σ H Q => ta σ H fun x H' => ∃ k, TruV K x H' k ∧ Q k H'
theorem et_truL {r : Rl α} {ma : PM (List α)} (ha : Ev c Γ ta ma (rList r)) : Et c Γ (fun σ H Q => ta σ H fun x H' => ∃ k, TruV c.K x H' k ∧ Q k H') (ma >>= fun l => pure (!l.isEmpty)) := fun S σ F H p Q g q =>
  ha S σ F H p _ g (q.seq fun a p1 v F1 H1 e1 pl1 r1 h1 => by
    obtain ⟨z, vs, rfl, k1, k2, k3⟩ := rList.of r1
    refine ⟨_, .inl ⟨vs, SqL.of ((g.ext e1 pl1).sub _ _ k1), rfl⟩, ?_⟩
    have e : vs.isEmpty = a.isEmpty := by cases k3 <;> rfl
    rw [e]
    exact Post.now (v := V.bl (!a.isEmpty)) h1 (g.ext e1 pl1).sub pl1 rfl _ rfl)
theorem et_truT {r : Rl α} {ma : PM (List α)} (ha : Ev c Γ ta ma (rTup c.K r)) : Et c Γ (fun σ H Q => ta σ H fun x H' => ∃ k, TruV c.K x H' k ∧ Q k H') (ma >>= fun l => pure (!l.isEmpty)) := fun S σ F H p Q g q =>
  ha S σ F H p _ g (q.seq fun a p1 v F1 H1 e1 pl1 r1 h1 => by
    obtain ⟨z, vs, rfl, k1, k2, k3⟩ := r1
    refine ⟨_, .inr (.inl ⟨vs, SqT.same (g.ext e1 pl1).sub k1, rfl⟩), ?_⟩
    have e : vs.isEmpty = a.isEmpty := by cases k3 <;> rfl
    rw [e]
    exact Post.now (v := V.bl (!a.isEmpty)) h1 (g.ext e1 pl1).sub pl1 rfl _ rfl)
theorem et_truO (i : Nat) {r : Rl α} {l : List α} (h : nth Γ i = .own (oList r) l) : Et c Γ (fun σ H Q => tVar i σ H fun x H' => ∃ k, TruV c.K x H' k ∧ Q k H') (pure (!l.isEmpty)) := fun S σ F H p Q g q => by
  obtain ⟨x, ho, h1, h2, ⟨vs, rfl, k2, k3⟩, _⟩ := g.sl.own h
  refine ⟨_, h1, _, .inl ⟨vs, SqL.of h2, rfl⟩, ?_⟩
  have e : vs.isEmpty = l.isEmpty := by cases k3 <;> rfl
  rw [e]
  exact Post.now (v := V.bl (!l.isEmpty)) q g.sub g.pl rfl _ rfl
/-- an item of an own list -/
theorem ev_ixO (i : Nat) {r : Rl α} {l : List α} (h : nth Γ i = .own (oList r) l) {mb : PM Int} (hb : Ev c Γ tb mb rInt) : Ev c Γ (tOp (rIxL c.K) (tVar i) tb) (mb >>= fun k => getM l k) r := fun S σ F H p Q g q => by
  obtain ⟨x, ho, h1, h2, ⟨vs, rfl, k2, k3⟩, hm⟩ := g.sl.own h
  refine ⟨_, h1, hb S σ F H p _ g (q.seq fun a p1 v F1 H1 e1 pl1 r1 h3 => ?_)⟩
  unfold getM at h3
  cases e : L2.atI l a with
  | none => rw [e] at h3; exact h3.elim
  | some b =>
    rw [e] at h3
    obtain ⟨w, h4, h5⟩ := k3.atI e
    have hx : H1 x = some (.lst vs) := e1.keep x _ h2 (g.oq x hm)
    exact ⟨x, vs, a, w, rfl, r1, SqL.of hx, h4, h3.now (g.ext e1 pl1).sub pl1 (r.mono e1.sub h5)⟩
end
end Kf
namespace Kf
open PySem PySem.Spec L2
open PyProof.Rows hiding St
/-- no value of this kind is None -/
structure NN {α : Type} (r : Rl α) : Prop where
  ne : ∀ {F v a}, r.rel F v a → v ≠ .non
theorem nnInt : NN rInt := ⟨fun h z => by rw [show _ = V.int _ from h] at z; cases z⟩
theorem nnStr : NN rStr := ⟨fun h z => by rw [h.1] at z; cases z⟩
theorem nnFz {α : Type} {r : Ro α} : NN (fz r) := ⟨fun h z => by obtain ⟨p, ho, e, _⟩ := h; rw [e] at z; cases z⟩
theorem nnTup {α : Type} {K : PySem.W.Frag} {r : Rl α} : NN (rTup K r) := ⟨fun h z => by obtain ⟨p, ho, e, _⟩ := h; rw [e] at z; cases z⟩
theorem nnPair {α β : Type} {K : PySem.W.Frag} {r : Rl α} {u : Rl β} : NN (rPair K r u) := ⟨fun h z => by obtain ⟨p, a, b, e, _⟩ := h; rw [e] at z; cases z⟩
theorem nnTrip {α β γ : Type} {K : PySem.W.Frag} {r : Rl α} {u : Rl β} {w : Rl γ} : NN (rTrip K r u w) := ⟨fun h z => by obtain ⟨p, a, b, c, e, _⟩ := h; rw [e] at z; cases z⟩
section
variable {P : Program} {w : World} {K : PySem.W.Frag} {mg : Str → Option Value} {base : Heap} {A α : Type}
theorem never0 {CX : CXT} {f : Addr} {fd : FuncData} {ps : List Str} {ra : Ra A} {m : A → PM α} {r : Rl α} {Γ : A → List Sl} {n : Nat} (hb : Bd ra Γ n) (hn : ps.length = n) (hs : ∀ a, m a = stuck) : FnOk P w K mg base CX 0 f fd ps (spF K ra m r) := by
  refine ⟨fun vs H Q E h => ?_, fun A outer s H args us vs Q E _ _ _ _ h => ?_⟩
  · obtain ⟨F, a, p, _, h2, _⟩ := h
    rw [(hb F H vs a 0 h2).1, hn]
  · obtain ⟨F, a, p, _, _, h⟩ := h
    rw [hs a] at h
    exact h.elim
/-- a def of the law's own makes the pool -/
theorem spPool_len {vs : List V} {H : Hp} {Q : VK} {E : XK} (h : spPool K vs H Q E) : vs.length = 1 := by
  obtain ⟨a, ns, rfl, _⟩ := h
  rfl
end
section
variable {c : Cf} {Γ : List Sl} {ta tb : TE} {α β γ ρ : Type} {r : Rl ρ}
theorem el_nilO {fall : Prop} (hf : fall) : El c (.fz (rOpt r)) fall Γ tNext (pure none) := fun S σ F H p D g k q => k hf σ H (q .non F H g.ent g.pl rfl)
theorem el_retNO {fall : Prop} : El c (.fz (rOpt r)) fall Γ tRetN (pure none) := fun S σ F H p D g _ q => q .non F H g.ent g.pl rfl
theorem el_oneO {t : TS} {m : PM α} {Γ1 : α → List Sl} {fall : Prop} (hf : fall) (h : Es c Γ t m Γ1) : El c (.fz (rOpt r)) fall Γ t (m >>= fun _ => pure none) := fun S σ F H p D g k q =>
  h S σ F H p D g (by
    rw [run_bind] at q
    rcases e : m p with ⟨_ | a, p1⟩
    · rw [e] at q; rename_i er; cases er <;> exact q
    · rw [e] at q
      exact fun σ1 F1 H1 g1 => k hf σ1 H1 (q .non F1 H1 g1.ent g1.pl rfl))
theorem el_oneFO {t : TS} {m : PM (Fl α (Option ρ))} {Γ1 : α → List Sl} {fall : Prop} (hf : fall) (h : Ef c (.fz (rOpt r)) Γ t m Γ1) : El c (.fz (rOpt r)) fall Γ t (m >>= orElse fun _ => pure none) := fun S σ F H p D g k q =>
  h S σ F H p D g (by
    rw [run_bind] at q
    rcases e : m p with ⟨_ | a, p1⟩
    · rw [e] at q; rename_i er; cases er <;> exact q
    · rw [e] at q
      cases a with
      | nx b => exact fun σ1 F1 H1 g1 => k hf σ1 H1 (q .non F1 H1 g1.ent g1.pl rfl)
      | rt a => exact q)
end
end Kf

set_option maxHeartbeats 4000000
/-! Kf: own errors whose __init__ says super().__init__('..') and stores its fields. -/
namespace Kf.Er
open PySem PySem.W PySem.Calls PyProof.Rows PySem.HandSPX
/-! ### the text of __init__ -/
def pA (f : Str) (p : Pos) : Arg := { arg := f, annotation := none, pos := p }
def iA (as : List Arg) : Arguments := { posonlyargs := [], args := as, vararg := none, kwonlyargs := [], kw_defaults := [], kwarg := none, defaults := [] }
def iSup (msg : Str) (k : Nat) (a b c d e g : Pos) : Stmt := .Expr (.Call (.Attribute (.Call (.Name "super" a) [] [] b) "__init__" c) [.Constant (.str msg) k d] [] e) g
def iSet (f : Str) (a b c d : Pos) : Stmt := .Assign [.Attribute (.Name "self" a) f b] (.Name f c) d
def iS (fs : List Str) : Scope := { kind := .function, names := ("self", .local) :: (fs.map (fun f => (f, NameKind.local)) ++ [(PySem.Str.ofString "__class__", .free), (PySem.Str.ofString "super", .globalImplicit)]), isGenerator := false, isCoroutine := false, more := [] }
structure IScope (fs : List Str) : Prop where
  fld : ∀ f ∈ fs, (iS fs).names.lookup f = some .local
  sup : (iS fs).names.lookup ("super" : Str) = some .globalImplicit
  cls : (iS fs).names.lookup ("__class__" : Str) = some .free
theorem IScope.self (fs : List Str) : (iS fs).names.lookup ("self" : Str) = some .local := rfl
theorem iS_cell (fs : List Str) : ∀ x ∈ (iS fs).names, x.2 ≠ .cell := by
  intro x hx
  simp only [iS, List.mem_cons, List.mem_append, List.mem_map] at hx
  rcases hx with rfl | ⟨f, _, rfl⟩ | rfl | rfl | h <;> first | (intro z; cases z) | exact absurd h List.not_mem_nil
/-- what the written part says of the class at C, of its __init__ at fI, of the cell at cc -/
structure Txt (K : Frag) (mg : Str → Option Value) (P : Program) (x q : Str) (fs : List Str) (params : Arguments) (body : List Stmt) (C fI cc : Addr) : Prop where
  gC : mg x = some (.ref C)
  cls : ∃ nm q N bs bm sn sub ab col dd k0 k1 k2 k3 k5, K.lookup C = some (excClassObj nm q C N bs bm true sn sub ab col dd k0 k1 k2 k3 k5 "ValueError.__new__") ∧ refsVE bm = true
  sa : findIn K (.ref C) "__setattr__" = some (some (.builtin "object.__setattr__"))
  ga : findIn K (.ref C) "__getattribute__" = some (some (.builtin "BaseException.__getattribute__"))
  gg : findIn K (.ref C) "__getattr__" = some none
  noN : ∀ f ∈ fs, findIn K (.ref C) f = some none
  iC : findIn K (.ref C) "__init__" = some (some (.ref fI))
  tC : typeIn K (.ref fI) = some (.type "function")
  kC : keepIn K (.ref C) = true
  exC : subIn K (.ref C) (.type "BaseException") = some true
  veC : subIn K (.ref C) (.type "ValueError") = some true
  tyC : typeIn K (.ref C) = some (.type "type")
  hdC : hasDictIn K C = true
  mro : mroIn K C (.ref C) = some true
  suI : ks_superIn K C C "__init__" = some (some (.builtin "ValueError.__init__"))
  opq : nsIn K cStatics "thirdparty.any" = some none
  ngs : mg "super" = none
  top : (P.main.scope.names.lookup ("super" : Str)).isSome = false
  cel : ∃ cl cld csl, K.lookup cc = some ⟨cl, cld, .cell (some (.ref C)), csl⟩
  fn : ∃ (oc : Value) (od : Option Addr) (doc pm : Value) (an : Option Addr) (cda : Addr) (ct : Value) (osl : Array (Option Value)) (ccl : Value) (cdd : Option Addr) (vs : Array Value) (ccs : Array (Option Value)) (file : Str) (tf : Tok),
    K.lookup fI = some ⟨oc, od, .func (fnX "__init__" q params body (iS fs) [("__class__", cc)] .none .none doc pm an (.ref cda) ct), osl⟩ ∧ codeIn K (.ref cda) q = true ∧ K.lookup cda = some ⟨ccl, cdd, .fields vs, ccs⟩ ∧ vs[2]? = some (.str file tf) ∧ ((P.main.file : Str) == file) = true
theorem one_size (v : Value) : [v].length ≤ sizeLine := by
  rw [sizeLine_eq]
  exact (by decide : 1 ≤ 16777216)
section
variable {prog : Program} {w : World} {A : Around} {E : Value → Shared → Prop} {R : Result → Shared → Prop} {s : Shared} {K : Frag} {mg : Str → Option Value} {x q : Str} {fs : List Str} {params : Arguments} {body : List Stmt} {C fI cc : Addr} {base : Heap}
/-- the call's node, its line told -/
def SupEq (fs : List Str) (msg : Str) (k : Nat) (a b c d e : Pos) : Prop := ∀ (q : Str) (L fI cda cc : Addr), eval (.Call (.Attribute (.Call (.Name "super" a) [] [] b) "__init__" c) [.Constant (.str msg) k d] [] e) (ksEnv q (iS fs) L fI (.ref cda) cc) = (do
  let ov ← attributeBase (.Call (.Name "super" a) [] [] b) "__init__" (ksEnv q (iS fs) L fI (.ref cda) cc) (eval (.Call (.Name "super" a) [] [] b) (ksEnv q (iS fs) L fI (.ref cda) cc))
  standAt c.atName
  let (f, first) ← holding [ov] (getMethod ov "__init__" (do return (← importBound (.Call (.Name "super" a) [] [] b) (ksEnv q (iS fs) L fI (.ref cda) cc)).getD true))
  callWith e f first (backTo e (starEach [.Constant (.str msg) k d] (ksEnv q (iS fs) L fI (.ref cda) cc))) [])
/-- super().__init__('..') in such an __init__ -/
theorem sup_run (T : Txt K mg prog x q fs params body C fI cc) (IS : IScope fs) {msg : Str} {k : Nat} {a b c d e g : Pos} {L z t0 : Addr} {m : Str → Option Value} {cda : Addr} {doc pm ct oc : Value} {od an : Option Addr} {osl : Array (Option Value)} {ccl : Value} {cdd : Option Addr} {vs : Array Value} {ccs : Array (Option Value)} {file : Str} {tf : Tok} {Q : Flow → Shared → Prop} {ar : List Arg} {p1 : Pos}
    (hse : SupEq fs msg k a b c d e) (hp : params = iA (pA "self" p1 :: ar))
    (hf : K.lookup fI = some ⟨oc, od, .func (fnX "__init__" q params body (iS fs) [("__class__", cc)] .none .none doc pm an (.ref cda) ct), osl⟩) (hcd : K.lookup cda = some ⟨ccl, cdd, .fields vs, ccs⟩) (hvs : vs[2]? = some (.str file tf)) (hfl : ((prog.main.file : Str) == file) = true)
    (M : L2.Mod K mg base) (kb : ∀ b o, base.get? b = some o → s.heap.get? b = some o) (hn : s.heap.Ns L m) (hs : m "self" = some (.ref z)) (hz : s.heap.get? z = some (excO C t0))
    (h : ∀ h' tk t1, (∀ b o, b ≠ z → s.heap.get? b = some o → h'.get? b = some o) → h'.get? z = some (excO C t1) → Q .next { s with heap := h', toks := tk }) :
    _root_.PySem.wpAt (model prog w) A (.func body (ksEnv q (iS fs) L fI (.ref cda) cc)) (exec (iSup msg k a b c d e g) (ksEnv q (iS fs) L fI (.ref cda) cc)) Q E s := by
  obtain ⟨nm, qq, N, bs, bm, sn, sub, ab, col, dd, k0, k1, k2, k3, k5, hC, hbm⟩ := T.cls
  have hcl : clsIn K C = some { name := nm, bases := bs, mro := .ref C :: bm, ns := N, qualname := qq, hasDict := true, slotNames := sn, subclasses := sub, abstract := ab, collection := col, hasDel := false } := by unfold clsIn; rw [hC] <;> rfl
  have X : K.In s.heap := M.kin.keeps kb
  obtain ⟨mb, hb1, hb2⟩ := M.blt
  obtain ⟨cl, cld, csl, hcell⟩ := T.cel
  have hks : (ksEnv q (iS fs) L fI (.ref cda) cc).kindOf "super" = some .globalImplicit := IS.sup
  have hkc : (ksEnv q (iS fs) L fI (.ref cda) cc).kindOf "__class__" = some .free := IS.cls
  have hzC : z ≠ C := by
    rintro rfl
    have e1 := X _ _ hC
    rw [hz] at e1
    have e2 := congrArg Obj.data (Option.some.inj e1)
    cases e2
  refine ks_wpAt_Expr_any (ks_wpAt_MethodCall ?_ (hse _ _ _ _ _))
  obtain ⟨hh, gg, dr, tt, os⟩ := s
  refine ks_wpAt_super_base (env := ksEnv q (iS fs) L fI (.ref cda) cc) (ar := pA "self" p1) hks hkc rfl rfl (X _ _ hf) rfl (by rw [hp]; rfl) rfl (X _ _ hcd) rfl hvs hfl T.top ?_
  refine ks_loadName_global rfl IS.sup (loadGlobal_builtin (env := ksEnv q (iS fs) L fI (.ref cda) cc) (M.glob.keeps kb) T.ngs (hb1.keeps kb) ((hb2 "super" (by decide)).trans PyProof.Rows.Boot.«super») ⟨rfl, ?_⟩)
  refine wpAny_loadName_free rfl hkc rfl ⟨_, X _ _ hcell, rfl⟩ ?_
  refine wpAny_loadName_local rfl (IScope.self fs) hn hs ?_
  refine ks_wpAny_isType_cls (X _ _ hC) rfl ⟨rfl, ?_⟩
  refine ks_wpAny_call_super (X _ _ hC) rfl hz rfl (fun c e => by cases e) (looks_mroIn X T.mro) (fun h1 e1 k1 => ?_)
  have X1 : K.In h1 := X.keeps k1
  have hz1 := k1 _ _ hz
  have IA : InstAt h1 z (excO C t0) C none := ⟨hz1, rfl, rfl, trivial⟩
  have hsu := T.suI
  unfold ks_superIn at hsu
  rw [hcl] at hsu
  refine kxs_getMethod kxs_ValueError e1 (looks_opaque X1 T.opq) (l₀ := .ref C :: bm) ?_ rfl X1 hsu (IA.type.andThen (looks_subIn X1 T.veC)) hzC rfl ?_
  · exact fun A Q E s k q => wpAny_bind ((looks_clsIn X1 hcl) A _ E s k (wpAny_pure q))
  have hu : (h1.push (kxs_mw "ValueError.__init__" z)).get? h1.objs.size = some (kxs_mw "ValueError.__init__" z) := Heap.get?_push_at rfl rfl
  have k2 : ∀ b o, h1.get? b = some o → (h1.push (kxs_mw "ValueError.__init__" z)).get? b = some o := fun b o e => Heap.get?_push_of_some _ e
  refine kxs_callWith (i := "ValueError.__init__") (x := z) rfl ?_
  refine evalArgs_plain ?_
  refine spliced_cons (Calls.Constant_str (k := k) (pos := d) (spliced_nil ⟨hu, ?_⟩))
  have hz2 := k2 _ _ hz1
  have hC2 := k2 _ _ (X1 _ _ hC)
  refine wpAny_call (codeAny_of_tree ?_)
  show wpAny _ A.in1 (callAny (.ref h1.objs.size) ⟨_, []⟩) _ _ _
  simp only [callAny]
  refine wpAny_bind (wpAny_load hu ?_)
  simp only [kxs_mw, show (Value.type "method-wrapper" == Value.type "method" || Value.type "method-wrapper" == Value.type "builtin_function_or_method" || Value.type "method-wrapper" == Value.type "method-wrapper") = true by decide, if_true]
  refine KFB.if_so (by decide) ?_
  refine wpAny_bind (check_bound_init F.excBase_ValueError.toExcCallFacts hC2 hz2 rfl ?_)
  refine wpAny_bind (wpAny_pure (wpAny_pure ?_))
  refine ⟨plainId_quiet F.excBase_ValueError.init.plain _, codeAny_builtin F.excBase_ValueError.initEntry ?_⟩
  refine exc_init_tree (cls := .ref C) (t0 := t0) (dv := none) (c2 := .none) (c3 := .none) (b4 := .bool false) hz2 (one_size _) fun h3 k3 hz3 _ => ?_
  exact h h3 _ _ (fun b o hb e => k3 b o hb (k2 b o (k1 b o e))) hz3
/-- what __init__ leaves of a fresh exception at z -/
structure Left (h h' : Heap) (z C t1 : Addr) (dx : Option Addr) (fv : List (Str × Value)) : Prop where
  keep : ∀ b o, b ≠ z → h.get? b = some o → h'.get? b = some o
  obj : h'.get? z = some { cls := .ref C, dict := dx, data := .fields #[.ref t1, .none, .none, .none, .bool false, .none] }
  big : ∀ d, dx = some d → h.objs.size ≤ d ∧ d ≠ z ∧ h'.Ns1 d (fun y => fv.lookup y)
  none : dx = none → fv = []
theorem ld {M : Model} {env : Env} {L : Addr} {m : Str → Option Value} {x : Str} {pos : Pos} {v : Value} {Q : Value → Shared → Prop} (hk : env.scope.kind = .function) (hl : env.kindOf x = some .local) (hL : env.locals = L) (hn : s.heap.Ns L m) (hv : m x = some v) (hd : (x == ("__debug__" : Str)) = false) (h : Q v s) :
    wpAny M A (eval (.Name x pos) env) Q E s := wpAny_Name (wpAny_loadName_local hk hl (hL ▸ hn) hv h) hd
theorem ns_but {h h' : Heap} {L z : Addr} {m : Str → Option Value} (hn : h.Ns L m) (hz : L ≠ z) (k : ∀ b o, b ≠ z → h.get? b = some o → h'.get? b = some o) : h'.Ns L m := hn.at fun o e => k _ _ hz e
/-- the text of such an __init__ with one field -/
structure Shape1 (q f : Str) (params : Arguments) (body : List Stmt) : Prop where
  isc : IScope [f]
  txt : ∃ (msg : Str) (k : Nat) (a b c d e g q1 q2 q3 q4 p1 p2 : Pos), body = [iSup msg k a b c d e g, iSet f q1 q2 q3 q4] ∧ params = iA [pA "self" p1, pA f p2] ∧ SupEq [f] msg k a b c d e ∧ (∀ (L fI cda cc : Addr), swapsWith (.Name f q3) (some (.Attribute (.Name "self" q1) f q2)) q4.line (ksEnv q (iS [f]) L fI (.ref cda) cc) = pure false)
  fs : (f == ("self" : Str)) = false
  fd : (f == ("__debug__" : Str)) = false
  bd : ∀ (doc pm : Value) (an : Option Addr) (cdv ct : Value) (cc : Addr) (z v : Value), bindArgs (ksFn "__init__" q params body (iS [f]) .none .none doc pm an cdv ct cc) ⟨[z, v], []⟩ = pure [(("self" : Str), z), (f, v)]
theorem init1 {f : Str} (T : Txt K mg prog x q [f] params body C fI cc) (S : Shape1 q f params body) {z t0 : Addr} {v : Value} (M : L2.Mod K mg base) (kb : ∀ b o, base.get? b = some o → s.heap.get? b = some o) (hlim : s.heap.NoLimit) (hz : s.heap.get? z = some (excO C t0)) (nz : base.get? z = none) (hroom : A.depth < recursionLimit)
    (hq : ∀ h' tk dx t1, Left s.heap h' z C t1 (some dx) [(f, v)] → R (.ok (.ret .none)) { s with heap := h', toks := tk }) :
    codeAny (model prog w) A (.call (.ref fI) ⟨[.ref z, v], []⟩) R s := by
  obtain ⟨oc, od, doc, pm, an, cda, ct, osl, ccl, cdd, vs, ccs, file, tf, ho, hci, hcd, hvs, hfl⟩ := T.fn
  obtain ⟨nm, qq, N, bs, bm, sn, sub, ab, col, dd, k0, k1, k2, k3, k5, hC, hbm⟩ := T.cls
  have hcl : clsIn K C = some { name := nm, bases := bs, mro := .ref C :: bm, ns := N, qualname := qq, hasDict := true, slotNames := sn, subclasses := sub, abstract := ab, collection := col, hasDel := false } := by unfold clsIn; rw [hC] <;> rfl
  obtain ⟨msg, k, a, b, c, d, e, g, q1, q2, q3, q4, p1, p2, hb, hp, hse, hsw⟩ := S.txt
  have X : K.In s.heap := M.kin.keeps kb
  refine ks_codeAny_call_defAt (fd := ksFn "__init__" q params body (iS [f]) .none .none doc pm an (.ref cda) ct cc) (body := body) (binds := [("self", .ref z), (f, v)]) hroom (X _ _ ho) rfl hlim (codeRec_of X hci) rfl (BindsTo.of_eq (S.bd _ _ _ _ _ _ _ _)) (iS_cell _) (fun y hy => ?_) (fun h₁ hns hk₁ => ?_)
  · rcases List.mem_cons.mp hy with rfl | hy
    · exact IScope.self _
    · rcases List.mem_cons.mp hy with rfl | hy
      · exact S.isc.fld f List.mem_cons_self
      · cases hy
  have hfs := S.fs
  have hzL : s.heap.objs.size ≠ z := Nat.ne_of_gt (Heap.lt_size hz)
  have eS : List.lookup ("self" : Str) (List.reverse [(("self" : Str), Value.ref z), (f, v)]) = some (.ref z) := by
    have e1 : (("self" : Str) == f) = false := by rw [beq_eq_false_iff_ne] at hfs ⊢; exact fun y => hfs y.symm
    simp [List.lookup, e1]
  have eF : List.lookup f (List.reverse [(("self" : Str), Value.ref z), (f, v)]) = some v := by simp [List.lookup]
  have hz₁ := hk₁ _ _ hz
  have zlt : s.heap.objs.size < h₁.objs.size := hns.lt
  show _root_.PySem.wpAt (model prog w) (A.deeper (ksEnv q (iS [f]) s.heap.objs.size fI (.ref cda) cc)) (.func body (ksEnv q (iS [f]) s.heap.objs.size fI (.ref cda) cc)) (execs body (ksEnv q (iS [f]) s.heap.objs.size fI (.ref cda) cc)) _ _ _
  rw [show execs body = execs [iSup msg k a b c d e g, iSet f q1 q2 q3 q4] by rw [hb]]
  refine ks_wpAt_execs_cons (sup_run (s := ⟨h₁, s.gens, s.drawn, s.toks + 2, s.os⟩) T S.isc hse hp ho hcd hvs hfl M (fun b o y => hk₁ _ _ (kb _ _ y)) hns eS hz₁ fun h₂ tk₂ t1 k₂ hz₂ => wpAt_of_wpAny ?_)
  have X₂ : K.In h₂ := fun a o y => k₂ _ _ (fun w => by
    have := M.kin _ _ y
    rw [w, nz] at this
    cases this) (hk₁ _ _ (X _ _ y))
  have hn₂ : h₂.Ns s.heap.objs.size _ := ns_but hns hzL k₂
  refine wpAny_execs_cons (plainObj_wpAny_Assign_Attribute ?_ (hsw _ _ _ _))
  refine ld (L := s.heap.objs.size) rfl (S.isc.fld f List.mem_cons_self) rfl hn₂ eF S.fd (ld (L := s.heap.objs.size) rfl (IScope.self _) rfl hn₂ eS (by decide) ?_)
  refine set_plain X₂ (ox := excO C t1) (od := none) ⟨hz₂, rfl, rfl, trivial⟩ T.sa ?_
  refine exc_osa X₂ hz₂ hcl (show refsVE (.ref C :: bm) = true from hbm) rfl (T.noN f List.mem_cons_self) (fun h₃ tk₃ dx k₃ dn dne hz₃ hn₃ => ?_)
  refine wpAny_execs_nil (hq h₃ tk₃ dx t1 ⟨fun b o hb y => k₃ b o hb (k₂ b o hb (hk₁ b o y)), hz₃, fun d hd => ?_, fun y => by cases y⟩)
  cases hd
  have el : (fun y => if y = f then some v else none) = (fun y => List.lookup y [(f, v)]) := by
    funext y
    by_cases h : y = f
    · subst h; simp [List.lookup]
    · have e1 : (y == f) = false := by simpa using h
      simp [List.lookup, h, e1]
  exact ⟨Nat.le_of_lt (Nat.lt_of_lt_of_le hn₂.lt dn), dne, el ▸ hn₃⟩
/-- a made error -/
structure Made (h h' : Heap) (e C : Addr) (d : Option Addr) (fv : List (Str × Value)) : Prop where
  keep : ∀ b o, h.get? b = some o → h'.get? b = some o
  new : h.objs.size ≤ e
  obj : ∃ oe vs, h'.get? e = some oe ∧ oe.cls = .ref C ∧ oe.dict = d ∧ oe.data = .fields vs ∧ vs[1]? = some .none ∧ vs[2]? = some .none
  big : ∀ x, d = some x → h.objs.size ≤ x ∧ x ≠ e ∧ h'.Ns1 x (fun y => fv.lookup y)
  none : d = none → fv = []
theorem made {us : List Value} {fv : List (Str × Value)} (T : Txt K mg prog x q fs params body C fI cc) (M : L2.Mod K mg base) (kb : ∀ b o, base.get? b = some o → s.heap.get? b = some o) (hlim : s.heap.NoLimit) (hus : us.length ≤ sizeLine)
    (init : ∀ {A : Around} {R : Result → Shared → Prop} {s : Shared} {z t0 : Addr}, (∀ b o, base.get? b = some o → s.heap.get? b = some o) → s.heap.NoLimit → s.heap.get? z = some (excO C t0) → base.get? z = none → A.depth < recursionLimit →
      (∀ h' tk dx t1, Left s.heap h' z C t1 dx fv → R (.ok (.ret .none)) { s with heap := h', toks := tk }) → codeAny (model prog w) A (.call (.ref fI) ⟨.ref z :: us, []⟩) R s)
    (hroom : A.depth + 1 < recursionLimit) (hq : ∀ h' tk e d, Made s.heap h' e C d fv → R (.ok (.ret (.ref e))) { s with heap := h', toks := tk }) :
    codeAny (model prog w) A (.call (.ref C) ⟨us, []⟩) R s := by
  obtain ⟨nm, qq, N, bs, bm, sn, sub, ab, col, dd, k0, k1, k2, k3, k5, hC, hbm⟩ := T.cls
  have X : K.In s.heap := M.kin.keeps kb
  obtain ⟨hp, g, dr, tk, os⟩ := s
  have k : ∀ b o, hp.get? b = some o → ((hp.push (kdv_tup us)).push (excO C hp.objs.size)).get? b = some o := fun b o e => Heap.get?_push_of_some _ (Heap.get?_push_of_some _ e)
  have hget : ((hp.push (kdv_tup us)).push (excO C hp.objs.size)).get? (hp.objs.size + 1) = some (excO C hp.objs.size) := by heap_get
  have nz : base.get? (hp.objs.size + 1) = none := by
    cases e : base.get? (hp.objs.size + 1) with
    | none => rfl
    | some o => exact absurd (Nat.lt_of_succ_lt (Heap.lt_size (kb _ _ e))) (Nat.lt_irrefl _)
  refine call_own F.excBase_ValueError (fun Y => refsVE_contains Y bm hbm) (X _ _ hC) (looks_findIn X T.iC) (fun self => bind_fn X self T.tC) hus ?_
  refine init (s := ⟨(hp.push (kdv_tup us)).push (excO C hp.objs.size), g, dr, tk, os⟩) (fun b o y => k _ _ (kb _ _ y)) (hlim.keeps k) hget nz ?_ fun h' tk' dx t1 L => ?_
  · show A.depth + 1 < recursionLimit
    exact hroom
  · have old : ∀ b o, hp.get? b = some o → h'.get? b = some o := fun b o e => L.keep b o (Nat.ne_of_lt (Nat.lt_succ_of_lt (Heap.lt_size e))) (k b o e)
    refine ⟨rfl, hq h' tk' (hp.objs.size + 1) dx ⟨old, Nat.le_succ _, ⟨_, _, L.obj, rfl, rfl, rfl, rfl, rfl⟩, fun d hd => ?_, L.none⟩⟩
    obtain ⟨b1, b2, b3⟩ := L.big d hd
    refine ⟨?_, b2, b3⟩
    have b1' : ((hp.push (kdv_tup us)).push (excO C hp.objs.size)).objs.size ≤ d := b1
    rw [Heap.size_push, Heap.size_push] at b1'
    show hp.objs.size ≤ d
    omega
end
end Kf.Er
namespace Kf
open PySem PySem.Spec L2
open PyProof.Rows hiding St
open PySem.HandSPX (exc_get)
section
variable {X : Cx} {C fI cc : Addr} {x q f : Str} {params : Arguments} {body : List Stmt}
/-- C(e), C an own error with one field f -/
def tMk1 (C : Addr) (f : Str) (ta : TA) : St → Hp → XK → Prop := fun σ H Q => ta σ H fun vs H1 => ∃ v, vs = [v] ∧ ∀ d, H1 d = none → Q (.ref C) (some d) (upd H1 d (.xd [(f, v)]))
theorem relO_one {f : Str} {v : V} {u : Value} (r : RelV v u) (g : Str) : RelO (List.lookup g [(f, v)]) (List.lookup g [(f, u)]) := by
  simp only [List.lookup]
  cases (g == f)
  · trivial
  · exact r
theorem pmk1 {a : Expr} {ta : TA} {p pos : Pos} {k : Nat} (T : Er.Txt X.K X.mg X.prog x q [f] params body C fI cc) (S : Er.Shape1 q f params body) (hr : Room k X.A) (ha : PA X [a] ta) (hg : Gl X x) (hd : (x == ("__debug__" : Str)) = false := by decide)
    (he : starEach (a :: []) X.env = (false, eval a X.env) :: starEach [] X.env := by rfl) (hpl : (backTo pos (starEach [] X.env)).any (·.1) = false := by rfl) :
    L2N.PMk X (.Call (.Name x p) [a] [] pos) (tMk1 C f ta) := by
  intro pins s σ H Q I h
  refine wpAny_Call_Name_kw (ld_glob I hg T.gC ?_ hd)
  refine PySem.W.callWith_K (h₀ := X.base) I.ok.mod.kin T.kC (thn (ha.run pos pins s σ H _ I h) fun us s1 hh => ?_) he hpl
  obtain ⟨vs, H1, I1, r1, v, ev, q1⟩ := hh
  subst ev
  refine ⟨I1.kIn, ?_⟩
  cases r1 with
  | cons rv rn =>
    rename_i v' us'
    cases rn
    show wpAny _ _ (call (.ref C) [v']) _ _ _
    have hlim := I1.nolimit
    have hbk := I1.bk
    obtain ⟨hp, g, dr, tk, os⟩ := s1
    refine wpAny_call (Er.made (fv := [(f, v')]) T I1.ok.mod hbk hlim (Er.one_size _) (fun kb hl hz nz hroom hq => Er.init1 T S I1.ok.mod kb hl hz nz hroom fun h' tk dx t1 L => hq h' tk (some dx) t1 L) (by have := hr.dp; omega) fun h' tk' e d M => ?_)
    show L2N.MkP X pins σ Q (.ref e) ⟨h', g, dr, tk', os⟩
    obtain ⟨oe, fv, hoe, hc, hd', hdat, h1, h2⟩ := M.obj
    cases d with
    | none => exact absurd (M.none rfl) (by simp)
    | some d =>
    obtain ⟨b1, b2, b3⟩ := M.big d rfl
    obtain ⟨G', g1, g2⟩ := restrict h' fun b => decide (b ≠ e)
    have gk : ∀ b, b ≠ e → G'.get? b = h'.get? b := fun b hb => g1 b (decide_eq_true hb)
    have ge : G'.get? e = none := g2 e (by simp)
    have old : ∀ b o, hp.get? b = some o → G'.get? b = some o := fun b o y => (gk b (Nat.ne_of_lt (Nat.lt_of_lt_of_le (Heap.lt_size y) M.new))).trans (M.keep b o y)
    have ob : ObjOk X.prog X.w (upd H1 d (.xd [(f, v)])) G' d (.xd [(f, v)]) := ⟨_, b3.at (fun o y => (gk d b2).trans y), fun g => relO_one rv g⟩
    have J : Inv X pins σ (upd H1 d (.xd [(f, v)])) ⟨G', g, dr, tk', os⟩ := I1.laid (t' := tk') old b1 ob
    refine ⟨e, oe, fv, ⟨G', g, dr, tk', os⟩, _, .ref C, some d, rfl, J, fun b o y => ?_, ge, hoe, ⟨hc, hd', fun vs y => by rw [hdat] at y; cases y; exact h2⟩, hdat, h1, ?_, rfl, I1.bare, raises_own T.exC T.tyC, q1 d (I1.hok.fresh b1)⟩
    · by_cases hb : b = e
      · have y' : G'.get? b = some o := y
        rw [hb, ge] at y'
        cases y'
      · exact (gk b hb).symm.trans y
    · rw [upd_ne (Ne.symm b2)]
      exact I1.hok.fresh M.new
end
end Kf

set_option maxHeartbeats 4000000
/-! Kf: raise, try, except suites -/
namespace Kf
open PySem PySem.Spec L2
open PyProof.Rows hiding St
/-! ### raise X(e) -/
section
variable {c : Cf} {Γ : List Sl} {ta tb : TE} {α β γ ρ : Type} {rr : Rr ρ}
theorem el_raise1 {x f : Str} {r : Rl α} {m : PM α} {e : α → PyData} {fall : Prop} (de : Dat c.K r e) (h : Ev c Γ ta m r) :
    El c rr fall Γ (fun _ σ H => tMk1 (He.ga c.K x) f (tCons ta tNil) σ H fun cls d H' => c.W cls d σ H') (m >>= fun a => raise ⟨x, .one f (e a)⟩) := fun S σ F H p D g _ q =>
  h S σ F H p _ g (q.seqE g fun a p1 v F1 H1 g1 _ r1 h1 => ⟨v, rfl, fun d hd => by
    have e1 : Ext c.q F1 H1 (upd F1 d (.xd [(f, v)])) (upd H1 d (.xd [(f, v)])) := (Ext.new' g1.sub hd).widen
    refine h1 (.ref (He.ga c.K x)) (some d) σ _ _ (g1.ent.tr e1 g1.pl) (g1.pl.up (Ext.new' g1.sub hd)) (g1.gx.mono e1.sub) ⟨rfl, d, v, rfl, upd_same, Dq.mono e1.sub _ _ (de.dp r1)⟩⟩)
end
/-! ### try: .. except T as e: .. -/
theorem takesN {X : Cx} : L2N.Takes X (fun _ _ _ _ => False) := fun _ _ x => by
  obtain ⟨a, B, sI, pins, σ, H, cls, d, e, I, nb, up, sky, na, os, ag, w⟩ := x
  exact w.elim
/-- the class c is t, or below it (of the program's errors: all are made over KindError, ValueError) -/
def errSub (c t : Str) : Bool := decide (c = t) || decide (t = "KindError") || decide (t = "ValueError")
def tryX {α : Type} (CL : List Str) (T : Str) (m : PM α) (h : Exc → PM α) : PM α := fun p => match m p with
  | (.error (.exc e), p') => (if e.cls ∈ CL then (if errSub e.cls T = true then h e else raise e) else stuck) p'
  | x => x
@[simp] theorem tryX_pure {α : Type} {CL : List Str} {T : Str} {a : α} {h : Exc → PM α} : tryX CL T (pure a) h = pure a := rfl
theorem tryX_raise {α : Type} {CL : List Str} {T : Str} {e : Exc} {h : Exc → PM α} (h1 : e.cls ∈ CL) (h2 : errSub e.cls T = true) : tryX CL T (raise e) h = h e := by
  funext p
  show (if e.cls ∈ CL then (if errSub e.cls T = true then h e else raise e) else stuck) p = _
  rw [if_pos h1, if_pos h2]
/-- what the written part says of an except clause's class; of a class that isinstance asks for -/
def ErrT (K : PySem.W.Frag) (CL : List Str) (T : Str) (Tv : Value) : Prop := ∀ x ∈ CL, PySem.W.exmOne K (.ref (He.ga K x)) Tv = some (errSub x T)
def ErrI (K : PySem.W.Frag) (CL : List Str) (T : Str) (Tv : Value) : Prop := ∀ x ∈ CL, PySem.W.kitOne K (.ref (He.ga K x)) Tv = some (errSub x T)
/-- the caught exception in its slot -/
def rX (K : PySem.W.Frag) (a : Addr) (cls : Value) (d : Option Addr) : Rl Exc := ⟨fun F v e => v = .ref a ∧ ExR K F e cls d, fun s h => ⟨h.1, h.2.mono s⟩⟩
def valB : Sl → Bool
  | .own _ _ => false
  | .res _ => false
  | _ => true
theorem ownA_val : ∀ {G : List Sl} {σ : St}, G.all valB = true → ownA G σ = []
  | [], σ, _ => by cases σ <;> rfl
  | s :: G, [], h => by cases s <;> rfl
  | s :: G, o :: σ, h => by
    have h' : (valB s && G.all valB) = true := h
    rw [Bool.and_eq_true] at h'
    have ih := ownA_val (G := G) (σ := σ) h'.2
    cases s with
    | any => exact ih
    | val _ _ => exact ih
    | own _ _ => exact absurd h'.1 (by simp [valB])
    | res _ => exact absurd h'.1 (by simp [valB])
theorem SlsOk.mk {F H : Hp} : ∀ {G : List Sl} {σ : St}, G.all valB = true → σ.length = G.length → (∀ (i : Nat) (α : Type) (r : Rl α) (a : α), G[i]? = some (.val r a) → ∃ v, σ[i]? = some (some v) ∧ r.rel F v a) → SlsOk F H G σ
  | [], [], _, _, _ => .nil
  | [], _ :: _, _, e, _ => by simp at e
  | _ :: _, [], _, e, _ => by simp at e
  | s :: G, o :: σ, h, e, k => by
    have h' : (valB s && G.all valB) = true := h
    rw [Bool.and_eq_true] at h'
    refine .cons ?_ (SlsOk.mk h'.2 (by simpa using e) fun i α r a z => k (i + 1) α r a z)
    cases s with
    | any => trivial
    | val r a =>
      obtain ⟨v, h1, h2⟩ := k 0 _ r a rfl
      exact ⟨v, by simpa using h1, h2⟩
    | own _ _ => exact absurd h'.1 (by simp [valB])
    | res _ => exact absurd h'.1 (by simp [valB])
theorem SlsOk.len {F H : Hp} : ∀ {Γ : List Sl} {σ : St}, SlsOk F H Γ σ → σ.length = Γ.length
  | _, _, .nil => rfl
  | _, _, .cons _ t => by simp [t.len]
theorem SlsG.of {F H : Hp} {Γ G : List Sl} {σ : St} (w : Wk Γ G) (h : SlsOk F H Γ σ) : SlsG F G σ := by
  have h' := w.sls h
  refine ⟨.inr h'.len, fun i α r a e => ?_⟩
  have : ∀ {G : List Sl} {σ : St} {i : Nat}, SlsOk F H G σ → G[i]? = some (.val r a) → ∃ v, σ[i]? = some (some v) ∧ r.rel F v a := by
    intro G σ i h
    induction h generalizing i with
    | nil => intro e; simp at e
    | @cons s o G σ h t ih =>
      intro e
      cases i with
      | zero =>
        have e' : s = .val r a := by simpa using e
        subst e'
        obtain ⟨v, e1, e2⟩ := h
        exact ⟨v, by simp [e1], e2⟩
      | succ i => 
        obtain ⟨v, e1, e2⟩ := ih (i := i) (by simpa using e)
        exact ⟨v, by simpa using e1, e2⟩
  exact this h' e
/-- with other slots that stand still -/
theorem Good.withG {S : Hp × Hp} {q : Option Addr} {sc : SG} {Γ G : List Sl} {σ : St} {F H : Hp} {p : Pool} (g : Good S q sc Γ σ F H p) (w : SlsG F G σ) : Good S q ⟨sc.a, G, sc.L⟩ Γ σ F H p :=
  ⟨g.sub, g.sl, g.nd, g.of, g.oq, g.os, g.ent, g.pl, w, g.ln⟩
theorem Good.noG {S : Hp × Hp} {q : Option Addr} {sc : SG} {Γ G : List Sl} {σ : St} {F H : Hp} {p : Pool} (g : Good S q ⟨sc.a, G, sc.L⟩ Γ σ F H p) (h : sc.G = []) : Good S q sc Γ σ F H p :=
  ⟨g.sub, g.sl, g.nd, g.of, g.oq, g.os, g.ent, g.pl, by rw [h]; exact .nil, g.ln⟩
section
variable {c : Cf} {Γ : List Sl} {α β γ ρ : Type} {rr : Rr ρ}
/-- the slots behind the suite's beginning -/
theorem good_suite {S : Hp × Hp} {G : List Sl} {σ : St} {F H : Hp} {p : Pool} (hv : G.all valB = true) (hne : G ≠ []) (e : Ext c.q S.1 S.2 F H) (pl : PoolOk c.q c.s F H p) (w : SlsG F G σ) (hl : Same c.s.L S.2 ∧ ∀ x, c.q = some x → c.s.L x = none) : Good S c.q ⟨c.s.a, [], c.s.L⟩ G σ F H p := by
  have hlen := w.1.resolve_left hne
  have no := ownA_val (σ := σ) hv
  exact ⟨e.sub', SlsOk.mk hv hlen w.2, by rw [no]; exact List.nodup_nil, fun a ha => by rw [no] at ha; (cases ha), fun a ha => by rw [no] at ha; (cases ha), fun a ha => by rw [no] at ha; (cases ha), e, pl, .nil, hl⟩
theorem PostF.noxF {S : Hp × Hp} {D : Ends} {Γ' : β → List Sl} {m : PM (Fl β ρ)} {p : Pool} (hq : c.s.G = []) (h : PostF c S rr Γ' D (noX m p)) : PostF c.nox S rr Γ' D (m p) := by
  unfold noX at h
  rcases e : m p with ⟨er | a, p'⟩
  · rw [e] at h
    cases er with
    | stuck => exact h
    | exc ex => exact (show False from h).elim
  · rw [e] at h
    cases a with
    | nx b => exact fun σ' F' H' g => h σ' F' H' (g.noG hq)
    | rt a => exact h
theorem ef_tryAs (i : Nat) {CL : List Str} {T : Str} {Tv : Value} (ET : ErrT c.K CL T Tv) (G : List Sl) (hw : Wk Γ G) (hv : G.all valB = true) (hne : G ≠ []) {tb : WX → TS} {ts : Addr → Value → Option Addr → TS} {m : PM (Fl β ρ)} {h : Exc → PM (Fl β ρ)} {Γ' Γs : β → List Sl}
    (hb : ∀ W, Ef { c with W := W, s := ⟨c.s.a, G, c.s.L⟩ } rr Γ (tb W) m Γ') (hsu : ∀ a cls d ex, Ef c.nox rr (put G i (.val (rX c.K a cls d) ex)) (ts a cls d) (h ex) Γs) (he : ∀ b, put (Γs b) i .any = Γ' b) (hq : c.s.G = [] := by rfl) :
    Ef c rr Γ (fun D σ H => tb (wAs c.K Tv i ts c.W D) D σ H) (tryX CL T m fun e => noX (h e)) Γ' := fun S σ F H p D g q => by
  refine hb _ S σ F H p D (g.withG (.of hw g.sl)) ?_
  unfold tryX at q
  rcases e : m p with ⟨er | a, p'⟩
  · rw [e] at q
    cases er with
    | stuck => exact q
    | exc ex =>
      intro cls d σ' F' H' e' pl sg k
      have q' : PostF c S rr Γ' D ((if ex.cls ∈ CL then (if errSub ex.cls T = true then noX (h ex) else raise ex) else stuck) p') := q
      by_cases hc : ex.cls ∈ CL
      · rw [if_pos hc] at q'
        have k1 := k.1
        refine ⟨errSub ex.cls T, by rw [k1]; exact ET _ hc, fun hb a na => ?_, fun hb => ?_⟩
        · rw [if_pos hb] at q'
          have g0 := good_suite hv hne e' pl sg g.ln
          have g1 := g0.setv i rfl (r := rX c.K a cls d) (a := ex) (v := .ref a) ⟨rfl, k⟩
          have q2 := q'.noxF hq
          refine hsu a cls d ex S _ F' H' p' _ g1 ?_
          rcases e2 : h ex p' with ⟨er | x, p2⟩
          · rw [e2] at q2
            cases er <;> exact q2
          · rw [e2] at q2
            cases x with
            | nx b =>
              intro σ2 F2 H2 g2
              have g3 := g2.seta i rfl (o := none)
              rw [he b] at g3
              exact q2 _ F2 H2 g3
            | rt a => exact q2
        · rw [if_neg (by rw [hb]; simp)] at q'
          exact q' cls d σ' F' H' e' pl (by rw [hq]; exact .nil) k
      · rw [if_neg hc] at q'
        exact q'.elim
  · rw [e] at q
    cases a with
    | nx b => exact fun σ' F' H' g' => q σ' F' H' (g'.noG hq)
    | rt a => exact q
end
/-! ### in an except suite: isinstance(e, T), e.f -/
/-- what the class D must say, so that isinstance asks its instances rightly, and that its fields are read -/
structure ErrC (K : PySem.W.Frag) (D : Addr) : Prop where
  cl : (PySem.W.clsIn K D).isSome = true
  ga : PySem.W.findIn K (.ref D) "__getattribute__" = some (some (.builtin "BaseException.__getattribute__"))
  gg : PySem.W.findIn K (.ref D) "__getattr__" = some none
  ex : PySem.W.subIn K (.ref D) (.type "BaseException") = some true
  hd : PySem.W.hasDictIn K D = true
  ca : PySem.W.findIn K (.ref D) "__class__" = some (some (.builtin "object.__class__"))
  cg : PySem.W.specialIn K (.builtin "object.__class__") "__get__" = some (some (.builtin "getset_descriptor.__get__"))
  ct : PySem.W.takesIn K (.builtin "object.__class__") = some true
  ob : PySem.W.mroIn K D (.type "object") = some true
def dictOk (d : Option Addr) (H : Hp) : Prop := ∀ dx, d = some dx → ∃ fs, H dx = some (.xd fs)
def rIsX (K : PySem.W.Frag) (a : Addr) (cls : Value) (d : Option Addr) : List V → Hp → VK → Prop := fun xs H Q => ∃ (D : Addr) (c : V) (cv : Value) (b : Bool), cls = .ref D ∧ ErrC K D ∧ dictOk d H ∧ xs = [.ref a, c] ∧ (∀ u, RelV c u → u = cv) ∧ PySem.W.kitOne K (.ref D) cv = some b ∧ Q (.bl b) H
theorem call_isX {X : Cx} {a : Addr} {cls : Value} {d : Option Addr} {oe : Obj} {pn : List (Addr × Obj)} (hz : L2N.Zn cls d oe) (hf : ∃ vs, oe.data = .fields vs) : CallR (X.suite a ((a, oe) :: pn)) (.builtin "isinstance") (rIsX X.K a cls d) := by
  intro pins s σ H xs us Q I r h
  obtain ⟨D, c, cv, b, rfl, C, dk, rfl, hcv, e, q⟩ := h
  cases r with
  | cons rx rr =>
    cases rr with
    | cons rt rr =>
      cases rr
      cases rx
      have ec := hcv _ rt
      subst ec
      obtain ⟨hget, _⟩ := I.pin (a, oe) (List.mem_append.mpr (.inl List.mem_cons_self))
      obtain ⟨vs, hv⟩ := hf
      have J : ∃ od, PySem.W.InstAt s.heap a oe D od := by
        obtain ⟨oc, odx, oda, osl⟩ := oe
        obtain ⟨h1, h2, _⟩ := hz
        dsimp only at h1 h2 hv
        subst h1 h2 hv
        cases odx with
        | none => exact ⟨none, hget, rfl, rfl, trivial⟩
        | some dx =>
          obtain ⟨fs, k⟩ := dk dx rfl
          have hx : ObjOk X.prog X.w H s.heap dx (.xd fs) := I.hok dx _ k
          obtain ⟨mA, hns, _⟩ := hx
          obtain ⟨od, ho, _⟩ := lookIn_ns hns
          exact ⟨some od, hget, rfl, rfl, ho⟩
      obtain ⟨od, J⟩ := J
      exact PySem.W.kia_one (PySem.W.kitx_exc C.cl C.ga C.gg C.ex C.ca C.cg C.ct C.ob) I.kIn J e (fun z => nomatch z) fun tk => ⟨.bl b, H, I.kept (t' := tk) fun _ _ z => z, rfl, q⟩
/-- e.f -/
def tFX (K : PySem.W.Frag) (a : Addr) (cls : Value) (d : Option Addr) (f : Str) (te : TE) : TE := fun σ H Q => te σ H fun x H1 => x = .ref a ∧ ∃ (D dd : Addr) (fs : List (Str × V)) (v : V), cls = .ref D ∧ ErrC K D ∧ PySem.W.findIn K (.ref D) f = some none ∧ d = some dd ∧ H1 dd = some (.xd fs) ∧ fs.lookup f = some v ∧ Q v H1
theorem pe_fldX {X : Cx} {a : Addr} {oe : Obj} {cls : Value} {d : Option Addr} {pn : List (Addr × Obj)} {e : Expr} {te : TE} {f : Str} {pos : Pos} (hz : L2N.Zn cls d oe) (hf : ∃ vs, oe.data = .fields vs) (he : PE (X.suite a ((a, oe) :: pn)) e te)
    (hb : attributeBase e f X.env (eval e X.env) = eval e X.env := by rfl) :
    PE (X.suite a ((a, oe) :: pn)) (.Attribute e f pos) (tFX X.K a cls d f te) := by
  refine ⟨fun pins s σ H Q I h => ?_⟩
  refine attr_of hb (thn (he.run pins s σ H _ I h) fun u s1 hh => ?_)
  obtain ⟨x, H1, I1, rx, ex, D, dd, fs, v, ec, C, nf, ed, ea, lv, q⟩ := hh
  subst ex
  obtain rfl : u = Value.ref a := rx
  subst ec
  subst ed
  obtain ⟨ha, _⟩ := I1.pin (a, oe) (List.mem_append_left _ List.mem_cons_self)
  obtain ⟨vs, hd⟩ := hf
  have hx : ObjOk X.prog X.w H1 s1.heap dd (.xd fs) := I1.hok dd _ ea
  obtain ⟨mA, hns, hr⟩ := hx
  obtain ⟨od, ho, hl⟩ := lookIn_ns hns
  obtain ⟨u, hu, ru⟩ := RelO.some_of (v := v) (o := mA f) (by rw [← lv]; exact hr f)
  have J : PySem.W.InstAt s1.heap a oe D (some od) := ⟨ha, hz.1, by unfold PySem.W.notCls; rw [hd] <;> rfl, by rw [hz.2.1]; exact ho⟩
  exact HandSPX.exc_get I1.kIn J C.ga C.gg C.ex (PySem.W.findObj_own C.hd nf rfl (by rw [hl, hu])) (handed_of ru) ⟨v, H1, I1.tok _, ru, q⟩
/-- the mirrors -/
def isX (CL : List Str) (e : Exc) (T : Str) : PM Bool := guardM (e.cls ∈ CL) (errSub e.cls T)
def fldX (CL : List Str) (e : Exc) (f : Str) : PM PyData := if e.cls ∈ CL then (match e.pay with
  | .one g x => if f = g then pure x else stuck
  | .two g x h y => if f = h then pure y else if f = g then pure x else stuck
  | .non => stuck) else stuck
section
variable {c : Cf} {Γ : List Sl} {α β : Type} {a : Addr} {cls : Value} {d : Option Addr} {e : Exc} {CL : List Str}
theorem ExR.dict {K : PySem.W.Frag} {F H : Hp} (s : Same F H) (h : ExR K F e cls d) : dictOk d H := fun dx hd => by
  obtain ⟨_, h2⟩ := h
  obtain ⟨cl, p⟩ := e
  cases p with
  | non =>
    have h3 : d = none := h2
    rw [h3] at hd; cases hd
  | one f x =>
    obtain ⟨dy, v, e1, e2, _⟩ := h2
    rw [e1] at hd; cases hd
    exact ⟨_, s _ _ e2⟩
  | two f x g y =>
    obtain ⟨dy, v, u, e1, e2, _⟩ := h2
    rw [e1] at hd; cases hd
    exact ⟨_, s _ _ e2⟩
/-- isinstance(e, T), T a class by its name (tv: its value) -/
theorem ev_isX (i : Nat) {T : Str} {Tv : Value} {tv : V} (hC : ∀ x ∈ CL, ErrC c.K (He.ga c.K x)) (ET : ErrI c.K CL T Tv) (ht : ∀ u, RelV tv u → u = Tv) (hi : nth Γ i = .val (rX c.K a cls d) e) :
    Ev c Γ (tCB (rIsX c.K a cls d) (tCons (tVar i) (tCons (tC tv) tNil))) (isX CL e T) rBool := fun S σ F H p Q g q => by
  obtain ⟨v, h1, h2⟩ := g.sl.val hi
  obtain ⟨rfl, k1, k2⟩ := h2
  unfold isX guardM at q
  by_cases hc : e.cls ∈ CL
  · rw [if_pos hc] at q
    exact ⟨_, h1, _, tv, Tv, errSub e.cls T, k1, hC _ hc, ExR.dict g.sub ⟨k1, k2⟩, rfl, ht, ET _ hc, q.now g.sub g.pl rfl⟩
  · rw [if_neg hc] at q
    exact q.elim
theorem lookup1 {f : Str} {v : V} : List.lookup f [(f, v)] = some v := by simp [List.lookup]
theorem ev_fldX (i : Nat) {f : Str} (hC : ∀ x ∈ CL, ErrC c.K (He.ga c.K x)) (hf : ∀ x ∈ CL, PySem.W.findIn c.K (.ref (He.ga c.K x)) f = some none) (hi : nth Γ i = .val (rX c.K a cls d) e) :
    Ev c Γ (tFX c.K a cls d f (tVar i)) (fldX CL e f) (rD c.K) := fun S σ F H p Q g q => by
  obtain ⟨v, h1, h2⟩ := g.sl.val hi
  obtain ⟨rfl, k1, k2⟩ := h2
  unfold fldX at q
  by_cases hc : e.cls ∈ CL
  · rw [if_pos hc] at q
    refine ⟨_, h1, rfl, He.ga c.K e.cls, ?_⟩
    obtain ⟨cl, py⟩ := e
    cases py with
    | non => exact q.elim
    | one f' x =>
      obtain ⟨dx, u, e1, e2, e3⟩ := k2
      have q' : Post c σ F H (rD c.K) Q ((if f = f' then (pure x : PM PyData) else stuck) p) := q
      by_cases hh : f = f'
      · rw [if_pos hh] at q'
        subst hh
        exact ⟨dx, _, u, k1, hC _ hc, hf _ hc, e1, g.sub _ _ e2, lookup1, q'.now g.sub g.pl e3⟩
      · rw [if_neg hh] at q'
        exact q'.elim
    | two f' x g' y =>
      obtain ⟨dx, u, w, e1, e2, e3, e4⟩ := k2
      have q' : Post c σ F H (rD c.K) Q ((if f = g' then (pure y : PM PyData) else if f = f' then pure x else stuck) p) := q
      by_cases hh : f = g'
      · rw [if_pos hh] at q'
        subst hh
        exact ⟨dx, _, w, k1, hC _ hc, hf _ hc, e1, g.sub _ _ e2, by simp [List.lookup], q'.now g.sub g.pl e4⟩
      · rw [if_neg hh] at q'
        by_cases h3 : f = f'
        · rw [if_pos h3] at q'
          subst h3
          have hb : (f == g') = false := by simpa using hh
          exact ⟨dx, _, u, k1, hC _ hc, hf _ hc, e1, g.sub _ _ e2, by simp [List.lookup, hb], q'.now g.sub g.pl e3⟩
        · rw [if_neg h3] at q'
          exact q'.elim
  · rw [if_neg hc] at q
    exact q.elim
end
end Kf

set_option maxHeartbeats 4000000
/-! Kf: dicts whose keys are texts, instances of own classes -/
namespace Kf
open PySem PySem.Spec L2
open PyProof.Rows hiding St
/-! ### dicts -/
def dkR {α : Type} (F : Hp) (r : Rl α) (kv : Key × V) (x : Str × α) : Prop := kv.1 = .inr x.1 ∧ x.1.length ≤ sizeLine ∧ r.rel F kv.2 x.2
def oDict {α : Type} (r : Rl α) : Ro (List (Str × α)) := ⟨fun F ho l => ∃ kvs, ho = .dK kvs ∧ kvs.length ≤ sizeLine ∧ All2 (dkR F r) kvs l,
  fun s h => by
    obtain ⟨kvs, e, k, h⟩ := h
    exact ⟨kvs, e, k, h.imp fun _ _ z => ⟨z.1, z.2.1, r.mono s z.2.2⟩⟩⟩
def rDict {α : Type} (r : Rl α) : Rl (List (Str × α)) := fz (oDict r)
def putD {α : Type} : List (Str × α) → Str → α → List (Str × α)
  | [], k, a => [(k, a)]
  | (x, b) :: l, k, a => if x = k then (x, a) :: l else (x, b) :: putD l k a
def getK {α : Type} (l : List (Str × α)) (k : Str) : PM α := match l.lookup k with
  | some a => pure a
  | none => stuck
def NodK {α : Type} (l : List (Str × α)) : Prop := (l.map Prod.fst).Nodup
section
variable {α : Type} {F : Hp} {r : Rl α}
theorem dk_lookup {kvs : List (Key × V)} {l : List (Str × α)} (h : All2 (dkR F r) kvs l) (k : Str) : match l.lookup k with
    | some a => ∃ v, valV kvs (Sum.inr k : Key) = some v ∧ r.rel F v a
    | none => valV kvs (Sum.inr k : Key) = none := by
  induction h with
  | nil => exact valV_nil
  | @cons kv x kvs l h t ih =>
    obtain ⟨y, v⟩ := kv
    obtain ⟨z, a⟩ := x
    obtain ⟨h1, h2, h3⟩ := h
    have h1' : y = Sum.inr z := h1
    subst h1'
    by_cases e : k = z
    · subst e
      simp only [List.lookup, beq_self_eq_true]
      exact ⟨v, valV_pos rfl, h3⟩
    · have e1 : (k == z) = false := by simpa using e
      simp only [List.lookup, e1]
      rw [valV_neg (by intro q; exact e (Sum.inr.inj q).symm)]
      exact ih
theorem dk_putD {kvs : List (Key × V)} {l : List (Str × α)} {k : Str} {v : V} {a : α} (hk : k.length ≤ sizeLine) (hv : r.rel F v a) (h : All2 (dkR F r) kvs l) (nd : NodK l) : All2 (dkR F r) (putK kvs (Sum.inr k : Key) v) (putD l k a) := by
  have key : ∀ {kvs : List (Key × V)} {l : List (Str × α)}, All2 (dkR F r) kvs l → (∀ x ∈ l, x.1 ≠ k) → kvs.map (fun kv => if kv.1 = (Sum.inr k : Key) then (kv.1, v) else kv) = kvs ∧ (kvs.any fun kv => decide (kv.1 = (Sum.inr k : Key))) = false ∧ putD l k a = l ++ [(k, a)] := by
    intro kvs l h
    induction h with
    | nil => exact fun _ => ⟨rfl, rfl, rfl⟩
    | @cons kv x kvs l h t ih =>
      intro hn
      have hx := hn x (by simp)
      obtain ⟨i1, i2, i3⟩ := ih fun y hy => hn y (by simp [hy])
      have e1 : ¬ kv.1 = (Sum.inr k : Key) := by rw [h.1]; intro q; exact hx (Sum.inr.inj q)
      obtain ⟨xk, xa⟩ := x
      have hx' : ¬ xk = k := hx
      refine ⟨by rw [List.map_cons, if_neg e1, i1], by simp [e1, i2], ?_⟩
      show (if xk = k then _ else _) = _
      rw [if_neg hx', i3]
      rfl
  unfold putK
  induction h with
  | nil => exact .cons ⟨rfl, hk, hv⟩ .nil
  | @cons kv x kvs l h t ih =>
    obtain ⟨xk, xa⟩ := x
    have nd' : (xk :: l.map Prod.fst).Nodup := nd
    obtain ⟨n1, n2⟩ := List.nodup_cons.mp nd'
    by_cases e : xk = k
    · subst e
      have e1 : kv.1 = (Sum.inr xk : Key) := h.1
      have hn : ∀ x ∈ l, x.1 ≠ xk := fun x hx z => n1 (by rw [← z]; exact List.mem_map_of_mem hx)
      obtain ⟨i1, _, _⟩ := key t hn
      rw [if_pos (by simp [e1]), List.map_cons, if_pos e1, i1]
      show All2 _ _ (if xk = xk then _ else _)
      rw [if_pos rfl]
      exact .cons ⟨e1, hk, hv⟩ t
    · have e1 : ¬ kv.1 = (Sum.inr k : Key) := by rw [h.1]; intro q; exact e (Sum.inr.inj q)
      have ih' := ih n2
      show All2 _ _ (if xk = k then _ else _)
      rw [if_neg e]
      by_cases hany : (kvs.any fun kv => decide (kv.1 = (Sum.inr k : Key))) = true
      · rw [if_pos hany] at ih'
        rw [if_pos (by simp [hany]), List.map_cons, if_neg e1]
        exact .cons h ih'
      · rw [if_neg hany] at ih'
        rw [if_neg (by simp [e1]; simpa using hany)]
        exact .cons h ih'
end
theorem putD_nod {α : Type} : ∀ {l : List (Str × α)} {k : Str} {a : α}, NodK l → NodK (putD l k a)
  | [], k, a, _ => by simp [NodK, putD]
  | (x, b) :: l, k, a, h => by
    have h' : (x :: l.map Prod.fst).Nodup := h
    obtain ⟨n1, n2⟩ := List.nodup_cons.mp h'
    unfold putD
    by_cases e : x = k
    · rw [if_pos e]; exact h
    · rw [if_neg e]
      have ih := putD_nod (l := l) (k := k) (a := a) n2
      refine List.nodup_cons.mpr ⟨fun z => ?_, ih⟩
      have : ∀ {l : List (Str × α)}, x ∈ (putD l k a).map Prod.fst → x ∈ l.map Prod.fst ∨ x = k := by
        intro l
        induction l with
        | nil => intro z; simp [putD] at z; exact .inr z
        | cons y l ih =>
          obtain ⟨y1, y2⟩ := y
          intro z
          unfold putD at z
          by_cases e : y1 = k
          · rw [if_pos e] at z; exact .inl z
          · rw [if_neg e] at z
            rcases List.mem_cons.mp z with z | z
            · exact .inl (by rw [z]; simp)
            · exact (ih z).imp (fun q => by simp only [List.map_cons, List.mem_cons]; exact .inr q) id
      exact (this z).elim n1 e
/-- with different keys -/
def oDictN {α : Type} (r : Rl α) : Ro (List (Str × α)) := ⟨fun F ho l => (oDict r).rel F ho l ∧ NodK l, fun s h => ⟨(oDict r).mono s h.1, h.2⟩⟩
def rDic {α : Type} (r : Rl α) : Rl (List (Str × α)) := fz (oDictN r)
section
variable {c : Cf} {Γ : List Sl} {ta tb : TE} {α β : Type}
theorem en_dic {r : Rl α} : En c Γ tDNewK (pure []) (oDictN r) := fun S σ F H p Q g q d hd => q.now g.sub g.pl hd ⟨⟨[], rfl, Nat.zero_le _, .nil⟩, List.nodup_nil⟩
theorem ev_dget {r : Rl α} {ma : PM (List (Str × α))} {mb : PM Str} (ha : Ev c Γ ta ma (rDic r)) (hb : Ev c Γ tb mb rStr) : Ev c Γ (tDGet ta tb) (ma >>= fun l => mb >>= fun k => getK l k) r := fun S σ F H p Q g q =>
  ha S σ F H p _ g (q.seq fun l p1 v F1 H1 e1 pl1 r1 h1 => hb S σ F1 H1 p1 _ (g.ext e1 pl1) (h1.seq fun k p2 w F2 H2 e2 pl2 r2 h2 => by
    obtain ⟨a, ho, rfl, k1, ⟨kvs, rfl, _, k3⟩, _⟩ := (rDic r).mono e2.sub r1
    have hl := dk_lookup k3 k
    unfold getK at h2
    cases e : l.lookup k with
    | none => rw [e] at h2; exact h2.elim
    | some x =>
      rw [e] at h2 hl
      obtain ⟨u, hu, ru⟩ := hl
      rw [r2.1]
      refine ⟨a, u, rfl, ?_, h2.now ((g.ext e1 pl1).ext e2 pl2).sub pl2 ru⟩
      rw [← hu]
      exact DGet.k (k := Sum.inr k) (((g.ext e1 pl1).ext e2 pl2).sub _ _ k1)))
theorem ev_dgetO (i : Nat) {r : Rl α} {l : List (Str × α)} {mb : PM Str} (hi : nth Γ i = .own (oDictN r) l) (hb : Ev c Γ tb mb rStr) : Ev c Γ (tDGet (tVar i) tb) (mb >>= fun k => getK l k) r := fun S σ F H p Q g q => by
  obtain ⟨x, ho, h1, h2, ⟨⟨kvs, rfl, k2, k3⟩, k4⟩, hm⟩ := g.sl.own hi
  refine ⟨_, h1, hb S σ F H p _ g (q.seq fun k p2 w F2 H2 e2 pl2 r2 h2' => ?_)⟩
  have g2 := g.ext e2 pl2
  obtain ⟨x', ho', h1', h3', ⟨⟨kvs', rfl, k2', k3'⟩, k4'⟩, hm'⟩ := g2.sl.own hi
  have ex : x' = x := by rw [h1] at h1'; injection h1' with z; injection z with z; injection z with z; exact z.symm
  subst ex
  have hl := dk_lookup k3' k
  unfold getK at h2'
  cases e : l.lookup k with
  | none => rw [e] at h2'; exact h2'.elim
  | some a =>
    rw [e] at h2' hl
    obtain ⟨u, hu, ru⟩ := hl
    rw [r2.1]
    refine ⟨x', u, rfl, ?_, h2'.now g2.sub pl2 ru⟩
    rw [← hu]
    exact DGet.k (k := Sum.inr k) h3'
def setK {α : Type} (l : List (Str × α)) (k : Str) (a : α) : PM (List (Str × α)) := guardM (l.length < sizeLine) (putD l k a)
theorem putK_len {κ : Type} [DecidableEq κ] (kvs : List (κ × V)) (k : κ) (v : V) : (putK kvs k v).length ≤ kvs.length + 1 := by
  unfold putK
  split
  · rw [List.length_map]; omega
  · rw [List.length_append]; simp
theorem es_dput (i : Nat) {r : Rl α} {l : List (Str × α)} {mk : PM Str} {mv : PM α} (hi : nth Γ i = .own (oDictN r) l) (hv : Ev c Γ ta mv r) (hk : Ev c Γ tb mk rStr) :
    Es c Γ (sDPut (tVar i) tb ta) (mv >>= fun a => mk >>= fun k => setK l k a) fun l' => put Γ i (.own (oDictN r) l') := fun S σ F H p D g q => by
  refine hv S σ F H p _ g (q.seqE g fun a p1 v F1 H1 g1 s1 r1 _ h1 => ?_)
  obtain ⟨x, ho, e1, e2, _, hm⟩ := g1.sl.own hi
  refine ⟨_, e1, hk S σ F1 H1 p1 _ g1 (h1.seqE g1 fun k p2 w F2 H2 g2 s2 r2 _ h2 => ?_)⟩
  obtain ⟨x', ho', e1', e2', ⟨⟨kvs, rfl, k2, k3⟩, k4⟩, hm'⟩ := g2.sl.own hi
  have ex : x' = x := by rw [e1] at e1'; injection e1' with z; injection z with z; injection z with z; exact z.symm
  subst ex
  unfold setK guardM at h2
  by_cases hl : l.length < sizeLine
  · rw [if_pos hl] at h2
    have hl' : kvs.length < sizeLine := by rw [k3.length]; exact hl
    rw [r2.1]
    refine ⟨x', _, rfl, DPut.k (k := Sum.inr k) e2' hl', ?_⟩
    exact h2 σ F2 _ (g2.updo hi e1' ⟨⟨_, rfl, Nat.le_trans (putK_len _ _ _) hl', dk_putD r2.2 (r.mono s2 r1) k3 k4⟩, putD_nod k4⟩)
  · rw [if_neg hl] at h2
    exact h2.elim
theorem ev_din {r : Rl α} {ma : PM (List (Str × α))} {mb : PM Str} (hb : Ev c Γ tb mb rStr) (ha : Ev c Γ ta ma (rDic r)) : Ev c Γ (tDIn tb ta) (mb >>= fun k => ma >>= fun l => pure (l.lookup k).isSome) rBool := fun S σ F H p Q g q =>
  hb S σ F H p _ g (q.seq fun k p1 w F1 H1 e1 pl1 r1 h1 => ha S σ F1 H1 p1 _ (g.ext e1 pl1) (h1.seq fun l p2 v F2 H2 e2 pl2 r2 h2 => by
    obtain ⟨a, ho, rfl, k1, ⟨kvs, rfl, _, k3⟩, _⟩ := r2
    have hl := dk_lookup k3 k
    rw [r1.1]
    refine ⟨a, _, rfl, DGet.k (k := Sum.inr k) (((g.ext e1 pl1).ext e2 pl2).sub _ _ k1), ?_⟩
    have : (valV kvs (Sum.inr k : Key)).isSome = (l.lookup k).isSome := by
      cases e : l.lookup k with
      | none => rw [e] at hl; rw [hl]; rfl
      | some x =>
        rw [e] at hl
        obtain ⟨u, hu, _⟩ := hl
        rw [hu]; rfl
    rw [this]
    exact h2.now ((g.ext e1 pl1).ext e2 pl2).sub pl2 rfl))
end
end Kf

set_option maxHeartbeats 4000000
/-! Kf: instances of own classes -/
namespace Kf
open PySem PySem.Spec L2
open PyProof.Rows hiding St
/-! ### instances -/
/-- a field: its name, how its value lies, its value -/
structure FV where
  n : Str
  {α : Type}
  r : Rl α
  a : α
def fvR (F : Hp) (f : Str × V) (q : FV) : Prop := f.1 = q.n ∧ q.r.rel F f.2 q.a
def oI (C : Addr) (L : List FV) : Ro Unit := ⟨fun F ho _ => ∃ dx fs, ho = .ins C dx fs ∧ All2 (fvR F) fs L,
  fun s h => by
    obtain ⟨dx, fs, e, h⟩ := h
    exact ⟨dx, fs, e, h.imp fun _ q z => ⟨z.1, q.r.mono s z.2⟩⟩⟩
def rIns {α : Type} (K : PySem.W.Frag) (x : Str) (fl : α → List FV) : Rl α := ⟨fun F v o => (fz (oI (He.ga K x) (fl o))).rel F v (), fun s h => (fz (oI _ _)).mono s h⟩
theorem rIns.of {α : Type} {K : PySem.W.Frag} {x : Str} {fl : α → List FV} {F : Hp} {v : V} {o : α} (h : (rIns K x fl).rel F v o) : ∃ p dx fs, v = .ref p ∧ F p = some (.ins (He.ga K x) dx fs) ∧ All2 (fvR F) fs (fl o) := by
  obtain ⟨p, ho, e, h1, dx, fs, rfl, h2⟩ := h
  exact ⟨p, dx, fs, e, h1, h2⟩
theorem fv_lookup {F : Hp} {fs : List (Str × V)} {L : List FV} {f : Str} : ∀ {j : Nat} {q : FV}, All2 (fvR F) fs L → L[j]? = some q → (L.map FV.n).idxOf q.n = j → ∃ v, fs.lookup q.n = some v ∧ q.r.rel F v q.a := by
  intro j q h
  induction h generalizing j with
  | nil => intro e; simp at e
  | @cons x y fs L h t ih =>
    obtain ⟨xk, xv⟩ := x
    intro e hi
    have hx : xk = y.n := h.1
    by_cases hq : q.n = y.n
    · have hj : j = 0 := by
        rw [← hi]
        simp [List.idxOf_cons, hq]
      subst hj
      have e' : y = q := by simpa using e
      subst e'
      exact ⟨xv, by simp [List.lookup, hx], h.2⟩
    · cases j with
      | zero =>
        have e' : y = q := by simpa using e
        exact absurd (by rw [e']) hq
      | succ j =>
        have hi' : (L.map FV.n).idxOf q.n = j := by
          have hb : (y.n == q.n) = false := by simpa using fun z : y.n = q.n => hq z.symm
          rw [List.map_cons, List.idxOf_cons, hb] at hi
          simpa using hi
        obtain ⟨v, h1, h2⟩ := ih (j := j) (by simpa using e) hi'
        have hb : (q.n == xk) = false := by rw [hx]; simpa using hq
        exact ⟨v, by simp [List.lookup, hb, h1], h2⟩
theorem fv_none {F : Hp} {fs : List (Str × V)} {L : List FV} {f : Str} (h : All2 (fvR F) fs L) (hn : f ∉ L.map FV.n) : fs.lookup f = none := by
  induction h with
  | nil => rfl
  | @cons x y fs L h t ih =>
    obtain ⟨xk, xv⟩ := x
    rw [List.map_cons, List.mem_cons] at hn
    have hx : xk = y.n := h.1
    have hb : (f == xk) = false := by rw [hx]; simpa using fun z => hn (.inl z)
    simp [List.lookup, hb, ih fun z => hn (.inr z)]
section
variable {c : Cf} {Γ : List Sl} {ta tb tv : TE} {t : TA} {α β γ A : Type}
/-- o.f -/
theorem ev_fld (j : Nat) {x f : Str} {fl : α → List FV} {nm : List Str} {g : α → β} {r : Rl β} {m : PM α} (hC : Cls c.K (He.ga c.K x)) (hN : NoAttr c.K (He.ga c.K x) f) (hnm : ∀ o, (fl o).map FV.n = nm) (hj : nm.idxOf f = j) (hl : ∀ o, (fl o)[j]? = some ⟨f, r, g o⟩) (h : Ev c Γ ta m (rIns c.K x fl)) :
    Ev c Γ (tFld c.K ta f) (m >>= fun o => pure (g o)) r := fun S σ F H p Q gd q =>
  h S σ F H p _ gd (q.seq fun o p1 v F1 H1 e1 pl1 r1 h1 => by
    obtain ⟨p, dx, fs, rfl, k1, k2⟩ := rIns.of r1
    obtain ⟨u, l1, l2⟩ := fv_lookup (f := f) k2 (hl o) (by rw [hnm]; exact hj)
    exact ⟨p, _, dx, fs, u, rfl, e1.sub' _ _ k1, hC, hN, l1, h1.now (gd.ext e1 pl1).sub pl1 l2⟩)
/-- self.f = e, in __init__ -/
theorem putF_new {f : Str} {y : V} : ∀ {fs : List (Str × V)}, fs.lookup f = none → putF f y fs = fs ++ [(f, y)]
  | [], _ => rfl
  | (g, x) :: fs, h => by
    by_cases e : f = g
    · subst e; simp [List.lookup] at h
    · have hb : (f == g) = false := by simpa using e
      simp only [List.lookup, hb] at h
      unfold putF
      rw [if_neg (fun z => e z.symm), putF_new h]
      rfl
theorem es_fld (i : Nat) {x f : Str} {L : List FV} {r : Rl α} {m : PM α} (hC : Cls c.K (He.ga c.K x)) (hN : NoAttr c.K (He.ga c.K x) f) (hi : nth Γ i = .own (oI (He.ga c.K x) L) ()) (hf : f ∉ L.map FV.n) (hl : L.length < 900) (h : Ev c Γ tv m r) :
    Es c Γ (sFld c.K (tVar i) tv f) m fun a => put Γ i (.own (oI (He.ga c.K x) (L ++ [⟨f, r, a⟩])) ()) := fun S σ F H p D g q =>
  h S σ F H p _ g (by
    have q' : PostS c S (fun a => put Γ i (.own (oI (He.ga c.K x) (L ++ [⟨f, r, a⟩])) ())) D ((m >>= fun a => pure a) p) := by rw [bind_pure]; exact q
    exact q'.seqE g fun a p1 v F1 H1 g1 s1 r1 _ h1 => by
      obtain ⟨y, ho, e1, e2, ⟨dx, fs, rfl, k⟩, hm⟩ := g1.sl.own hi
      refine ⟨_, e1, y, _, dx, fs, rfl, e2, hC, hN, by rw [k.length]; omega, ?_⟩
      rw [putF_new (fv_none k hf)]
      exact h1 σ F1 _ (g1.updo hi e1 ⟨dx, _, rfl, k.append (.cons ⟨rfl, r1⟩ .nil)⟩))
/-! ### methods -/
def tMethS (C : Addr) (m : Str) (sp : Sp) (dvs : List V) (E : St → XK) (ta : TE) (t : TA) : TE := fun σ H Q => ta σ H fun x H1 => ∃ a dx fs, x = .ref a ∧ H1 a = some (.ins C dx fs) ∧ fs.lookup m = none ∧ t σ H1 fun vs H2 => sp (x :: (vs ++ dvs)) H2 Q (E σ)
theorem ev_methD {x mt : Str} {fl : α → List FV} {nm : List Str} {ra0 : Ra β} {ra : Ra A} {f : α × A → PM γ} {r : Rl γ} {m : PM α} {mb : PM β} {dvs : List V} (cv : β → A) (hc : ∀ F vs b, ra0.rel F vs b → ra.rel F (vs ++ dvs) (cv b)) (hnm : ∀ o, (fl o).map FV.n = nm) (hn : mt ∉ nm)
    (h : Ev c Γ ta m (rIns c.K x fl)) (hb : Ea c Γ t mb ra0) :
    Ev c Γ (tMethS (He.ga c.K x) mt (spF c.K (aCons (rIns c.K x fl) ra) f r) dvs (WE c.W) ta t) (m >>= fun o => mb >>= fun b => frame (f (o, cv b))) r := fun S σ F H p Q g q =>
  h S σ F H p _ g (q.seq fun o p1 v F1 H1 e1 pl1 r1 h1 => by
    obtain ⟨y, dx, fs, rfl, k1, k2⟩ := rIns.of r1
    refine ⟨y, dx, fs, rfl, e1.sub' _ _ k1, fv_none k2 (by rw [hnm]; exact hn), hb S σ F1 H1 p1 _ (g.ext e1 pl1) (h1.seq fun b p2 vs F2 H2 e2 pl2 r2 h2 => ?_)⟩
    refine ⟨F2, (o, cv b), p2, ((g.ext e1 pl1).ext e2 pl2).sub, ⟨.ref y, vs ++ dvs, rfl, (rIns c.K x fl).mono e2.sub r1, hc F2 vs b r2⟩, ?_⟩
    have h3 : Post c σ F2 H2 r Q ((f (o, cv b) p2).1, p2) := h2
    rcases e : f (o, cv b) p2 with ⟨er | a, p3⟩
    · rw [e] at h3
      cases er with
      | stuck => exact h3
      | exc ex => exact fun cls d F' H' e' _ k => h3 cls d F' H' e'.widen (pl2.up e') k
    · rw [e] at h3
      exact fun v F' H' e' _ k => h3 v F' H' e'.widen (pl2.up e') k)
theorem ev_meth {x mt : Str} {fl : α → List FV} {nm : List Str} {ra : Ra A} {f : α × A → PM γ} {r : Rl γ} {m : PM α} {mb : PM A} (hnm : ∀ o, (fl o).map FV.n = nm) (hn : mt ∉ nm) (h : Ev c Γ ta m (rIns c.K x fl)) (hb : Ea c Γ t mb ra) :
    Ev c Γ (tMethS (He.ga c.K x) mt (spF c.K (aCons (rIns c.K x fl) ra) f r) [] (WE c.W) ta t) (m >>= fun o => mb >>= fun b => frame (f (o, b))) r :=
  ev_methD id (fun F vs b k => by rw [List.append_nil]; exact k) hnm hn h hb
theorem ea_none : Ea c Γ tNil (pure ()) aNil := ea_nil
/-! ### C(..) -/
def tMakeS (C : Addr) (sp : Sp) (dvs : List V) (E : St → XK) (t : TA) : TE := fun σ H Q => t σ H fun vs H1 => ∀ x dx, H1 x = none → H1 dx = none → dx ≠ x →
  sp (.ref x :: (vs ++ dvs)) (upd (upd H1 dx (.own x)) x (.ins C dx [])) (fun v H2 => v = .non ∧ Q (.ref x) H2) (E σ)
/-- what __init__ promises: the new instance ahead of the arguments -/
def spI (K : PySem.W.Frag) (x : Str) (fl : α → List FV) (ra : Ra A) (m : A → PM α) : Sp := fun vs H Q E =>
  ∃ y dx ws F H0 a p, vs = .ref y :: ws ∧ H = upd (upd H0 dx (.own y)) y (.ins (He.ga K x) dx []) ∧ H0 y = none ∧ H0 dx = none ∧ dx ≠ y ∧ Same F H0 ∧ ra.rel F ws a ∧ Post (cfE K none 0 E) [] F H0 (rIns K x fl) (fun v H' => v = .ref y → Q .non H') (m a p)
theorem ev_makeD {x : Str} {fl : α → List FV} {ra0 : Ra β} {ra : Ra A} {f : A → PM α} {mb : PM β} {dvs : List V} (cv : β → A) (hc : ∀ F vs b, ra0.rel F vs b → ra.rel F (vs ++ dvs) (cv b)) (hb : Ea c Γ t mb ra0) :
    Ev c Γ (tMakeS (He.ga c.K x) (spI c.K x fl ra f) dvs (WE c.W) t) (mb >>= fun b => frame (f (cv b))) (rIns c.K x fl) := fun S σ F H p Q g q =>
  hb S σ F H p _ g (q.seq fun b p1 vs F1 H1 e1 pl1 r1 h1 => fun y dx hy hd ne => by
    refine ⟨y, dx, _, F1, H1, cv b, p1, rfl, rfl, hy, hd, ne, (g.ext e1 pl1).sub, hc F1 vs b r1, ?_⟩
    have h2 : Post c σ F1 H1 (rIns c.K x fl) Q ((f (cv b) p1).1, p1) := h1
    rcases e : f (cv b) p1 with ⟨er | a, p2⟩
    · rw [e] at h2
      cases er with
      | stuck => exact h2
      | exc ex => exact fun cls d F' H' e' _ k => h2 cls d F' H' e'.widen (pl1.up e') k
    · rw [e] at h2
      exact fun v F' H' e' _ k ev => ⟨rfl, by rw [← ev]; exact h2 v F' H' e'.widen (pl1.up e') k⟩)
theorem ev_make {x : Str} {fl : α → List FV} {ra : Ra A} {f : A → PM α} {mb : PM A} (hb : Ea c Γ t mb ra) :
    Ev c Γ (tMakeS (He.ga c.K x) (spI c.K x fl ra f) [] (WE c.W) t) (mb >>= fun b => frame (f b)) (rIns c.K x fl) :=
  ev_makeD id (fun F vs b k => by rw [List.append_nil]; exact k) hb
end
end Kf

set_option maxHeartbeats 4000000
/-! Kf: methods called, instances made, __init__ walked -/
namespace Kf
open PySem PySem.Spec L2
open PyProof.Rows hiding St
section
variable {X : Cx} {CX : CXT} {k : Nat} {f C : Addr} {fd : FuncData} {ps : List Str} {sp : Sp} {dvs : List V} {ds : List Value} {E : St → XK} {x mt : Str} {p apos pos : Pos} {o e : Expr} {es : List Expr} {ta : TE} {t : TA}
theorem pe_methS {pl : Sem Bool} (F : FnOk X.prog X.w X.K X.mg X.base CX k f fd ps sp) (hr : Room k X.A) (hb : Binds X.K fd ps ds) (hd : Vals dvs ds) (hx : ∀ σ, PassesAt CX X σ (E σ)) (c : Cls X.K C) (hm : Meth X.K C mt f)
    (he : PE X o ta) (ha : PA X (e :: es) t) (hst : starEach (e :: es) X.env = (false, eval e X.env) :: starEach es X.env := by rfl) (hpl : (backTo pos (starEach es X.env)).any (·.1) = false := by rfl)
    (ht : eval (.Call (.Attribute o mt apos) (e :: es) [] pos) X.env = (do
      let self ← eval o X.env
      standAt apos.atName
      let (g, first) ← holding [self] (getMethod self mt pl)
      callWith pos g first (backTo pos (starEach (e :: es) X.env)) (backToKw pos (keywordEach [] X.env))) := by rfl) :
    PE X (.Call (.Attribute o mt apos) (e :: es) [] pos) (tMethS C mt sp dvs E ta t) := ⟨fun pins s σ H Q I h =>
  PySem.W.methodCall_KW (pl := pl) (thn (he.run pins s σ H _ I h) fun u s1 ⟨x, H1, I1, rx, a, dx, fs, ex, ea, l, q⟩ => by
    subst ex
    have eu : u = Value.ref a := rx
    subst eu
    exact getmeth_ok I1 ea c hm l (PySem.W.callWith_K (h₀ := X.base) (first := [.ref a]) I.ok.mod.kin hm.kp (thn (ha.run pos pins s1 σ H1 _ I1 q) fun us s2 ⟨vs, H2, I2, r, q2⟩ =>
      ⟨I2.kIn, run_fnSD (us := .ref a :: us) (vs := .ref a :: vs) F hr hb hd (hx σ) I2 (.cons rfl r) q2⟩) hst hpl)) ht⟩
theorem pe_meth0S {pl : Sem Bool} (F : FnOk X.prog X.w X.K X.mg X.base CX k f fd ps sp) (hr : Room k X.A) (hb : Binds X.K fd ps ds) (hd : Vals dvs ds) (hx : ∀ σ, PassesAt CX X σ (E σ)) (c : Cls X.K C) (hm : Meth X.K C mt f)
    (he : PE X o ta) (ht : eval (.Call (.Attribute o mt apos) [] [] pos) X.env = (do
      let self ← eval o X.env
      standAt apos.atName
      let (g, first) ← holding [self] (getMethod self mt pl)
      callWith pos g first (backTo pos (starEach [] X.env)) (backToKw pos (keywordEach [] X.env))) := by rfl) :
    PE X (.Call (.Attribute o mt apos) [] [] pos) (tMethS C mt sp dvs E ta tNil) := ⟨fun pins s σ H Q I h =>
  PySem.W.methodCall_KW (pl := pl) (thn (he.run pins s σ H _ I h) fun u s1 ⟨x, H1, I1, rx, a, dx, fs, ex, ea, l, q⟩ => by
    subst ex
    have eu : u = Value.ref a := rx
    subst eu
    exact getmeth_ok I1 ea c hm l (PySem.W.callWith_K0 (first := [.ref a]) I1.kIn hm.kp (run_fnSD (us := [.ref a]) (vs := [.ref a]) F hr hb hd (hx σ) I1 (.cons rfl .nil) q))) ht⟩
theorem run_makeS {pins : List (Addr × Obj)} {σ : St} {H : Hp} {s : Shared} {Q : VK} {us : List Value} {vs : List V} (M : Mk X.K C f) (F : FnOk X.prog X.w X.K X.mg X.base CX k f fd ps sp) (hr : Room (k + 1) X.A) (hb : Binds X.K fd ps ds) (hd : Vals dvs ds)
    (hx : ∀ σ, PassesAt CX X σ (E σ)) (I : Inv X pins σ H s) (r : Vals vs us) (h : ∀ x dx, H x = none → H dx = none → dx ≠ x → sp (.ref x :: (vs ++ dvs)) (upd (upd H dx (.own x)) x (.ins C dx [])) (fun v H2 => v = .non ∧ Q (.ref x) H2) (E σ)) :
    wpAny (model X.prog X.w) X.A (call (.ref C) us) (EP X pins σ Q) X.xe s := by
  have n0 : H s.heap.objs.size = none := I.hok.fresh (Nat.le_refl _)
  have n1 : H (s.heap.objs.size + 1) = none := I.hok.fresh (Nat.le_succ _)
  have hq := h _ _ n1 n0 (Nat.ne_of_lt (Nat.lt_succ_self _))
  have J := Inv.made (C := C) I
  have rv : Vals (V.ref (s.heap.objs.size + 1) :: (vs ++ dvs)) (Value.ref (s.heap.objs.size + 1) :: (us ++ ds)) := .cons rfl (r.append hd)
  have ln : (Value.ref (s.heap.objs.size + 1) :: us ++ ds).length = ps.length := (rv.length).symm.trans (F.len _ _ _ _ hq)
  refine wpAny_call (make_map (f := f) I.kIn M.makes M.init (beq_iff_eq.mp M.fn) (codeAny_mono (F.run _ X.stack _ _ ⟨_, []⟩ _ _ _ _ (hr.make C us []) (J.env0.make C us []) (hb _ (_ :: us) J.kIn ln) rv hq) fun res s' hres => ?_))
  match res, hres with
  | .error er, hres => exact hx σ pins _ _ er s' J hres
  | .ok (.ret u), hres =>
    obtain ⟨v, H', I3, ru, ev, q3⟩ := J.after hres
    subst ev
    exact ⟨ru, ⟨.ref (s.heap.objs.size + 1), H', I3, rfl, q3⟩⟩
theorem pe_makeS (M : Mk X.K C f) (F : FnOk X.prog X.w X.K X.mg X.base CX k f fd ps sp) (hr : Room (k + 1) X.A) (hg : Gl X x) (hm : X.mg x = some (.ref C)) (hb : Binds X.K fd ps ds) (hd : Vals dvs ds) (hx : ∀ σ, PassesAt CX X σ (E σ)) (ha : PA X (e :: es) t)
    (hdb : (x == ("__debug__" : Str)) = false := by decide) (hst : starEach (e :: es) X.env = (false, eval e X.env) :: starEach es X.env := by rfl) (hpl : (backTo pos (starEach es X.env)).any (·.1) = false := by rfl) :
    PE X (.Call (.Name x p) (e :: es) [] pos) (tMakeS C sp dvs E t) := ⟨fun pins s σ H Q I h =>
  wpAny_Call_Name_kw (ld_glob I hg hm (PySem.W.callWith_K (h₀ := X.base) I.ok.mod.kin M.kp (thn (ha.run pos pins s σ H _ I h) fun us s1 ⟨vs, H1, I1, r, q⟩ => ⟨I1.kIn, run_makeS M F hr hb hd hx I1 r q⟩) hst hpl) hdb)⟩
end
/-! ### __init__ -/
def rAt (a : Addr) : Rl Unit := ⟨fun _ v _ => v = .ref a, fun _ h => h⟩
/-- the def's None, told as the instance -/
def rSelf {α : Type} (K : PySem.W.Frag) (x : Str) (fl : α → List FV) (y : Addr) : Rl α := ⟨fun F v o => v = .non ∧ (rIns K x fl).rel F (.ref y) o, fun s h => ⟨h.1, (rIns K x fl).mono s h.2⟩⟩
def gSelf (y : Addr) (n : Nat) : List Sl := .val (rAt y) () :: List.replicate n .any
theorem fre_self {y : Addr} {n i : Nat} : fre (gSelf y n) (i + 1) = true := by
  unfold fre gSelf
  rw [List.getElem?_cons_succ]
  by_cases h : i < n
  · rw [List.getElem?_replicate, if_pos h]
  · rw [List.getElem?_replicate, if_neg h]
section
variable {c : Cf} {Γ : List Sl} {α β γ A : Type} {x : Str} {fl : α → List FV} {y : Addr}
theorem el_last {ρ : Type} {rr : Rr ρ} {fall : Prop} {t : TS} {m : PM β} {Γ1 : β → List Sl} {k : β → PM ρ} (h1 : Es c Γ t m Γ1) (h2 : ∀ a, El c rr fall (Γ1 a) tNext (k a)) : El c rr fall Γ t (m >>= k) := fun S σ F H p D g hf q =>
  h1 S σ F H p D g (q.seqS (u := tNext) fun a p1 σ1 F1 H1 g1 q1 => h2 a S σ1 F1 H1 p1 D g1 hf q1)
theorem el_initEnd {L : List FV} {o : α} {n : Nat} (h : nth Γ 0 = .own (oI (He.ga c.K x) L) ()) (hL : L = fl o) (hG : c.s.G = gSelf y n) : El c (rSelf c.K x fl y) True Γ tNext (pure o) := fun S σ F H p D g hf q => by
  obtain ⟨F', s, g'⟩ := g.fz h
  refine hf trivial σ H (q .non F' H g'.ent g'.pl ⟨rfl, ?_⟩)
  have e0 : nth (put Γ 0 (.val (fz (oI (He.ga c.K x) L)) ())) 0 = .val (fz (oI (He.ga c.K x) L)) () := by
    cases Γ with
    | nil => cases h
    | cons a Γ => rfl
  obtain ⟨v, e1, e2⟩ := g'.sl.val e0
  obtain ⟨w, e3, e4⟩ := g'.gx.2 0 Unit (rAt y) () (by rw [hG]; rfl)
  rw [e1] at e3
  have ew : v = .ref y := by
    have z := Option.some.inj (Option.some.inj e3)
    rw [z]
    exact e4
  subst ew
  subst hL
  exact e2
end
section
variable {P : Program} {w : World} {K : PySem.W.Frag} {mg : Str → Option Value} {base : Heap} {A α : Type}
theorem okInit {x q0 qual : Str} {fl : α → List FV} {params : Arguments} {body : List Stmt} {scope : Scope} {dvs : List V} {kws : List (Str × V)} {f : Addr} {fd : FuncData} {N ps : List Str} {k n j : Nat} {ra : Ra A} {m : A → PM α} {Γ : A → List Sl}
    (F : FunD K q0 qual params body scope dvs kws f fd) (S : FnScope N ps scope) (hb : Bd ra Γ n) (hn : ps.length = n + 1) (hN : N.length = n + 1 + j)
    (hbody : ∀ (cdv : Value) (A_ : Around) (outer : List Env) (s : Shared) (H : Hp) (E : XK), Room k (A_.deeper (envOfC qual scope s.heap.objs.size f cdv)) →
      ∃ t, PSs (cxOf (L2N.CX P w) P w K mg base N qual scope f cdv A_ outer s H E) body t ∧ ∀ y a, El { cfE K none 0 E with s := ⟨0, gSelf y (n + j), fun _ => none⟩ } (rSelf K x fl y) True (.own (oI (He.ga K x) []) () :: (Γ a ++ anys j)) t (m a)) : FnOk P w K mg base (L2N.CX P w) (k + 1) f fd ps (spI K x fl ra m) := by
  refine FunD.ok F S (fun vs H Q E h => ?_) fun cdv A_ outer s H vs Q E hr h => ?_
  · obtain ⟨y, dx, ws, F, H0, a, p, rfl, _, _, _, _, _, h2, _⟩ := h
    rw [List.length_cons, (hb F H0 ws a 0 h2).1, hn]
  · obtain ⟨t, h1, h2⟩ := hbody cdv A_ outer s H E hr
    obtain ⟨y, dx, ws, F, H0, a, p, rfl, rfl, ny, nd, ne, sF, s2, s3⟩ := h
    obtain ⟨k1, k2, k3⟩ := hb F (upd (upd H0 dx (.own y)) y (.ins (He.ga K x) dx [])) ws a j s2
    refine ⟨t, h1, ?_⟩
    rw [start_eq (n := n + 1) (by rw [List.length_cons, k1]) hN]
    have Fy : F y = none := Same.none sF ny
    have Fd : F dx = none := Same.none sF nd
    have up : ∀ b o, H0 b = some o → upd (upd H0 dx (.own y)) y (.ins (He.ga K x) dx []) b = some o := fun b o z => by
      rw [upd_ne (fun e => by rw [e, ny] at z; cases z), upd_ne (fun e => by rw [e, nd] at z; cases z)]
      exact z
    have g : Good (F, H0) none ⟨0, gSelf y (n + j), fun _ => none⟩ (.own (oI (He.ga K x) []) () :: (Γ a ++ anys j)) (List.map some (V.ref y :: ws) ++ List.replicate j none) F (upd (upd H0 dx (.own y)) y (.ins (He.ga K x) dx [])) p := by
      have ow : ownA (.own (oI (He.ga K x) []) () :: (Γ a ++ anys j)) (List.map some (V.ref y :: ws) ++ List.replicate j none) = [y] := by
        show y :: ownA (Γ a ++ anys j) (List.map some ws ++ List.replicate j none) = [y]
        rw [k3]
      refine ⟨fun b o z => up b o (sF _ _ z), .cons ⟨y, _, rfl, upd_same, dx, [], rfl, .nil⟩ k2, by rw [ow]; simp, ?_, ?_, ?_, ⟨Same.refl _, fun b o z => up b o (sF _ _ z), fun b o z _ => up b o z, fun b o z => .inl z⟩, trivial, ?_, ⟨fun _ _ z => (nomatch z), fun _ z => (nomatch z)⟩⟩
      · rw [ow]; intro b hb; rw [List.mem_singleton.mp hb]; exact Fy
      · intro b _ z; cases z
      · rw [ow]; intro b hb; rw [List.mem_singleton.mp hb]; exact ny
      · refine ⟨.inr ?_, fun i α' r' a' e => ?_⟩
        · show (List.map some (V.ref y :: ws) ++ List.replicate j none).length = (gSelf y (n + j)).length
          simp [gSelf, k1]
        · cases i with
          | zero =>
            have e' : Sl.val (rAt y) () = .val r' a' := by
              have z : (gSelf y (n + j))[0]? = some (.val r' a') := e
              unfold gSelf at z
              exact Option.some.inj (by simpa using z)
            cases e'
            exact ⟨.ref y, rfl, rfl⟩
          | succ i =>
            have z : (gSelf y (n + j))[i + 1]? = some (.val r' a') := e
            unfold gSelf at z
            rw [List.getElem?_cons_succ, List.getElem?_replicate] at z
            split at z
            · cases z
            · cases z
    refine h2 y a (F, H0) _ F _ p _ g (fun _ _ _ z => z) ?_
    rcases e : m a p with ⟨er | o, p'⟩
    · rw [e] at s3
      cases er with
      | stuck => exact s3
      | exc ex => exact fun cls d _ F' H' e' _ _ k => s3 cls d F' H' e' trivial k
    · rw [e] at s3
      intro v F' H' e' _ k
      rw [k.1]
      exact s3 (.ref y) F' H' e' trivial k.2 rfl
end
end Kf

set_option maxHeartbeats 4000000
/-! Kf: what the top has written, told by a Hook of its own: defs, facts, error classes with their __init__ -/
namespace Kf
open PySem PySem.Spec L2
open PyProof.Rows hiding St
/-! ### an error class -/
def clsB (K : PySem.W.Frag) (C : Addr) : Bool := match K.lookup C with
  | some ⟨.type "type", _, .cls cd, sl⟩ => (match cd.mro, sl.toList with
    | .ref D :: bm, [_, _, _, _, some (.builtin n), _] => decide (D = C) && decide (n = "ValueError.__new__") && !cd.hasDel && cd.hasDict && PySem.HandSPX.refsVE bm
    | _, _ => false)
  | _ => false
theorem clsB_ok {K : PySem.W.Frag} {C : Addr} (h : clsB K C = true) : ∃ nm q N bs bm sn sub ab col dd k0 k1 k2 k3 k5, K.lookup C = some (excClassObj nm q C N bs bm true sn sub ab col dd k0 k1 k2 k3 k5 "ValueError.__new__") ∧ PySem.HandSPX.refsVE bm = true := by
  unfold clsB at h
  split at h
  · rename_i dd cd sl ho
    split at h
    · rename_i D bm k0 k1 k2 k3 n k5 hm hs
      simp only [Bool.and_eq_true, decide_eq_true_eq, Bool.not_eq_true'] at h
      obtain ⟨⟨⟨⟨rfl, rfl⟩, hdel⟩, hd⟩, hb⟩ := h
      obtain ⟨nm, bs, mro, ns, qn, hdd, sn, sub, ab, col, del⟩ := cd
      dsimp only at hm hdel hd
      subst hm hdel hd
      refine ⟨nm, qn, ns, bs, bm, sn, sub, ab, col, dd, k0, k1, k2, k3, k5, ?_, hb⟩
      rw [ho]
      have : sl = #[k0, k1, k2, k3, some (.builtin "ValueError.__new__"), k5] := Array.toList_inj.mp hs
      rw [this]
    · cases h
  · cases h
/-- an error's __init__ as the text has it -/
structure ErD where
  x : Str
  q : Str
  params : Arguments
  body : List Stmt
  scope : Scope
abbrev EnW : Type := Option (Str × Str × Arguments × FuncBody × Scope × Addr × List Str × Addr × Value × Value)
def fI (K : PySem.W.Frag) (x : Str) : Addr := He.ma K (He.ga K x) "__init__"
def enW (K : PySem.W.Frag) (x : Str) : EnW := match K.lookup (fI K x) with
  | some ⟨_, _, .func fd, _⟩ => some (fd.name, fd.qualname, fd.params, fd.body, fd.scope, fd.globals, fd.closure.map (·.1), fd.builtins, fd.defaults, fd.kwdefaults)
  | _ => none
def ErD.val (d : ErD) : EnW := some ("__init__", d.q, d.params, .stmts d.body, d.scope, mainGlobals, ["__class__"], builtinsNs, .none, .none)
def cellA (K : PySem.W.Frag) (x : Str) : Addr := match K.lookup (fI K x) with
  | some ⟨_, _, .func fd, _⟩ => (match fd.closure with
    | [(_, c)] => c
    | _ => 0)
  | _ => 0
def cellB (K : PySem.W.Frag) (a : Addr) (C : Addr) : Bool := match K.lookup a with
  | some ⟨_, _, .cell (some v), _⟩ => decide (v = .ref C)
  | _ => false
def fileB (K : PySem.W.Frag) (x q file : Str) : Bool := match K.lookup (fI K x) with
  | some ⟨_, _, .func fd, _⟩ => PySem.W.codeIn K fd.code q && (match fd.code with
    | .ref c => (match K.lookup c with
      | some ⟨_, _, .fields vs, _⟩ => (match (vs[2]? : Option Value) with
        | some (.str f _) => file == f
        | _ => false)
      | _ => false)
    | _ => false)
  | _ => false
def eqOV (a b : Option (Option Value)) : Bool := decide (a = b)
/-- the facts of an error class x with the fields fs -/
def erB (K : PySem.W.Frag) (x q : Str) (fs : List Str) (file : Str) : Bool :=
  let C := He.ga K x
  eqOV (PySem.W.nsIn K mainGlobals x) (some (some (.ref C))) && clsB K C &&
  eqOV (PySem.W.findIn K (.ref C) "__setattr__") (some (some (.builtin "object.__setattr__"))) && eqOV (PySem.W.findIn K (.ref C) "__getattribute__") (some (some (.builtin "BaseException.__getattribute__"))) && eqOV (PySem.W.findIn K (.ref C) "__getattr__") (some none) &&
  fs.all (fun f => eqOV (PySem.W.findIn K (.ref C) f) (some none)) && eqOV (PySem.W.findIn K (.ref C) "__init__") (some (some (.ref (fI K x)))) &&
  decide (PySem.W.typeIn K (.ref (fI K x)) = some (.type "function")) && PySem.W.keepIn K (.ref C) && decide (PySem.W.subIn K (.ref C) (.type "BaseException") = some true) && decide (PySem.W.subIn K (.ref C) (.type "ValueError") = some true) &&
  decide (PySem.W.typeIn K (.ref C) = some (.type "type")) && PySem.W.hasDictIn K C && decide (PySem.W.mroIn K C (.ref C) = some true) && eqOV (PySem.W.ks_superIn K C C "__init__") (some (some (.builtin "ValueError.__init__"))) &&
  eqOV (PySem.W.nsIn K cStatics "thirdparty.any") (some none) && eqOV (PySem.W.nsIn K mainGlobals "super") (some none) && cellB K (cellA K x) C && fileB K x q file &&
  (PySem.W.clsIn K C).isSome && eqOV (PySem.W.findIn K (.ref C) "__class__") (some (some (.builtin "object.__class__"))) && eqOV (PySem.W.specialIn K (.builtin "object.__class__") "__get__") (some (some (.builtin "getset_descriptor.__get__"))) &&
  decide (PySem.W.takesIn K (.builtin "object.__class__") = some true) && decide (PySem.W.mroIn K C (.type "object") = some true)
theorem eqOV_ok {a b : Option (Option Value)} (h : eqOV a b = true) : a = b := of_decide_eq_true h
theorem er_ok {K : PySem.W.Frag} {h : Heap} {mg : Str → Option Value} {P : Program} {d : ErD} {fs : List Str} (X : K.In h) (G : h.Ns mainGlobals mg) (e : enW K d.x = d.val) (c : erB K d.x d.q fs P.main.file = true) (hs : d.scope = Er.iS fs) (ht : (P.main.scope.names.lookup ("super" : Str)).isSome = false) :
    Er.Txt K mg P d.x d.q fs d.params d.body (He.ga K d.x) (fI K d.x) (cellA K d.x) ∧ ErrC K (He.ga K d.x) := by
  simp only [erB, Bool.and_eq_true, decide_eq_true_eq] at c
  obtain ⟨⟨⟨⟨⟨⟨⟨⟨⟨⟨⟨⟨⟨⟨⟨⟨⟨⟨⟨⟨⟨⟨⟨c0, c1⟩, c2⟩, c3⟩, c4⟩, c5⟩, c6⟩, c7⟩, c8⟩, c9⟩, c10⟩, c11⟩, c12⟩, c13⟩, c14⟩, c15⟩, c16⟩, c17⟩, c18⟩, d1⟩, d2⟩, d3⟩, d4⟩, d5⟩ := c
  have hfn := e
  unfold enW at hfn
  cases lk : K.lookup (fI K d.x) with
  | none => rw [lk] at hfn; cases hfn
  | some o =>
    rw [lk] at hfn
    obtain ⟨oc, od, dt, osl⟩ := o
    cases dt with
    | func fd =>
      have hf := Option.some.inj hfn
      obtain ⟨name, qual, params, body, scope, globals, closure, defaults, kwdefaults, doc, pyModule, annotations, code, closureTuple, builtins⟩ := fd
      simp only [Prod.mk.injEq] at hf
      obtain ⟨f1, f2, f3, f4, f5, f6, f7, f8, f9, f10⟩ := hf
      subst f1 f2 f3 f4 f5 f6 f8 f9 f10
      have hcl : ∃ cc, closure = [(("__class__" : Str), cc)] := by
        match closure, f7 with
        | [(n, cc)], f7 =>
          have z : n = ("__class__" : Str) := by simpa using f7
          exact ⟨cc, by rw [z]⟩
        | [], f7 => simp at f7
        | _ :: _ :: _, f7 => simp at f7
      obtain ⟨cc, rfl⟩ := hcl
      have hca : cellA K d.x = cc := by
        unfold cellA
        rw [lk]
      have hcell : ∃ cl cld csl, K.lookup cc = some ⟨cl, cld, .cell (some (.ref (He.ga K d.x))), csl⟩ := by
        rw [hca] at c17
        unfold cellB at c17
        split at c17
        · rename_i cl cld v csl e2
          have z : v = .ref (He.ga K d.x) := of_decide_eq_true c17
          subst z
          exact ⟨cl, cld, csl, e2⟩
        · cases c17
      have hcode : ∃ (cda : Addr) (ccl : Value) (cdd : Option Addr) (vs : Array Value) (ccs : Array (Option Value)) (file : Str) (tf : Tok), code = .ref cda ∧ PySem.W.codeIn K (.ref cda) d.q = true ∧ K.lookup cda = some ⟨ccl, cdd, .fields vs, ccs⟩ ∧ vs[2]? = some (.str file tf) ∧ ((P.main.file : Str) == file) = true := by
        unfold fileB at c18
        rw [lk] at c18
        simp only [Bool.and_eq_true] at c18
        obtain ⟨k1, k2⟩ := c18
        split at k2
        · rename_i cda
          split at k2
          · rename_i ccl cdd vs ccs e2
            split at k2
            · rename_i f tf e3
              exact ⟨cda, ccl, cdd, vs, ccs, f, tf, rfl, k1, e2, e3, k2⟩
            · cases k2
          · cases k2
        · cases k2
      obtain ⟨cda, ccl, cdd, vs, ccs, file, tf, rfl, k1, k2, k3, k4⟩ := hcode
      rw [hca]
      refine ⟨⟨PySem.W.mg_of X G (eqOV_ok c0), clsB_ok c1, eqOV_ok c2, eqOV_ok c3, eqOV_ok c4, fun f hf => eqOV_ok (List.all_eq_true.mp c5 f hf), eqOV_ok c6, c7, c8, c9, c10, c11, c12, c13, eqOV_ok c14, eqOV_ok c15, PySem.W.mg_none_of X G (eqOV_ok c16), ht, hcell, ?_⟩, ⟨d1, eqOV_ok c3, eqOV_ok c4, c9, c12, eqOV_ok d2, eqOV_ok d3, d4, d5⟩⟩
      rw [← hs]
      exact ⟨oc, od, doc, pyModule, annotations, cda, closureTuple, osl, ccl, cdd, vs, ccs, file, tf, lk, k1, k2, k3, k4⟩
    | _ => cases hfn
/-! ### the Hook -/
abbrev AlK : Type := He.AlD × Bool × List EnW
def obsK (fa : List He.Fa) (fn : List He.DefD) (en : List ErD) (ex : PySem.W.Frag → Bool) (K : PySem.W.Frag) : AlK := (He.obsD fa fn K, ex K, en.map fun d => enW K d.x)
def valK (fn : List He.DefD) (en : List ErD) : AlK := (He.valD fn, true, en.map ErD.val)
structure SaysK (fa : List He.Fa) (fn : List He.DefD) (en : List ErD) (ex : PySem.W.Frag → Bool) (K : PySem.W.Frag) : Prop where
  d : He.SaysD fa fn K
  more : ex K = true
  init : ∀ d ∈ en, enW K d.x = d.val
theorem saysK_of {fa : List He.Fa} {fn : List He.DefD} {en : List ErD} {ex : PySem.W.Frag → Bool} {K : PySem.W.Frag} (e : obsK fa fn en ex K = valK fn en) : SaysK fa fn en ex K :=
  ⟨congrArg (fun z : AlK => z.1) e, congrArg (fun z : AlK => z.2.1) e, fun d hd => List.map_inj_left.mp (congrArg (fun z : AlK => z.2.2) e) d hd⟩
def asK (g : Addr → Option Obj) (n : Nat) : List Addr := cStatics :: He.asD g n
def hookK (n : Nat) (fa : List He.Fa) (fn : List He.DefD) (en : List ErD) (ex : PySem.W.Frag → Bool) : PySem.W.Hook where
  α := AlK
  obs := fun s => obsK fa fn en ex (He.frG s.heap.get? (asK s.heap.get? n))
  val := fun _ => valK fn en
  says := fun _ h => ∃ K : PySem.W.Frag, K.In h ∧ SaysK fa fn en ex K
  of := fun _ _ e => ⟨_, He.frG_in, saysK_of e⟩
  keeps := fun _ _ _ ⟨K, hK, c⟩ k => ⟨K, PySem.W.Frag.In.keeps hK k, c⟩
def obsKG (n : Nat) (fa : List He.Fa) (fn : List He.DefD) (en : List ErD) (ex : PySem.W.Frag → Bool) (g : Addr → Option Obj) : AlK := obsK fa fn en ex (He.frG g (asK g n))
theorem obsKG_eq {n : Nat} {fa : List He.Fa} {fn : List He.DefD} {en : List ErD} {ex : PySem.W.Frag → Bool} {g : Addr → Option Obj} {s : Shared} (h : ∀ a, g a = s.heap.get? a) : obsKG n fa fn en ex g = (hookK n fa fn en ex).obs s := by
  have e : g = s.heap.get? := funext h
  rw [e] <;> rfl
end Kf

set_option maxHeartbeats 4000000
/-! Kf: insert, enumerate, zip, constants of classes -/
namespace Kf
open PySem PySem.Spec L2
open PyProof.Rows hiding St
section
variable {c : Cf} {Γ : List Sl} {ta tb : TE} {α β : Type} {r : Rl α} {u : Rl β}
/-- xs.insert(i, e) -/
abbrev rIns3 : V → List V → Hp → VK → Prop := fun x vs H Q => ∃ (l : Addr) (xs : List V) (i : Int) (y : V), x = .ref l ∧ vs = [.int i, y] ∧ H l = some (.lst xs) ∧ xs.length < sizeLine ∧ 0 ≤ i ∧ i < 2 ^ 63 ∧
    Q .non (upd H l (.lst (xs.take i.toNat ++ [y] ++ xs.drop i.toNat)))
def insM (l : List α) (i : Int) (a : α) : PM (List α) := guardM (l.length < sizeLine ∧ 0 ≤ i ∧ i < 2 ^ 63) (l.take i.toNat ++ [a] ++ l.drop i.toNat)
theorem es_ins (i : Nat) {l : List α} {mi : PM Int} {m : PM α} (hx : nth Γ i = .own (oList r) l) (hi : Ev c Γ tb mi rInt) (h : Ev c Γ ta m r) :
    Es c Γ (tDrop (tBM c.K "list" rIns3 (tVar i) (tCons tb (tCons ta tNil)))) (mi >>= fun k => m >>= fun a => insM l k a) fun l' => put Γ i (.own (oList r) l') := fun S σ F H p D g q => by
  obtain ⟨x, ho, h1, h2, ⟨vs, rfl, k2, k3⟩, hm⟩ := g.sl.own hx
  refine ⟨_, h1, .inl ⟨rfl, _, SqL.of h2⟩, hi S σ F H p _ g (q.seqE g fun k p1 w F1 H1 g1 s1 r1 _ h3 => h S σ F1 H1 p1 _ g1 (h3.seqE g1 fun a p2 y F2 H2 g2 s2 r2 _ h4 => ?_))⟩
  obtain ⟨x', ho', h1', h2', ⟨vs', rfl, k2', k3'⟩, hm'⟩ := g2.sl.own hx
  have ex : x' = x := by rw [h1] at h1'; injection h1' with z; injection z with z; injection z with z; exact z.symm
  subst ex
  unfold insM guardM at h4
  by_cases hl : l.length < sizeLine ∧ 0 ≤ k ∧ k < 2 ^ 63
  · rw [if_pos hl] at h4
    have hl' : vs'.length < sizeLine := by rw [k3'.length]; exact hl.1
    refine ⟨x', vs', k, y, rfl, by rw [show w = .int k from r1], h2', hl', hl.2.1, hl.2.2, ?_⟩
    refine h4 σ F2 _ (g2.updo hx h1' ⟨_, rfl, ?_, ((k3'.take _).append (.cons r2 .nil)).append (k3'.drop _)⟩)
    simp only [List.length_append, List.length_take, List.length_drop, List.length_cons, List.length_nil]
    omega
  · rw [if_neg hl] at h4
    exact h4.elim
/-- for i, x in enumerate(l) -/
def enumL (l : List α) : List (Int × α) := (List.range l.length).zipWith (fun (i : Nat) a => ((i : Int), a)) l
theorem enumL_len (l : List α) : (enumL l).length = l.length := by simp [enumL]
theorem enumL_get {l : List α} {i : Nat} {x : Int × α} (h : (enumL l)[i]? = some x) : x.1 = (i : Int) ∧ l[i]? = some x.2 := by
  unfold enumL at h
  rw [List.getElem?_zipWith] at h
  rcases e1 : (List.range l.length)[i]? with _ | j
  · rw [e1] at h; simp at h
  · rcases e2 : l[i]? with _ | a
    · rw [e1, e2] at h; simp at h
    · rw [e1, e2] at h
      have hx : ((j : Int), a) = x := by simpa using h
      subst hx
      obtain ⟨hlt, h3⟩ := List.getElem?_eq_some_iff.mp e1
      rw [List.getElem_range] at h3
      subst h3
      exact ⟨rfl, rfl⟩
theorem ei_enum {m : PM (List α)} (h : Ev c Γ ta m (rList r)) : Ei c Γ (iEnum c.K (tCons ta tNil)) (m >>= fun l => pure (enumL l)) (rPair c.K rInt r) := fun S σ F H p R g q =>
  h S σ F H p _ g (q.seq fun l p1 v F1 H1 e1 pl1 r1 h1 => by
    obtain ⟨x, vs, rfl, k1, k2, k3⟩ := rList.of r1
    have hs := e1.sub' _ _ k1
    refine ⟨x, vs, rfl, SqL.of hs, h1 (Ite c.K x) F1 H1 (fun H => SqL c.K H x vs) _ e1 pl1 (by rw [enumL_len, ← k3.length]; exact walk_enum) (fun H2 s _ => SqL.of (s _ _ k1)) fun i y F2 H2 H3 hi s2 s3 hy => ?_⟩
    obtain ⟨T, v1, v2, rfl, hT, rfl, e2, e3⟩ := hy
    refine ⟨upd F2 T (.tup [v1, v2]), Ext.new' s3 hT, fun a ha => ?_⟩
    obtain ⟨a1, a2⟩ := enumL_get ha
    obtain ⟨w, hw, rw_⟩ := k3.get a2
    have ev2 : v2 = w := Option.some.inj ((show vs[i]? = some v2 from e3).symm.trans hw)
    subst ev2
    have ev1 : v1 = V.int (i : Nat) := (Option.some.inj e2).symm
    subst ev1
    refine ⟨T, _, _, rfl, SqT.of upd_same, ?_, r.mono (s2.trans (same_upd (Same.none s3 hT))) rw_⟩
    show V.int (i : Nat) = V.int a.1
    rw [a1])
/-- C.N, a constant of the class -/
theorem ev_cvalI {C : Addr} {mc : Value} {f : Str} {n : Int} {w : Value} (hC : ClX.CRead c.K C mc) (hv : ClX.CVal c.K C mc f (.int n) w) : Ev c Γ (ClX.tCVal c.K (tC (.ref C)) f) (pure n) rInt := fun S σ F H p Q g q =>
  ⟨C, mc, .int n, w, rfl, hC, hv, q.now g.sub g.pl rfl⟩
end
end Kf

set_option maxHeartbeats 4000000
/-! Kf: defs called within an except suite -/
namespace Kf
open PySem PySem.Spec L2
open PyProof.Rows hiding St
/-- the suite bears the exception that is handled -/
theorem hot_suite {X : Cx} {a : Addr} {oe : Obj} {cls : Value} {d : Option Addr} {pn : List (Addr × Obj)} (hz : L2N.Zn cls d oe) (hf : ∃ vs, oe.data = .fields vs) : L2H.HotC (X.suite a ((a, oe) :: pn)) := by
  obtain ⟨vs, hv⟩ := hf
  exact ⟨(a, oe), ⟨rfl, vs, hv, hz.2.2 vs hv⟩, List.mem_cons_self⟩
theorem room_suite {X : Cx} {a : Addr} {pn : List (Addr × Obj)} {k : Nat} (r : Room k X.A) : L2H.RoomH k (X.suite a pn).A := ⟨r.dp, r.un⟩
section
variable {P : Program} {w : World} {K : PySem.W.Frag} {mg : Str → Option Value} {base : Heap} {A α : Type}
theorem okFH {x qual : Str} {params : Arguments} {body : List Stmt} {scope : Scope} {dvs : List V} {kws : List (Str × V)} {f : Addr} {fd : FuncData} {N ps : List Str} {k n j : Nat} {ra : Ra A} {m : A → PM α} {r : Rl α} {Γ : A → List Sl}
    (F : FunD K x qual params body scope dvs kws f fd) (S : FnScope N ps scope) (hb : Bd ra Γ n) (hn : ps.length = n) (hN : N.length = n + j)
    (hbody : ∀ (cdv : Value) (A_ : Around) (outer : List Env) (s : Shared) (H : Hp) (E : XK) (p : Addr × Obj), L2H.RoomH k (A_.deeper (envOfC qual scope s.heap.objs.size f cdv)) → L2H.HotC (L2H.cxH (L2N.CX P w) P w K mg base N qual scope f cdv A_ outer s H E p) →
      ∃ t, PSs (L2H.cxH (L2N.CX P w) P w K mg base N qual scope f cdv A_ outer s H E p) body t ∧ ∀ a, El (cfE K none 0 E) r True (Γ a ++ anys j) t (m a)) : L2H.FnH P w K mg base (L2N.CX P w) (k + 1) f fd ps (spF K ra m r) := by
  obtain ⟨oc, od, dV, kV, doc, pm, an, cdv, ct, osl, rfl, lk, hcd, _, _⟩ := F.ex
  refine L2H.fn_ofH lk hcd S (fun vs H Q E h => ?_) fun A_ outer s H vs Q E p hot hr h => ?_
  · obtain ⟨F0, a, p, s1, h2, _⟩ := h
    rw [(hb F0 H vs a 0 h2).1, hn]
  · obtain ⟨t, h1, h2⟩ := hbody cdv A_ outer s H E p hr ⟨p, hot, List.mem_singleton.mpr rfl⟩
    obtain ⟨F0, a, p0, s1, s2, s3⟩ := h
    obtain ⟨k1, k2, k3⟩ := hb F0 H vs a j s2
    refine ⟨t, h1, ?_⟩
    rw [start_eq (n := n) k1 hN]
    exact h2 a (F0, H) _ F0 H p0 _ (good_start rfl s1 k2 k3 trivial) (fun _ _ _ z => z) s3.toL
/-- a promise at no depth: never kept -/
theorem never0H {f : Addr} {fd : FuncData} {ps : List Str} {ra : Ra A} {m : A → PM α} {r : Rl α} {Γ : A → List Sl} {n k : Nat} (hb : Bd ra Γ n) (hn : ps.length = n) (hm : ∀ a, m a = stuck) : L2H.FnH P w K mg base (L2N.CX P w) k f fd ps (spF K ra m r) :=
  ⟨fun vs H Q E h => by
    obtain ⟨F0, a, p, s1, h2, _⟩ := h
    rw [(hb F0 H vs a 0 h2).1, hn], fun A_ outer s H args us vs Q E p hr h1 h2 h3 h4 h5 h => by
    obtain ⟨F0, a, p, s1, h2, h6⟩ := h
    rw [hm a] at h6
    exact h6.elim⟩
end
section
variable {c : Cf} {Γ : List Sl} {α β A : Type} {t : TA}
theorem ev_callS0 (hq : c.q = none) {ra : Ra A} {f : A → PM α} {r : Rl α} {m : PM A} (h : Ea c Γ t m ra) : Ev c Γ (tCallS (spF c.K ra f r) (WE c.W) t) (m >>= fun a => f a) r := fun S σ F H p Q g q => by
  have := ev_call0 hq (f := f) (r := r) h S σ F H p Q g q
  unfold tCallSD at this
  simp only [List.append_nil] at this
  exact this
theorem ev_callS {ra : Ra A} {f : A → PM α} {r : Rl α} {m : PM A} (h : Ea c Γ t m ra) : Ev c Γ (tCallS (spF c.K ra f r) (WE c.W) t) (m >>= fun a => frame (f a)) r := fun S σ F H p Q g q => by
  have := ev_call (f := f) (r := r) h S σ F H p Q g q
  unfold tCallSD at this
  simp only [List.append_nil] at this
  exact this
end
end Kf
namespace Kf
open PySem PySem.Spec L2
open PyProof.Rows hiding St
/-! ### further facts of the written part -/
def crB (K : PySem.W.Frag) (x : Str) : Bool := PySem.W.readsIn K (He.ga K x) (.type "type") && eqOV (PySem.W.specialIn K (.ref (He.ga K x)) "__getattribute__") (some (some (.builtin "type.__getattribute__")))
theorem crB_ok {K : PySem.W.Frag} {x : Str} (h : crB K x = true) : ClX.CRead K (He.ga K x) (.type "type") := by
  unfold crB at h
  rw [Bool.and_eq_true] at h
  exact ⟨h.1, eqOV_ok h.2⟩
def cvB (K : PySem.W.Frag) (x f : Str) (n : Int) : Bool := match PySem.W.findCls K (.ref (He.ga K x)) (.type "type") f with
  | some (.val (.int i _)) => decide (i = n)
  | _ => false
theorem cvB_ok {K : PySem.W.Frag} {x f : Str} {n : Int} (h : cvB K x f n = true) : ∃ u, ClX.CVal K (He.ga K x) (.type "type") f (.int n) u := by
  unfold cvB at h
  split at h
  · rename_i i t e
    have z : i = n := of_decide_eq_true h
    subst z
    exact ⟨_, e, ⟨t, rfl⟩⟩
  · cases h
def emptyTB (K : PySem.W.Frag) (a : Addr) : Bool := match K.lookup a with
  | some ⟨.type c, _, .seq its _, _⟩ => decide (c = "tuple") && decide (its.size = 0)
  | _ => false
theorem emptyTB_ok {K : PySem.W.Frag} {a : Addr} (h : emptyTB K a = true) : SqT K (fun _ => none) a [] := by
  unfold emptyTB at h
  split at h
  · rename_i c dd its n sl e
    rw [Bool.and_eq_true, decide_eq_true_eq, decide_eq_true_eq] at h
    obtain ⟨rfl, h2⟩ := h
    have hi : its = #[] := Array.size_eq_zero_iff.mp h2
    subst hi
    exact .inr ⟨_, #[], n, e, rfl, rfl, by decide, .nil⟩
  · cases h
def etB (K : PySem.W.Frag) (CL : List Str) (T : Str) (Tv : Value) : Bool := CL.all fun x => decide (PySem.W.exmOne K (.ref (He.ga K x)) Tv = some (errSub x T))
theorem etB_ok {K : PySem.W.Frag} {CL : List Str} {T : Str} {Tv : Value} (h : etB K CL T Tv = true) : ErrT K CL T Tv := fun x hx => of_decide_eq_true (List.all_eq_true.mp h x hx)
def eiB (K : PySem.W.Frag) (CL : List Str) (T : Str) (Tv : Value) : Bool := CL.all fun x => decide (PySem.W.kitOne K (.ref (He.ga K x)) Tv = some (errSub x T))
theorem eiB_ok {K : PySem.W.Frag} {CL : List Str} {T : Str} {Tv : Value} (h : eiB K CL T Tv = true) : ErrI K CL T Tv := fun x hx => of_decide_eq_true (List.all_eq_true.mp h x hx)
def efB (K : PySem.W.Frag) (CL : List Str) (f : Str) : Bool := CL.all fun x => eqOV (PySem.W.findIn K (.ref (He.ga K x)) f) (some none)
theorem efB_ok {K : PySem.W.Frag} {CL : List Str} {f : Str} (h : efB K CL f = true) : ∀ x ∈ CL, PySem.W.findIn K (.ref (He.ga K x)) f = some none := fun x hx => eqOV_ok (List.all_eq_true.mp h x hx)
theorem exAt {K : PySem.W.Frag} {l : List (PySem.W.Frag → Bool)} (h : (l.all fun f => f K) = true) (i : Nat) {f : PySem.W.Frag → Bool} (e : l[i]? = some f) : f K = true := List.all_eq_true.mp h f (List.mem_of_getElem? e)
end Kf

set_option maxHeartbeats 4000000
/-! Kf: a table of truth values, closed (the laws' own closure) -/
namespace Kf
open PySem PySem.Spec L2
open PyProof.Rows hiding St
/-! ### rules with the written part told ahead (within a comprehension's block) -/
section
variable {X : Cx} {K : PySem.W.Frag}
theorem ix_listK (e : X.K = K := by rfl) : IxR X (rIxL K) := e ▸ ix_list
theorem ix_tupK (e : X.K = K := by rfl) : IxR X (rIxT K) := e ▸ ix_tup
theorem op_in_seqK (e : X.K = K := by rfl) : OpR X (compareOp .In) (rIn K false) := e ▸ op_in_seq
theorem op_notIn_seqK (e : X.K = K := by rfl) : OpR X (compareOp .NotIn) (rIn K true) := e ▸ op_notIn_seq
theorem sl_listK (e : X.K = K := by rfl) : SlR X (rSlL K) := e ▸ sl_list
theorem call_len_seqK (e : X.K = K := by rfl) : CallR X (.builtin "len") (rLenQ K) := by subst e; exact call_len_seq
theorem call_list_ofK (e : X.K = K := by rfl) : CallR X (.type "list") (rListOf K) := by subst e; exact call_list_of
theorem call_tuple_ofK (e : X.K = K := by rfl) : CallR X (.type "tuple") (rTupOf K) := by subst e; exact call_tuple_of
theorem cr_allK (hc : X.calm = true) (e : X.K = K := by rfl) : CallR X (.builtin "all") (rAll K) := e ▸ cr_all hc
theorem cr_anyK (hc : X.calm = true) (e : X.K = K := by rfl) : CallR X (.builtin "any") (rAny K) := e ▸ cr_any hc
theorem call_isiK (e : X.K = K := by rfl) : CallR X (.builtin "isinstance") (rIsi K) := e ▸ call_isi
theorem pi_listK {tg l : Expr} {tl : TE} (hl : PE X l tl) (e : X.K = K := by rfl) : PI X tg l (iList K tl) := e ▸ pi_list hl
theorem pi_tupK {tg l : Expr} {tl : TE} (hl : PE X l tl) (e : X.K = K := by rfl) : PI X tg l (iTup K tl) := e ▸ pi_tup hl
theorem pg_tupK {es : List Expr} {k : Nat} {pos : Pos} {t : TGs} {n : Nat} (h : PGs X es t) (hc : X.calm = true := by rfl) (e : X.K = K := by rfl) (hn : (assignEach es X.env).length = n := by rfl) (hst : (assignEach es X.env).findIdx? (·.1) = none := by rfl) : PG X (.Tuple es k pos) (gTup K n t) := by subst e; exact pg_tup hc h hn hst
theorem pe_fldK {e0 : Expr} {f : Str} {pos : Pos} {ta : TE} (he : PE X e0 ta) (hb : attributeBase e0 f X.env (eval e0 X.env) = eval e0 X.env := by rfl) (e : X.K = K := by rfl) : PE X (.Attribute e0 f pos) (tFld K ta f) := e ▸ pe_fld he hb
end
def setRC (rows : List (List Bool)) (a b : Nat) : List (List Bool) := rows.set a ((rows.getD a []).set b true)
def getRC (rows : List (List Bool)) (a b : Nat) : Bool := (rows.getD a []).getD b false
def rows0 (n : Nat) : List (List Bool) := (List.range n).map fun a => (List.range n).map fun b => decide (a = b)
def told (n : Nat) (ps : List (Int × Int)) : List (List Bool) := ps.foldl (fun rows p => setRC rows p.1.toNat p.2.toNat) (rows0 n)
def war3 (n mid low : Nat) (rows : List (List Bool)) : List (List Bool) := (List.range n).foldl (fun rows high => if getRC rows mid high = true then setRC rows low high else rows) rows
def war2 (n mid : Nat) (rows : List (List Bool)) : List (List Bool) := (List.range n).foldl (fun rows low => if getRC rows low mid = true then war3 n mid low rows else rows) rows
def war (n : Nat) (rows : List (List Bool)) : List (List Bool) := (List.range n).foldl (fun rows mid => war2 n mid rows) rows
def AboveOk (count : Int) (ps : List (Int × Int)) : Prop := 0 ≤ count ∧ count ≤ 1000 ∧ ∀ p ∈ ps, 0 ≤ p.1 ∧ p.1 < count ∧ 0 ≤ p.2 ∧ p.2 < count
instance (count : Int) (ps : List (Int × Int)) : Decidable (AboveOk count ps) := inferInstanceAs (Decidable (_ ∧ _ ∧ _))
def aboveM (count : Int) (ps : List (Int × Int)) : PM (List (List Bool)) := guardM (AboveOk count ps) (war count.toNat (told count.toNat ps))
end Kf

set_option maxHeartbeats 4000000
/-! Kf: the reading of the laws' own closure -/
namespace Kf
open PySem PySem.Spec L2
open PyProof.Rows hiding St
/-- a list of lists of truth values, all new since H0 -/
structure Rw (H0 : Hp) (n : Nat) (p : Addr) (qs : List Addr) (rows : List (List Bool)) (H : Hp) : Prop where
  base : Same H0 H
  top : H p = some (.lst (qs.map V.ref))
  row : ∀ (i : Nat) (q : Addr), qs[i]? = some q → H q = some (.lst ((rows.getD i []).map V.bl))
  lq : qs.length = n
  lr : rows.length = n
  sz : ∀ i, i < n → (rows.getD i []).length = n
  nd : qs.Nodup
  pq : p ∉ qs
  fp : H0 p = none
  fq : ∀ q ∈ qs, H0 q = none
theorem getD_set {α : Type} (l : List α) (i j : Nat) (a d : α) (h : i < l.length) : (l.set i a).getD j d = if j = i then a else l.getD j d := by
  simp only [List.getD_eq_getElem?_getD, List.getElem?_set]
  by_cases e : i = j
  · subst e; simp [h]
  · have e' : ¬ j = i := fun z => e z.symm
    simp [e, e']
theorem nodup_at {α : Type} : ∀ {l : List α} {i j : Nat} {a : α}, l.Nodup → l[i]? = some a → l[j]? = some a → i = j
  | [], _, _, _, _, h, _ => by simp at h
  | x :: l, 0, 0, _, _, _, _ => rfl
  | x :: l, 0, j + 1, a, nd, h, k => by
    have h' : x = a := by simpa using h
    subst h'
    have k' : l[j]? = some x := by simpa using k
    exact absurd (List.mem_of_getElem? k') (List.nodup_cons.mp nd).1
  | x :: l, i + 1, 0, a, nd, h, k => by
    have h' : x = a := by simpa using k
    subst h'
    have k' : l[i]? = some x := by simpa using h
    exact absurd (List.mem_of_getElem? k') (List.nodup_cons.mp nd).1
  | x :: l, i + 1, j + 1, a, nd, h, k => congrArg (· + 1) (nodup_at (List.nodup_cons.mp nd).2 (by simpa using h) (by simpa using k))
theorem setRC_len (rows : List (List Bool)) (a b : Nat) : (setRC rows a b).length = rows.length := by simp [setRC]
theorem Rw.set {H0 : Hp} {n : Nat} {p : Addr} {qs : List Addr} {rows : List (List Bool)} {H : Hp} (h : Rw H0 n p qs rows H) {a b : Nat} {q : Addr} (hb : b < n) (hq : qs[a]? = some q) : Rw H0 n p qs (setRC rows a b) (upd H q (.lst (((rows.getD a []).map V.bl).set b (.bl true)))) := by
  have hm : q ∈ qs := List.mem_of_getElem? hq
  have ha : a < n := by
    have := (List.getElem?_eq_some_iff.mp hq).1
    rw [h.lq] at this; exact this
  have np : p ≠ q := fun z => h.pq (by rw [z]; exact hm)
  refine ⟨fun c o z => ?_, ?_, fun i x hi => ?_, h.lq, by rw [setRC_len, h.lr], fun i hi => ?_, h.nd, h.pq, h.fp, h.fq⟩
  · rw [upd_ne (fun y => by rw [y, h.fq q hm] at z; cases z)]
    exact h.base c o z
  · rw [upd_ne np]; exact h.top
  · unfold setRC
    rw [getD_set _ _ _ _ _ (by rw [h.lr]; exact ha)]
    by_cases e : i = a
    · subst e
      have ex : x = q := by rw [hq] at hi; exact (Option.some.inj hi).symm
      subst ex
      rw [if_pos rfl, upd_same, List.map_set]
    · have ne : x ≠ q := fun z => by
        subst z
        exact e (nodup_at h.nd hi hq)
      rw [if_neg e, upd_ne ne]
      exact h.row i x hi
  · unfold setRC
    rw [getD_set _ _ _ _ _ (by rw [h.lr]; exact ha)]
    by_cases e : i = a
    · subst e; rw [if_pos rfl, List.length_set]; exact h.sz i hi
    · rw [if_neg e]; exact h.sz i hi
theorem getD_at {α : Type} {l : List α} {i : Nat} {d : α} (h : i < l.length) : l.getD i d = l[i] := by simp [List.getD, h]
/-- reading rows[a][b] -/
theorem Rw.get {H0 : Hp} {n : Nat} {p : Addr} {qs : List Addr} {rows : List (List Bool)} {H : Hp} (h : Rw H0 n p qs rows H) {a b : Nat} (ha : a < n) (hb : b < n) : ∃ q, qs[a]? = some q ∧ H q = some (.lst ((rows.getD a []).map V.bl)) ∧ ((rows.getD a []).map V.bl)[b]? = some (V.bl (getRC rows a b)) := by
  have hq : qs[a]? = some (qs[a]'(by rw [h.lq]; exact ha)) := List.getElem?_eq_getElem _
  refine ⟨_, hq, h.row a _ hq, ?_⟩
  have hl : b < (rows.getD a []).length := by rw [h.sz a ha]; exact hb
  unfold getRC
  rw [List.getElem?_map, List.getElem?_eq_getElem hl]
  show some (V.bl _) = some (V.bl _)
  have e : (rows.getD a []).getD b false = (rows.getD a [])[b] := getD_at hl
  rw [e]
theorem atI_ofNat {α : Type} {xs : List α} {i : Nat} {a : α} (h : xs[i]? = some a) : atI xs (i : Int) = some a := by
  have hl := (List.getElem?_eq_some_iff.mp h).1
  unfold atI ixN
  rw [if_pos (by omega), if_pos (by omega)]
  simpa using h
theorem ixN_ofNat {n i : Nat} (h : i < n) : ixN n (i : Int) = some i := by
  unfold ixN
  rw [if_pos (by omega), if_pos (by omega)]
  simp
/-- the slots: the count, the pairs, the rows -/
structure Sg (n : Nat) (l p : Addr) (σ : St) : Prop where
  len : σ.length = 9
  h0 : σ[0]? = some (some (.int (n : Int)))
  h1 : σ[1]? = some (some (.ref l))
  h2 : σ[2]? = some (some (.ref p))
theorem Sg.set {n : Nat} {l p : Addr} {σ : St} (s : Sg n l p σ) {i : Nat} (hi : 3 ≤ i) (v : V) : Sg n l p (σ.set i (some v)) :=
  ⟨by rw [List.length_set]; exact s.len, by rw [List.getElem?_set_ne (by omega)]; exact s.h0, by rw [List.getElem?_set_ne (by omega)]; exact s.h1, by rw [List.getElem?_set_ne (by omega)]; exact s.h2⟩
theorem Sg.at {n : Nat} {l p : Addr} {σ : St} (s : Sg n l p σ) {i : Nat} (hi : i < 9) (v : V) : (σ.set i (some v))[i]? = some (some v) := by
  rw [List.getElem?_set_self (by rw [s.len]; exact hi)]
section
variable {c : Cf} {n : Nat} {l p : Addr} {H0 : Hp} {qs : List Addr}
/-- the innermost walk -/
theorem rd_war3 {D : Ends} {mid low : Nat} {σ : St} {H : Hp} {rows : List (List Bool)} (hn : n ≤ 1000) (s : Sg n l p σ) (h4 : σ[4]? = some (some (.int (mid : Int)))) (h5 : σ[5]? = some (some (.int (low : Int)))) (hm : mid < n) (hl : low < n) (h : Rw H0 n p qs rows H)
    (hq : ∀ σ' H', Sg n l p σ' → σ'[4]? = some (some (.int (mid : Int))) → σ'[5]? = some (some (.int (low : Int))) → Rw H0 n p qs (war3 n mid low rows) H' → D.nx σ' H') :
    tFor (iRng1 (tCons (tVar 0) tNil)) (gName 6) (tIfS (tB (tOp (rIxL c.K) (tOp (rIxL c.K) (tVar 2) (tVar 4)) (tVar 6))) (tAsg (tC (V.bl true)) (gSub (tOp (rIxL c.K) (tVar 2) (tVar 5)) (tVar 6) rSetL)) tNext) D σ H := by
  let rows' : Nat → List (List Bool) := fun i => (List.range i).foldl (fun rows high => if getRC rows mid high = true then setRC rows low high else rows) rows
  refine ⟨_, s.h0, (n : Int), rfl, by omega, by omega, ?_⟩
  have e : Itr 0 (n : Int).toNat = Itr 0 n := by simp
  rw [e]
  refine for_range (lo := 0) (n := n) (fun i σ' H' => Sg n l p σ' ∧ σ'[4]? = some (some (.int (mid : Int))) ∧ σ'[5]? = some (some (.int (low : Int))) ∧ Rw H0 n p qs ((List.range i).foldl (fun rows high => if getRC rows mid high = true then setRC rows low high else rows) rows) H')
    ⟨s, h4, h5, h⟩ (fun i σ' H' hi ⟨s', k4, k5, h'⟩ => ?_) (fun σ' H' ⟨s', k4, k5, h'⟩ => hq σ' H' s' k4 k5 h')
  have s2 := s'.set (i := 6) (by omega) (.int (0 + (i : Int)))
  have k4' : (σ'.set 6 (some (.int (0 + (i : Int)))))[4]? = some (some (.int (mid : Int))) := by rw [List.getElem?_set_ne (by omega)]; exact k4
  have k5' : (σ'.set 6 (some (.int (0 + (i : Int)))))[5]? = some (some (.int (low : Int))) := by rw [List.getElem?_set_ne (by omega)]; exact k5
  have k6 : (σ'.set 6 (some (.int (0 + (i : Int)))))[6]? = some (some (.int (i : Int))) := by rw [s'.at (by omega)]; simp
  obtain ⟨q, q1, q2, q3⟩ := h'.get hm hi
  obtain ⟨q', r1, r2, r3⟩ := h'.get hl hi
  have len_q : ((rows' i).getD low []).length = n := h'.sz low hl
  have step : (List.range (i + 1)).foldl (fun rows high => if getRC rows mid high = true then setRC rows low high else rows) rows = if getRC (rows' i) mid i = true then setRC (rows' i) low i else rows' i := by
    rw [List.range_succ, List.foldl_append]
    rfl
  refine ⟨_, s2.h2, _, k4', p, _, (mid : Int), .ref q, rfl, rfl, SqL.of h'.top, atI_ofNat (by rw [List.getElem?_map, q1]; rfl), _, k6, q, _, (i : Int), _, rfl, rfl, SqL.of q2, atI_ofNat q3, _, rfl, ?_⟩
  by_cases hb : getRC (rows' i) mid i = true
  · rw [if_pos hb] at step
    show (if getRC (rows' i) mid i = true then _ else _)
    rw [if_pos hb]
    refine ⟨_, s2.h2, _, k5', p, _, (low : Int), .ref q', rfl, rfl, SqL.of h'.top, atI_ofNat (by rw [List.getElem?_map, r1]; rfl), _, k6, q', _, (i : Int), i, rfl, rfl, r2, ixN_ofNat (by rw [List.length_map, len_q]; exact hi), s2, k4', k5', ?_⟩
    rw [step]
    exact h'.set hi r1
  · rw [if_neg hb] at step
    show (if getRC (rows' i) mid i = true then _ else _)
    rw [if_neg hb]
    refine ⟨s2, k4', k5', ?_⟩
    rw [step]
    exact h'
theorem rd_war2 {D : Ends} {mid : Nat} {σ : St} {H : Hp} {rows : List (List Bool)} (hn : n ≤ 1000) (s : Sg n l p σ) (h4 : σ[4]? = some (some (.int (mid : Int)))) (hm : mid < n) (h : Rw H0 n p qs rows H)
    (hq : ∀ σ' H', Sg n l p σ' → Rw H0 n p qs (war2 n mid rows) H' → D.nx σ' H') :
    tFor (iRng1 (tCons (tVar 0) tNil)) (gName 5) (tIfS (tB (tOp (rIxL c.K) (tOp (rIxL c.K) (tVar 2) (tVar 5)) (tVar 4)))
      (tFor (iRng1 (tCons (tVar 0) tNil)) (gName 6) (tIfS (tB (tOp (rIxL c.K) (tOp (rIxL c.K) (tVar 2) (tVar 4)) (tVar 6))) (tAsg (tC (V.bl true)) (gSub (tOp (rIxL c.K) (tVar 2) (tVar 5)) (tVar 6) rSetL)) tNext)) tNext) D σ H := by
  let rows' : Nat → List (List Bool) := fun i => (List.range i).foldl (fun rows low => if getRC rows low mid = true then war3 n mid low rows else rows) rows
  refine ⟨_, s.h0, (n : Int), rfl, by omega, by omega, ?_⟩
  rw [show Itr 0 (n : Int).toNat = Itr 0 n by simp]
  refine for_range (lo := 0) (n := n) (fun i σ' H' => Sg n l p σ' ∧ σ'[4]? = some (some (.int (mid : Int))) ∧ Rw H0 n p qs (rows' i) H')
    ⟨s, h4, h⟩ (fun i σ' H' hi ⟨s', k4, h'⟩ => ?_) (fun σ' H' ⟨s', k4, h'⟩ => hq σ' H' s' h')
  have s2 := s'.set (i := 5) (by omega) (.int (0 + (i : Int)))
  have k4' : (σ'.set 5 (some (.int (0 + (i : Int)))))[4]? = some (some (.int (mid : Int))) := by rw [List.getElem?_set_ne (by omega)]; exact k4
  have k5 : (σ'.set 5 (some (.int (0 + (i : Int)))))[5]? = some (some (.int (i : Int))) := by rw [s'.at (by omega)]; simp
  obtain ⟨q, q1, q2, q3⟩ := h'.get hi hm
  have step : rows' (i + 1) = if getRC (rows' i) i mid = true then war3 n mid i (rows' i) else rows' i := by
    show (List.range (i + 1)).foldl _ _ = _
    rw [List.range_succ, List.foldl_append]
    rfl
  refine ⟨_, s2.h2, _, k5, p, _, (i : Int), .ref q, rfl, rfl, SqL.of h'.top, atI_ofNat (by rw [List.getElem?_map, q1]; rfl), _, k4', q, _, (mid : Int), _, rfl, rfl, SqL.of q2, atI_ofNat q3, _, rfl, ?_⟩
  by_cases hb : getRC (rows' i) i mid = true
  · rw [if_pos hb] at step
    rw [if_pos hb]
    refine rd_war3 hn s2 k4' k5 hm hi h' fun σ3 H3 s3 k43 k53 h3 => ⟨s3, k43, ?_⟩
    rw [step]
    exact h3
  · rw [if_neg hb] at step
    rw [if_neg hb]
    refine ⟨s2, k4', ?_⟩
    rw [step]
    exact h'
theorem rd_war {D : Ends} {σ : St} {H : Hp} {rows : List (List Bool)} (hn : n ≤ 1000) (s : Sg n l p σ) (h : Rw H0 n p qs rows H) (hq : ∀ σ' H', Sg n l p σ' → Rw H0 n p qs (war n rows) H' → D.nx σ' H') :
    tFor (iRng1 (tCons (tVar 0) tNil)) (gName 4) (tFor (iRng1 (tCons (tVar 0) tNil)) (gName 5) (tIfS (tB (tOp (rIxL c.K) (tOp (rIxL c.K) (tVar 2) (tVar 5)) (tVar 4)))
      (tFor (iRng1 (tCons (tVar 0) tNil)) (gName 6) (tIfS (tB (tOp (rIxL c.K) (tOp (rIxL c.K) (tVar 2) (tVar 4)) (tVar 6))) (tAsg (tC (V.bl true)) (gSub (tOp (rIxL c.K) (tVar 2) (tVar 5)) (tVar 6) rSetL)) tNext)) tNext)) D σ H := by
  let rows' : Nat → List (List Bool) := fun i => (List.range i).foldl (fun rows mid => war2 n mid rows) rows
  refine ⟨_, s.h0, (n : Int), rfl, by omega, by omega, ?_⟩
  rw [show Itr 0 (n : Int).toNat = Itr 0 n by simp]
  refine for_range (lo := 0) (n := n) (fun i σ' H' => Sg n l p σ' ∧ Rw H0 n p qs (rows' i) H') ⟨s, h⟩ (fun i σ' H' hi ⟨s', h'⟩ => ?_) (fun σ' H' ⟨s', h'⟩ => hq σ' H' s' h')
  have s2 := s'.set (i := 4) (by omega) (.int (0 + (i : Int)))
  have k4 : (σ'.set 4 (some (.int (0 + (i : Int)))))[4]? = some (some (.int (i : Int))) := by rw [s'.at (by omega)]; simp
  have step : rows' (i + 1) = war2 n i (rows' i) := by
    show (List.range (i + 1)).foldl _ _ = _
    rw [List.range_succ, List.foldl_append]
    rfl
  refine rd_war2 hn s2 k4 hi h' fun σ3 H3 s3 h3 => ⟨s3, ?_⟩
  rw [step]
  exact h3
/-- the told pairs -/
theorem rd_told {D : Ends} {σ : St} {F H : Hp} {vs : List V} {ps : List (Int × Int)} {rows : List (List Bool)} (s : Sg n l p σ) (hl : H0 l = some (.lst vs)) (sF : Same F H0) (hv : All2 ((rPair c.K rInt rInt).rel F) vs ps) (hp : ∀ x ∈ ps, 0 ≤ x.1 ∧ x.1 < n ∧ 0 ≤ x.2 ∧ x.2 < n)
    (h : Rw H0 n p qs rows H) (hq : ∀ σ' H', Sg n l p σ' → Rw H0 n p qs (ps.foldl (fun rows x => setRC rows x.1.toNat x.2.toNat) rows) H' → D.nx σ' H') :
    tFor (iList c.K (tVar 1)) (gName 3) (tAsg (tC (V.bl true)) (gSub (tOp (rIxL c.K) (tVar 2) (tOp (rIxT c.K) (tVar 3) (tC (V.int 0)))) (tOp (rIxT c.K) (tVar 3) (tC (V.int 1))) rSetL)) D σ H := by
  let rows' : Nat → List (List Bool) := fun i => (ps.take i).foldl (fun rows x => setRC rows x.1.toNat x.2.toNat) rows
  refine ⟨_, s.h1, l, rfl, ⟨vs, SqL.of (h.base _ _ hl)⟩, for_list (K := c.K) (a := l) (xs := vs) (fun i σ' H' => Sg n l p σ' ∧ Rw H0 n p qs (rows' i) H') ⟨s, h⟩ (fun i σ' H' _ ⟨_, h'⟩ => SqL.of (h'.base _ _ hl)) (fun i x σ' H' hx ⟨s', h'⟩ => ?_) (fun σ' H' ⟨s', h'⟩ => hq σ' H' s' ?_)⟩
  · obtain ⟨y, hy, t, va, vb, rfl, ht, ea, eb⟩ := hv.get' hx
    have hm := hp y (List.mem_of_getElem? hy)
    have s2 := s'.set (i := 3) (by omega) (.ref t)
    have k3 : (σ'.set 3 (some (.ref t)))[3]? = some (some (.ref t)) := s'.at (by omega) _
    have ht' : SqT c.K H' t [va, vb] := SqT.same (sF.trans h'.base) ht
    have ea' : va = .int y.1 := ea
    have eb' : vb = .int y.2 := eb
    subst ea' eb'
    have e1 : y.1 = (y.1.toNat : Int) := by omega
    have e2 : y.2 = (y.2.toNat : Int) := by omega
    obtain ⟨q, q1, q2, _⟩ := h'.get (a := y.1.toNat) (b := y.2.toNat) (by omega) (by omega)
    have len_q : ((rows' i).getD y.1.toNat []).length = n := h'.sz _ (by omega)
    have step : rows' (i + 1) = setRC (rows' i) y.1.toNat y.2.toNat := by
      show (ps.take (i + 1)).foldl _ _ = _
      rw [List.take_add_one, hy, List.foldl_append]
      rfl
    refine ⟨_, s2.h2, _, k3, t, _, 0, .int y.1, rfl, rfl, ht', rfl, p, _, y.1, .ref q, rfl, rfl, SqL.of h'.top, ?_, _, k3, t, _, 1, .int y.2, rfl, rfl, ht', rfl, q, _, y.2, y.2.toNat, rfl, rfl, q2, ?_, s2, ?_⟩
    · rw [e1]; exact atI_ofNat (by rw [List.getElem?_map, q1]; rfl)
    · rw [List.length_map, len_q]
      have := ixN_ofNat (n := n) (i := y.2.toNat) (by omega)
      rw [← e2] at this
      exact this
    · rw [step]
      exact h'.set (by omega) q1
  · have e : rows' vs.length = ps.foldl (fun rows x => setRC rows x.1.toNat x.2.toNat) rows := by
      show (ps.take vs.length).foldl _ _ = _
      rw [hv.length, List.take_length]
    rw [← e]
    exact h'
theorem yes_of {σ : St} {H : Hp} {k : Bool → Hp → Prop} (h : k true H) : tYes σ H k := h
/-- a row of the first table, made -/
theorem rd_row {Q : VK} {σ : St} {H : Hp} {a : Nat} (hn : n ≤ 1000) (h0 : σ[0]? = some (some (.int (n : Int)))) (h7 : σ[7]? = some (some (.int (a : Int)))) (hlen : σ.length = 9)
    (hq : ∀ q H', H q = none → Same H H' → (∀ b, b ≠ q → H b = none → H' b = none) → H' q = some (.lst (((List.range n).map fun b => decide (a = b)).map V.bl)) → Q (.ref q) H') :
    tLc (iRng1 (tCons (tVar 0) tNil)) (gName 8) tYes (tOp rEq (tVar 7) (tVar 8)) [8] σ H Q := by
  refine ⟨_, h0, (n : Int), rfl, by omega, by omega, ?_⟩
  rw [show Itr 0 (n : Int).toNat = Itr 0 n by simp]
  intro D hD
  refine lc_range (lo := 0) (n := n) (fun i H' => Same H H' ∧ (∀ b, b ≠ D → H b = none → H' b = none) ∧ H' D = some (.lst (((List.range i).map fun b => decide (a = b)).map V.bl)))
    ⟨same_upd hD, fun b hb z => by rw [upd_ne hb]; exact z, upd_same⟩ (fun i H' hi ⟨s1, s2, s3⟩ => ?_) (fun H' ⟨s1, s2, s3⟩ => hq D H' hD s1 s2 s3)
  have w0 : wipe σ [8] = σ.set 8 none := rfl
  refine ⟨by rw [w0]; show wipe ((σ.set 8 none).set 8 _) [8] = _; show ((σ.set 8 none).set 8 _).set 8 none = _; simp, ?_⟩
  have k7 : ((wipe σ [8]).set 8 (some (.int (0 + (i : Int)))))[7]? = some (some (.int (a : Int))) := by rw [w0, List.getElem?_set_ne (by omega), List.getElem?_set_ne (by omega)]; exact h7
  have k8 : ((wipe σ [8]).set 8 (some (.int (0 + (i : Int)))))[8]? = some (some (.int (i : Int))) := by
    rw [w0, List.getElem?_set_self (by rw [List.length_set, hlen]; omega)]
    simp
  refine yes_of ?_
  rw [if_pos rfl]
  refine ⟨_, k7, _, k8, rfl, _, s3, ?_, fun b o z => ?_, fun b hb z => ?_, ?_⟩
  · rw [List.length_map, List.length_map, List.length_range, sizeLine_eq]; omega
  · have nb : b ≠ D := fun y => by rw [y, hD] at z; cases z
    rw [upd_ne nb]; exact s1 _ _ z
  · rw [upd_ne hb]; exact s2 b hb z
  · rw [upd_same, List.range_succ, List.map_append, List.map_append]
    have e : decide (V.int (a : Int) = V.int (i : Int)) = decide (a = i) := by
      by_cases h : a = i
      · subst h; simp
      · have : ¬ V.int (a : Int) = V.int (i : Int) := fun z => h (by injection z with z; omega)
        simp [h, this]
    simp only [List.map_cons, List.map_nil, e]
theorem rows0_getD {i : Nat} (hi : i < n) : (rows0 n).getD i [] = (List.range n).map fun b => decide (i = b) := by
  rw [getD_at (by simp [rows0]; exact hi)]
  simp [rows0]
theorem rd_rows {Q : VK} {σ : St} {H : Hp} (hn : n ≤ 1000) (h0 : σ[0]? = some (some (.int (n : Int)))) (hlen : σ.length = 9)
    (hq : ∀ p qs H', Rw H n p qs (rows0 n) H' → Q (.ref p) H') :
    tLc (iRng1 (tCons (tVar 0) tNil)) (gName 7) tYes (tLc (iRng1 (tCons (tVar 0) tNil)) (gName 8) tYes (tOp rEq (tVar 7) (tVar 8)) [8]) [7] σ H Q := by
  refine ⟨_, h0, (n : Int), rfl, by omega, by omega, ?_⟩
  rw [show Itr 0 (n : Int).toNat = Itr 0 n by simp]
  intro D hD
  refine lc_range (lo := 0) (n := n) (fun i H' => Same H H' ∧ ∃ qs : List Addr, qs.length = i ∧ H' D = some (.lst (qs.map V.ref)) ∧ qs.Nodup ∧ D ∉ qs ∧ (∀ q ∈ qs, H q = none) ∧ ∀ j q, qs[j]? = some q → H' q = some (.lst (((List.range n).map fun b => decide (j = b)).map V.bl)))
    ⟨same_upd hD, [], rfl, upd_same, List.nodup_nil, List.not_mem_nil, fun q hq => absurd hq List.not_mem_nil, fun j q hj => by simp at hj⟩ (fun i H' hi ⟨s1, qs, l1, l2, l3, l4, l5, l6⟩ => ?_) (fun H' ⟨s1, qs, l1, l2, l3, l4, l5, l6⟩ => hq D qs H' ?_)
  · have w0 : wipe σ [7] = σ.set 7 none := rfl
    refine ⟨by rw [w0]; show ((σ.set 7 none).set 7 _).set 7 none = _; simp, ?_⟩
    have k0 : ((wipe σ [7]).set 7 (some (.int (0 + (i : Int)))))[0]? = some (some (.int (n : Int))) := by rw [w0, List.getElem?_set_ne (by omega), List.getElem?_set_ne (by omega)]; exact h0
    have k7 : ((wipe σ [7]).set 7 (some (.int (0 + (i : Int)))))[7]? = some (some (.int (i : Int))) := by
      rw [w0, List.getElem?_set_self (by rw [List.length_set, hlen]; omega)]
      simp
    refine yes_of ?_
    rw [if_pos rfl]
    refine rd_row hn k0 k7 (by rw [w0, List.length_set, List.length_set]; exact hlen) fun q H2 nq t1 t2 t3 => ⟨_, t1 _ _ l2, ?_, fun b o z => ?_, qs ++ [q], ?_, ?_, ?_, ?_, ?_, ?_⟩
    · rw [List.length_map, l1, sizeLine_eq]; omega
    · have nb : b ≠ D := fun y => by rw [y, hD] at z; cases z
      rw [upd_ne nb]; exact t1 _ _ (s1 _ _ z)
    · rw [List.length_append, l1]; rfl
    · rw [upd_same, List.map_append]; rfl
    · refine List.nodup_append.mpr ⟨l3, by simp, fun a ha b hb => ?_⟩
      rw [List.mem_singleton.mp hb]
      intro z
      subst z
      obtain ⟨j, hj⟩ := List.mem_iff_getElem?.mp ha
      rw [l6 j _ hj] at nq
      cases nq
    · intro z
      rcases List.mem_append.mp z with z | z
      · exact l4 z
      · have e := List.mem_singleton.mp z
        rw [← e, l2] at nq
        cases nq
    · intro x hx
      rcases List.mem_append.mp hx with z | z
      · exact l5 x z
      · rw [List.mem_singleton.mp z]
        exact Same.none s1 nq
    · intro j x hj
      have nx : x ≠ D := fun y => by
        subst y
        have hm := List.mem_of_getElem? hj
        rcases List.mem_append.mp hm with z | z
        · exact l4 z
        · have e := List.mem_singleton.mp z
          rw [← e, l2] at nq
          cases nq
      rw [upd_ne nx]
      by_cases hji : j < qs.length
      · rw [List.getElem?_append_left hji] at hj
        exact t1 _ _ (l6 j x hj)
      · rw [List.getElem?_append_right (by omega)] at hj
        have ej : j = i := by
          have := (List.getElem?_eq_some_iff.mp hj).1
          simp at this
          omega
        subst ej
        rw [show j - qs.length = 0 by omega] at hj
        have ex : q = x := by simpa using hj
        subst ex
        exact t3
  · refine ⟨s1, l2, fun i q hi => ?_, l1, by simp [rows0], fun i hi => ?_, l3, l4, hD, l5⟩
    · have hin : i < n := by rw [← l1]; exact (List.getElem?_eq_some_iff.mp hi).1
      rw [rows0_getD hin]
      exact l6 i q hi
    · rw [rows0_getD hi]; simp
theorem all2_of {α β : Type} {R : α → β → Prop} : ∀ {l : List α} {m : List β}, l.length = m.length → (∀ (i : Nat) a b, l[i]? = some a → m[i]? = some b → R a b) → All2 R l m
  | [], [], _, _ => .nil
  | [], _ :: _, h, _ => by simp at h
  | _ :: _, [], h, _ => by simp at h
  | a :: l, b :: m, h, k => .cons (k 0 a b rfl rfl) (all2_of (by simpa using h) fun i a b ha hb => k (i + 1) a b (by simpa using ha) (by simpa using hb))
/-- THE READING of the laws' own closure -/
theorem el_above (hc : c.q = none) {cnt : Int} {ps : List (Int × Int)} :
    El c (rList (rList rBool)) True ([.val rInt cnt, .val (rList (rPair c.K rInt rInt)) ps] ++ anys 7)
      (tSeq (tAsg (tLc (iRng1 (tCons (tVar 0) tNil)) (gName 7) tYes (tLc (iRng1 (tCons (tVar 0) tNil)) (gName 8) tYes (tOp rEq (tVar 7) (tVar 8)) [8]) [7]) (gName 2))
      (tSeq (tFor (iList c.K (tVar 1)) (gName 3) (tAsg (tC (V.bl true)) (gSub (tOp (rIxL c.K) (tVar 2) (tOp (rIxT c.K) (tVar 3) (tC (V.int 0)))) (tOp (rIxT c.K) (tVar 3) (tC (V.int 1))) rSetL)))
      (tSeq (tFor (iRng1 (tCons (tVar 0) tNil)) (gName 4) (tFor (iRng1 (tCons (tVar 0) tNil)) (gName 5) (tIfS (tB (tOp (rIxL c.K) (tOp (rIxL c.K) (tVar 2) (tVar 5)) (tVar 4)))
        (tFor (iRng1 (tCons (tVar 0) tNil)) (gName 6) (tIfS (tB (tOp (rIxL c.K) (tOp (rIxL c.K) (tVar 2) (tVar 4)) (tVar 6))) (tAsg (tC (V.bl true)) (gSub (tOp (rIxL c.K) (tVar 2) (tVar 5)) (tVar 6) rSetL)) tNext)) tNext)))
        (tRet (tVar 2))))) (aboveM cnt ps) := fun S σ F H p D g hf q => by
  unfold aboveM guardM at q
  by_cases ok : AboveOk cnt ps
  · rw [if_pos ok] at q
    obtain ⟨o1, o2, o3⟩ := ok
    have en : cnt = (cnt.toNat : Int) := by omega
    obtain ⟨v0, a0, b0⟩ := g.sl.val (i := 0) (r := rInt) (a := cnt) rfl
    obtain ⟨v1, a1, b1⟩ := g.sl.val (i := 1) (r := rList (rPair c.K rInt rInt)) (a := ps) rfl
    have hlen : σ.length = 9 := g.sl.len
    have b0' : v0 = .int cnt := b0
    subst b0'
    obtain ⟨l, vs, rfl, k1, k2, k3⟩ := rList.of b1
    have a0' : σ[0]? = some (some (.int (cnt.toNat : Int))) := by rw [a0, ← en]
    show tLc (iRng1 (tCons (tVar 0) tNil)) (gName 7) tYes (tLc (iRng1 (tCons (tVar 0) tNil)) (gName 8) tYes (tOp rEq (tVar 7) (tVar 8)) [8]) [7] σ H (fun v H1 => gName 2 v σ H1 _)
    refine rd_rows (n := cnt.toNat) (by omega) a0' hlen fun y qs H1 r1 => ?_
    have s1 : Sg cnt.toNat l y (σ.set 2 (some (.ref y))) := ⟨by rw [List.length_set]; exact hlen, by rw [List.getElem?_set_ne (by omega)]; exact a0', by rw [List.getElem?_set_ne (by omega)]; exact a1, by rw [List.getElem?_set_self (by rw [hlen]; omega)]⟩
    refine rd_told (n := cnt.toNat) s1 (g.sub _ _ k1) g.sub k3 (fun x hx => by have := o3 x hx; omega) r1 fun σ2 H2 s2 r2 => ?_
    refine rd_war (by omega) s2 r2 fun σ3 H3 s3 r3 => ⟨_, s3.h2, ?_⟩
    have q' : PostL c S (rList (rList rBool)) D ((pure (war cnt.toNat (told cnt.toNat ps)) : PM (List (List Bool))) p) := q
    have r3 : Rw H cnt.toNat y qs (war cnt.toNat (told cnt.toNat ps)) H3 := r3
    have FO : ∀ b, H b = none → F b = none := fun b z => Same.none g.sub z
    let F' : Hp := fun b => if b = y ∨ b ∈ qs then H3 b else F b
    have sF : Same F F' := fun b o z => by
      have hb : ¬ (b = y ∨ b ∈ qs) := fun w => by
        rcases w with w | w
        · rw [w, FO y r3.fp] at z; cases z
        · rw [FO b (r3.fq b w)] at z; cases z
      show (if b = y ∨ b ∈ qs then H3 b else F b) = some o
      rw [if_neg hb]; exact z
    have sH : Same F' H3 := fun b o z => by
      have z' : (if b = y ∨ b ∈ qs then H3 b else F b) = some o := z
      by_cases hb : b = y ∨ b ∈ qs
      · rw [if_pos hb] at z'; exact z'
      · rw [if_neg hb] at z'; exact r3.base _ _ (g.sub _ _ z')
    have e3 : Ext c.q F H F' H3 := ⟨sF, sH, fun b o z _ => r3.base _ _ z, fun b o z => by
      have z' : (if b = y ∨ b ∈ qs then H3 b else F b) = some o := z
      by_cases hb : b = y ∨ b ∈ qs
      · right
        rcases hb with w | w
        · rw [w]; exact r3.fp
        · exact r3.fq b w
      · rw [if_neg hb] at z'; exact .inl z'⟩
    refine q' (.ref y) F' H3 (g.ent.tr e3 g.pl) (by rw [hc]; trivial) (rList.mk (F := F') (vs := qs.map V.ref) ?_ ?_ ?_)
    · show (if y = y ∨ y ∈ qs then H3 y else F y) = _
      rw [if_pos (.inl rfl)]; exact r3.top
    · rw [List.length_map, r3.lq, sizeLine_eq]; omega
    · refine all2_of ?_ fun i v a hv ha => ?_
      · rw [List.length_map, r3.lq, r3.lr]
      · rw [List.getElem?_map] at hv
        rcases eq : qs[i]? with _ | z
        · rw [eq] at hv; cases hv
        · rw [eq] at hv
          have ev : v = .ref z := (Option.some.inj hv).symm
          subst ev
          have hz := r3.row i z eq
          have hin : i < cnt.toNat := by rw [← r3.lq]; exact (List.getElem?_eq_some_iff.mp eq).1
          have ea : (war cnt.toNat (told cnt.toNat ps)).getD i [] = a := by
            rw [List.getD_eq_getElem?_getD, ha]; rfl
          rw [ea] at hz
          refine rList.mk (F := F') (vs := a.map V.bl) ?_ ?_ ?_
          · show (if z = y ∨ z ∈ qs then H3 z else F z) = _
            rw [if_pos (.inr (List.mem_of_getElem? eq))]; exact hz
          · have := r3.sz i hin
            rw [ea] at this
            rw [List.length_map, this, sizeLine_eq]; omega
          · exact all2_of (by rw [List.length_map]) fun j w b hw hb => by
              rw [List.getElem?_map, hb] at hw
              exact (Option.some.inj hw).symm
  · rw [if_neg ok] at q
    exact q.elim
end
end Kf

set_option maxHeartbeats 4000000
/-! Kf: operators that an own class defines -/
namespace Kf
open PySem PySem.Spec L2
open PyProof.Rows hiding St
section
variable {X : Cx} {CX : CXT} {k : Nat} {f C : Addr} {fd : FuncData} {ps : List Str} {sp : Sp} {dvs : List V} {ds : List Value} {E : St → XK} {x mt : Str} {p pos : Pos} {o e i a b : Expr} {ta tb : TE} {A : Around} {pins : List (Addr × Obj)} {σ : St} {H : Hp} {s : Shared} {Q : VK}
/-- a def runs, somewhere below the body X -/
theorem run_fnA {us : List Value} {vs : List V} (F : FnOk X.prog X.w X.K X.mg X.base CX k f fd ps sp) (hr : Room k A) (hA : A.frames = X.A.frames) (hb : Binds X.K fd ps ds) (hd : Vals dvs ds) (hx : PassesAt CX X σ (E σ))
    (I : Inv X pins σ H s) (r : Vals vs us) (h : sp (vs ++ dvs) H Q (E σ)) : wpAny (model X.prog X.w) A (call (.ref f) us) (EP X pins σ Q) X.xe s := by
  have rr : Vals (vs ++ dvs) (us ++ ds) := r.append hd
  have ln : (us ++ ds).length = ps.length := (rr.length).symm.trans (F.len _ _ _ _ h)
  have en : Env0 X.prog X.w X.K X.mg X.base A X.stack s H := { I.env0 with frames := hA.trans I.env0.frames }
  refine wpAny_call (codeAny_mono (F.run _ X.stack _ _ ⟨us, []⟩ _ _ _ _ hr en (hb _ us I.kIn ln) rr h) fun res s' hres => ?_)
  match res, hres with
  | .error er, hres => exact hx pins _ _ er s' I hres
  | .ok (.ret u), hres => exact I.after hres
/-- an operator of an own class with one operand -/
def tUnO (C : Addr) (sp : Sp) (dvs : List V) (E : St → XK) (ta : TE) : TE := fun σ H Q => ta σ H fun x H1 => ∃ q dx fs, x = .ref q ∧ H1 q = some (.ins C dx fs) ∧ sp (x :: dvs) H1 Q (E σ)
/-- .. with two, the instance first -/
def tBinO (C : Addr) (sp : Sp) (dvs : List V) (E : St → XK) (ta tb : TE) : TE := fun σ H Q => ta σ H fun x H1 => tb σ H1 fun y H2 => ∃ q dx fs, x = .ref q ∧ H2 q = some (.ins C dx fs) ∧ sp (x :: y :: dvs) H2 Q (E σ)
/-- .. with two, the instance last -/
def tInO (C : Addr) (sp : Sp) (dvs : List V) (E : St → XK) (ta tb : TE) : TE := fun σ H Q => ta σ H fun y H1 => tb σ H1 fun x H2 => ∃ q dx fs, x = .ref q ∧ H2 q = some (.ins C dx fs) ∧ sp (x :: y :: dvs) H2 Q (E σ)
theorem ins_at {q dx : Addr} {fs : List (Str × V)} (I : Inv X pins σ H s) (e : H q = some (.ins C dx fs)) : ∃ ox od, PySem.W.InstAt s.heap q ox C (some od) := by
  obtain ⟨mA, O, _⟩ := ins_get I.hok e
  obtain ⟨od, J, _⟩ := O.look
  exact ⟨_, _, J⟩
theorem pe_subO (F : FnOk X.prog X.w X.K X.mg X.base CX k f fd ps sp) (hr : Room (k + 1) X.A) (hb : Binds X.K fd ps ds) (hd : Vals dvs ds) (hx : ∀ σ, PassesAt CX X σ (E σ)) (hm : Meth X.K C "__getitem__" f) (hf : PySem.W.fnIn X.K f = true)
    (ho : PE X o ta) (hi : PE X i tb) (hsl : ∀ ov iv, subscripted i true ov iv = runValue (.builtin "lifetime.subscript" ⟨[ov, iv], []⟩) := by intro _ _; with_unfolding_all rfl) :
    PE X (.Subscript o i pos) (tBinO C sp dvs E ta tb) := ⟨fun pins s σ H Q I h =>
  Subscript_ (thn (ho.run pins s σ H _ I h) fun u s1 ⟨x, H1, I1, rx, q1⟩ => thn (hi.run pins s1 σ H1 _ I1 q1) fun iv s2 ⟨y, H2, I2, ry, q, dx, fs, ex, ea, q2⟩ => by
    subst ex
    obtain rfl : u = Value.ref q := rx
    obtain ⟨ox, od, J⟩ := ins_at I2 ea
    obtain ⟨m, hF⟩ := I2.fr
    exact PySem.W.sub_K hF I2.ok.mod.kin J hm.at_ hf hm.fn (run_fnA (us := [.ref q, iv]) (vs := [.ref q, y]) F hr.in1 rfl hb hd (hx σ) I2 (.cons rfl (.cons ry .nil)) q2) (hsl _ _))⟩
end
section
variable {c : Cf} {Γ : List Sl} {α β γ : Type} {ta tb : TE}
theorem ev_binO {x : Str} {fl : α → List FV} {rb : Rl β} {f : α × β × Unit → PM γ} {r : Rl γ} {m : PM α} {mb : PM β} (h : Ev c Γ ta m (rIns c.K x fl)) (hb : Ev c Γ tb mb rb) :
    Ev c Γ (tBinO (He.ga c.K x) (spF c.K (aCons (rIns c.K x fl) (aCons rb aNil)) f r) [] (WE c.W) ta tb) (m >>= fun o => mb >>= fun b => frame (f (o, b, ()))) r := fun S σ F H p Q g q =>
  h S σ F H p _ g (q.seq fun o p1 v F1 H1 e1 pl1 r1 h1 => by
    refine hb S σ F1 H1 p1 _ (g.ext e1 pl1) (h1.seq fun b p2 w F2 H2 e2 pl2 r2 h2 => ?_)
    have r1' := (rIns c.K x fl).mono e2.sub r1
    obtain ⟨y, dx, fs, rfl, k1, k2⟩ := rIns.of r1'
    refine ⟨y, dx, fs, rfl, ((g.ext e1 pl1).ext e2 pl2).sub _ _ k1, F2, (o, b, ()), p2, ((g.ext e1 pl1).ext e2 pl2).sub, ⟨.ref y, [w], rfl, r1', ⟨w, [], rfl, r2, rfl⟩⟩, ?_⟩
    have h3 : Post c σ F2 H2 r Q ((f (o, b, ()) p2).1, p2) := h2
    rcases e : f (o, b, ()) p2 with ⟨er | a, p3⟩
    · rw [e] at h3
      cases er with
      | stuck => exact h3
      | exc ex => exact fun cls d F' H' e' _ k => h3 cls d F' H' e'.widen (pl2.up e') k
    · rw [e] at h3
      exact fun v F' H' e' _ k => h3 v F' H' e'.widen (pl2.up e') k)
theorem ev_max {ma mb : PM Int} (ha : Ev c Γ ta ma rInt) (hb : Ev c Γ tb mb rInt) : Ev c Γ (tCB (fun xs H Q => ∃ i j, xs = [.int i, .int j] ∧ Q (.int (if j > i then j else i)) H) (tCons ta (tCons tb tNil))) (ma >>= fun i => mb >>= fun j => pure (if j > i then j else i)) rInt := fun S σ F H p Q g q =>
  ha S σ F H p _ g (q.seq fun a p1 v F1 H1 e1 pl1 r1 h1 => hb S σ F1 H1 p1 _ (g.ext e1 pl1) (h1.seq fun b p2 w F2 H2 e2 pl2 r2 h2 => ⟨a, b, by rw [show v = .int a from r1, show w = .int b from r2], h2.now ((g.ext e1 pl1).ext e2 pl2).sub pl2 rfl⟩))
theorem ev_min {ma mb : PM Int} (ha : Ev c Γ ta ma rInt) (hb : Ev c Γ tb mb rInt) : Ev c Γ (tCB (fun xs H Q => ∃ i j, xs = [.int i, .int j] ∧ Q (.int (if j < i then j else i)) H) (tCons ta (tCons tb tNil))) (ma >>= fun i => mb >>= fun j => pure (if j < i then j else i)) rInt := fun S σ F H p Q g q =>
  ha S σ F H p _ g (q.seq fun a p1 v F1 H1 e1 pl1 r1 h1 => hb S σ F1 H1 p1 _ (g.ext e1 pl1) (h1.seq fun b p2 w F2 H2 e2 pl2 r2 h2 => ⟨a, b, by rw [show v = .int a from r1, show w = .int b from r2], h2.now ((g.ext e1 pl1).ext e2 pl2).sub pl2 rfl⟩))
end
end Kf

set_option maxHeartbeats 4000000
/-! Kf: defs with a star parameter; static and class methods -/
namespace Kf
open PySem PySem.Spec L2
open PyProof.Rows hiding St
theorem cxUpN {P : Program} {w : World} : StX.CXUp (L2N.CX P w) := fun outer s H s2 H2 E e s' un kp ho h => by
  obtain ⟨q, B, H3, k, dd, eq, fly, hk, u2, nq, eo, bare, hE⟩ := h
  have fr : ∀ b o, s.heap.get? b = some o → H b = none → H2 b = none := fun b o g n => un.free b o g n (by simp)
  refine ⟨q, B, H3, k, dd, eq, fly, hk, ?_, nq, eo.trans ho, bare, hE⟩
  exact {
    keep := fun b o g n hb => u2.keep b o (kp b o g) (fr b o g n) hb
    slot := fun b o g hb => u2.slot b o (kp b o g) hb
    free := fun b o g n => u2.free b o (kp b o g) (fr b o g n)
    there := fun b o g hb => u2.there b o (kp b o g) hb
    tups := fun b xs g => u2.tups b xs (un.tups b xs g)
    frzs := fun b o xs g => u2.frzs b o xs (un.frzs b o xs g)
    tbls := fun b ps g => by
      obtain ⟨m1, e1⟩ := un.tbls b ps g
      obtain ⟨m2, e2⟩ := u2.tbls b _ e1
      exact ⟨m1 ++ m2, by rw [e2, Array.append_assoc]⟩ }
/-! ### arguments of a star parameter -/
def aStar {α : Type} (r : Rl α) : Ra (List α) := ⟨fun F vs l => vs.length ≤ sizeLine ∧ All2 (r.rel F) vs l, fun s h => ⟨h.1, h.2.imp fun _ _ => r.mono s⟩⟩
section
variable {c : Cf} {Γ : List Sl} {α β A : Type} {ta te : TE} {t : TA}
theorem ea_snil {r : Rl α} : Ea c Γ tNil (pure []) (aStar r) := fun S σ F H p Q g q => q.now g.sub g.pl ⟨Nat.zero_le _, .nil⟩
/-- at most eleven arguments more -/
theorem ea_scons {r : Rl α} {ma : PM α} {mr : PM (List α)} {n : Nat} (ha : Ev c Γ ta ma r) (hr : Ea c Γ t mr ⟨fun F vs l => vs.length ≤ n ∧ All2 (r.rel F) vs l, fun s h => ⟨h.1, h.2.imp fun _ _ => r.mono s⟩⟩) :
    Ea c Γ (tCons ta t) (ma >>= fun a => mr >>= fun as => pure (a :: as)) ⟨fun F vs l => vs.length ≤ n + 1 ∧ All2 (r.rel F) vs l, fun s h => ⟨h.1, h.2.imp fun _ _ => r.mono s⟩⟩ := fun S σ F H p Q g q =>
  ha S σ F H p _ g (q.seq fun a p1 v F1 H1 e1 pl1 r1 h1 => hr S σ F1 H1 p1 _ (g.ext e1 pl1) (h1.seq fun as p2 vs F2 H2 e2 pl2 r2 h2 =>
    h2.now ((g.ext e1 pl1).ext e2 pl2).sub pl2 ⟨Nat.succ_le_succ r2.1, .cons (r.mono e2.sub r1) r2.2⟩))
theorem ea_snil0 {r : Rl α} : Ea c Γ tNil (pure []) ⟨fun F vs l => vs.length ≤ 0 ∧ All2 (r.rel F) vs l, fun s h => ⟨h.1, h.2.imp fun _ _ => r.mono s⟩⟩ := fun S σ F H p Q g q => q.now g.sub g.pl ⟨Nat.zero_le _, .nil⟩
theorem ea_sof {r : Rl α} {n : Nat} {m : PM (List α)} (hn : n ≤ 1000) (h : Ea c Γ t m ⟨fun F vs l => vs.length ≤ n ∧ All2 (r.rel F) vs l, fun s h => ⟨h.1, h.2.imp fun _ _ => r.mono s⟩⟩) : Ea c Γ t m (aStar r) := fun S σ F H p Q g q => h S σ F H p Q g (by
  rcases e : m p with ⟨er | a, p1⟩
  · rw [e] at q; cases er <;> exact q
  · rw [e] at q
    exact fun v F' H' e' pl k => q v F' H' e' pl ⟨Nat.le_trans k.1 (Nat.le_trans hn (by decide)), k.2⟩)
/-- *xs behind the others -/
theorem ea_starT {r : Rl α} {m : PM (List α)} (h : Ev c Γ te m (rTup c.K r)) : Ea c Γ (StX.tStar c.K te tNil) m (aStar r) := fun S σ F H p Q g q =>
  h S σ F H p _ g (by
    have q' : Post c σ F H (aStar r) Q ((m >>= fun l => pure l) p) := by rw [bind_pure]; exact q
    exact q'.seq fun l p1 v F1 H1 e1 pl1 r1 h1 => by
      obtain ⟨x, vs, rfl, k1, k2, k3⟩ := r1
      refine ⟨x, vs, rfl, .inl (SqT.same e1.sub' k1), ?_⟩
      show Q (vs ++ []) H1
      rw [List.append_nil]
      exact h1.now (g.ext e1 pl1).sub pl1 ⟨k2, k3⟩)
theorem ea_starL {r : Rl α} {m : PM (List α)} (h : Ev c Γ te m (rList r)) : Ea c Γ (StX.tStar c.K te tNil) m (aStar r) := fun S σ F H p Q g q =>
  h S σ F H p _ g (by
    have q' : Post c σ F H (aStar r) Q ((m >>= fun l => pure l) p) := by rw [bind_pure]; exact q
    exact q'.seq fun l p1 v F1 H1 e1 pl1 r1 h1 => by
      obtain ⟨x, vs, rfl, k1, k2, k3⟩ := rList.of r1
      refine ⟨x, vs, rfl, .inr (SqL.of (e1.sub' _ _ k1)), ?_⟩
      show Q (vs ++ []) H1
      rw [List.append_nil]
      exact h1.now (g.ext e1 pl1).sub pl1 ⟨k2, k3⟩)
end

/-! ### a def with a star parameter -/
/-- what is left over becomes a tuple -/
def StarR {A B : Type} (K : PySem.W.Frag) (ra : Ra A) (rb : Ra B) (cv : A → B) (n : Nat) : Prop := ∀ F vs a, ra.rel F vs a → ∃ ws rest, vs = ws ++ rest ∧ ws.length = n ∧ rest.length ≤ sizeLine ∧ ∀ F' q, Same F F' → F' q = some (.tup rest) → rb.rel F' (ws ++ [.ref q]) (cv a)
theorem star_last {α : Type} {K : PySem.W.Frag} {r : Rl α} : StarR K (aStar r) (aCons (rTup K r) aNil) (fun l => (l, ())) 0 := fun F vs a h =>
  ⟨[], vs, rfl, rfl, h.1, fun F' q s e => ⟨.ref q, [], rfl, ⟨q, vs, rfl, SqT.same (Same.refl F') (.inl (.inl e)), h.1, h.2.imp fun _ _ => r.mono s⟩, rfl⟩⟩
theorem star_more {α A B : Type} {K : PySem.W.Frag} {r : Rl α} {ra : Ra A} {rb : Ra B} {cv : A → B} {n : Nat} (h : StarR K ra rb cv n) : StarR K (aCons r ra) (aCons r rb) (fun x => (x.1, cv x.2)) (n + 1) := fun F vs a k => by
  obtain ⟨v, ws, rfl, h1, h2⟩ := k
  obtain ⟨us, rest, rfl, e, hz, hq⟩ := h F ws a.2 h2
  exact ⟨v :: us, rest, rfl, by rw [List.length_cons, e], hz, fun F' q s e' => ⟨v, us ++ [.ref q], rfl, r.mono s h1, hq F' q s e'⟩⟩
section
variable {P : Program} {w : World} {K : PySem.W.Frag} {mg : Str → Option Value} {base : Heap} {A B α : Type}
theorem okStar {x qual pv : Str} {params : Arguments} {body : List Stmt} {scope : Scope} {kws : List (Str × V)} {f : Addr} {fd : FuncData} {N ps : List Str} {k n j : Nat} {ra : Ra A} {rb : Ra B} {cv : A → B} {m : B → PM α} {r : Rl α} {Γ : B → List Sl}
    (F : FunD K x qual params body scope [] kws f fd) (S : FnScope N (ps ++ [pv]) scope) (hst : StarR K ra rb cv ps.length) (hb : Bd rb Γ n) (hn : ps.length + 1 = n) (hN : N.length = n + j)
    (hbind : ∀ (kV doc pm : Value) (an : Option Addr) (cdv ct : Value) (us rest : List Value), us.length = ps.length → bindArgs (PySem.W.fnOf x qual params body scope .none kV doc pm an cdv ct) ⟨us ++ rest, []⟩ = (newTuple rest >>= fun t => pure (ps.zip us ++ [(pv, t)])))
    (hbody : ∀ (cdv : Value) (A_ : Around) (outer : List Env) (s : Shared) (H : Hp) (E : XK), Room k (A_.deeper (envOfC qual scope s.heap.objs.size f cdv)) →
      ∃ t, PSs (cxOf (L2N.CX P w) P w K mg base N qual scope f cdv A_ outer s H E) body t ∧ ∀ a, El (cfE K none 0 E) r True (Γ a ++ anys j) t (m a)) : FnR P w K mg base (L2N.CX P w) (k + 1) f (spF K ra (fun a => m (cv a)) r) := by
  obtain ⟨oc, od, dV, kV, doc, pm, an, cdv, ct, osl, rfl, lk, hcd, hD, hK⟩ := F.ex
  have hd0 : dV = .none := by
    rcases hD with ⟨_, e⟩ | ⟨e, _⟩
    · exact e
    · exact absurd rfl e
  subst hd0
  refine FnR.imp (StX.fn_star (sp := spF K rb m r) lk hcd S cxUpN (hbind kV doc pm an cdv ct) fun A_ outer s H vs Q E hr h => ?_) fun vs H Q E h => ?_
  · obtain ⟨t, h1, h2⟩ := hbody cdv A_ outer s H E hr
    obtain ⟨F1, a, p, s1, s2, s3⟩ := h
    obtain ⟨k1, k2, k3⟩ := hb F1 H vs a j s2
    refine ⟨t, h1, ?_⟩
    rw [start_eq k1 hN]
    exact h2 a (F1, H) _ F1 H p _ (good_start rfl s1 k2 k3 trivial) (fun _ _ _ z => z) s3.toL
  · obtain ⟨F1, a, p, s1, s2, s3⟩ := h
    obtain ⟨ws, rest, rfl, hl, hz, hq⟩ := hst F1 vs a s2
    refine ⟨ws, rest, rfl, hl, hz, fun q hnq => ?_⟩
    have fq : F1 q = none := by
      cases e : F1 q with
      | none => rfl
      | some o => rw [s1 _ _ e] at hnq; cases hnq
    have sF : Same F1 (upd F1 q (.tup rest)) := fun b o e => by
      rw [upd_ne (fun z => by subst z; rw [fq] at e; cases e)]
      exact e
    have sH : Same (upd F1 q (.tup rest)) (upd H q (.tup rest)) := fun b o e => by
      by_cases z : b = q
      · subst z
        rw [upd_same] at e ⊢
        exact e
      · rw [upd_ne z] at e ⊢
        exact s1 _ _ e
    have ex : Ext none F1 H (upd F1 q (.tup rest)) (upd H q (.tup rest)) := ⟨sF, sH, fun b o e _ => by
      rw [upd_ne (fun z => by subst z; rw [hnq] at e; cases e)]
      exact e, fun b o e => by
      by_cases z : b = q
      · subst z
        exact .inr hnq
      · rw [upd_ne z] at e
        exact .inl e⟩
    exact ⟨upd F1 q (.tup rest), cv a, p, sH, hq _ q sF upd_same, s3.later (p := p) ex trivial⟩
end
/-! ### calls of such defs -/
section
variable {X : Cx} {CX : CXT} {k i : Nat} {f g C q0 : Addr} {sp : Sp} {E : St → XK} {x mt : Str} {p pos apos : Pos} {o e : Expr} {es : List Expr} {ta : TE} {t : TA} {A : Around} {pins : List (Addr × Obj)} {σ : St} {H : Hp} {s : Shared} {Q : VK} {mc : Value}
theorem run_fnRC {us : List Value} {vs : List V} (F : FnR X.prog X.w X.K X.mg X.base CX k f sp) (hr : Room k X.A) (hx : PassesAt CX X σ (E σ)) (I : Inv X pins σ H s) (r : Vals vs us) (h : sp vs H Q (E σ)) :
    codeAny (model X.prog X.w) X.A (.call (.ref f) ⟨us, []⟩) (fun r s' => match r with | .ok (.ret v) => EP X pins σ Q v s' | .ok _ => False | .error e => X.xe e s') s := by
  refine codeAny_mono (F X.A X.stack s H us vs Q (E σ) hr I.env0 r h) fun res s' hres => ?_
  match res, hres with
  | .error er, hres => exact hx pins _ _ er s' I hres
  | .ok (.ret u), hres => exact I.after hres
theorem run_fnRV {us : List Value} {vs : List V} (F : FnR X.prog X.w X.K X.mg X.base CX k f sp) (hr : Room k X.A) (hx : PassesAt CX X σ (E σ)) (I : Inv X pins σ H s) (r : Vals vs us) (h : sp (vs ++ []) H Q (E σ)) :
    wpAny (model X.prog X.w) X.A (call (.ref f) us) (EP X pins σ Q) X.xe s := by
  rw [List.append_nil] at h
  exact wpAny_call (run_fnRC F hr hx I r h)
/-- x(e, ..) -/
theorem pe_callR (F : FnR X.prog X.w X.K X.mg X.base CX k f sp) (hr : Room k X.A) (hg : Gl X x) (hm : X.mg x = some (.ref f)) (hk : PySem.W.keepIn X.K (.ref f) = true) (hx : ∀ σ, PassesAt CX X σ (E σ)) (ha : PA X (e :: es) t)
    (hdb : (x == ("__debug__" : Str)) = false := by decide) (he : starEach (e :: es) X.env = (false, eval e X.env) :: starEach es X.env := by rfl) (hpl : (backTo pos (starEach es X.env)).any (·.1) = false := by rfl) :
    PE X (.Call (.Name x p) (e :: es) [] pos) (tCallSD sp [] E t) := ⟨fun pins s σ H Q I h =>
  wpAny_Call_Name_kw (ld_glob I hg hm (PySem.W.callWith_K (h₀ := X.base) I.ok.mod.kin hk (thn (ha.run pos pins s σ H _ I h) fun us s1 ⟨vs, H1, I1, r, z⟩ => ⟨I1.kIn, run_fnRV F hr (hx σ) I1 r z⟩) he hpl) hdb)⟩
/-- x(e, .., *y) -/
theorem pe_callRS (F : FnR X.prog X.w X.K X.mg X.base CX k f sp) (hr : Room k X.A) (hg : Gl X x) (hm : X.mg x = some (.ref f)) (hk : PySem.W.keepIn X.K (.ref f) = true) (hx : ∀ σ, PassesAt CX X σ (E σ)) (ha : PA X (e :: es) t)
    (hdb : (x == ("__debug__" : Str)) = false := by decide) (he : starEach (e :: es) X.env = (false, eval e X.env) :: starEach es X.env := by rfl) (hpl : (backTo pos (starEach es X.env)).any (·.1) = true := by rfl) :
    PE X (.Call (.Name x p) (e :: es) [] pos) (tCallSD sp [] E t) := ⟨fun pins s σ H Q I h =>
  wpAny_Call_Name_kw (ld_glob I hg hm (PySem.W.callWith_S2 (h₀ := X.base) I.ok.mod.kin hk (thn (ha.run pos pins s σ H _ I h) fun us s1 ⟨vs, H1, I1, r, z⟩ => ⟨I1.kIn, run_fnRV F hr (hx σ) I1 r z⟩) he hpl) hdb)⟩
/-- o.m(e, ..) -/
theorem pe_methR {pl : Sem Bool} (F : FnR X.prog X.w X.K X.mg X.base CX k f sp) (hr : Room k X.A) (hx : ∀ σ, PassesAt CX X σ (E σ)) (c : Cls X.K C) (hm : Meth X.K C mt f)
    (he : PE X o ta) (ha : PA X (e :: es) t) (hst : starEach (e :: es) X.env = (false, eval e X.env) :: starEach es X.env := by rfl) (hpl : (backTo pos (starEach es X.env)).any (·.1) = false := by rfl)
    (ht : eval (.Call (.Attribute o mt apos) (e :: es) [] pos) X.env = (do
      let self ← eval o X.env
      standAt apos.atName
      let (g, first) ← holding [self] (getMethod self mt pl)
      callWith pos g first (backTo pos (starEach (e :: es) X.env)) (backToKw pos (keywordEach [] X.env))) := by rfl) :
    PE X (.Call (.Attribute o mt apos) (e :: es) [] pos) (tMethS C mt sp [] E ta t) := ⟨fun pins s σ H Q I h =>
  PySem.W.methodCall_KW (pl := pl) (thn (he.run pins s σ H _ I h) fun u s1 ⟨x, H1, I1, rx, a, dx, fs, ex, ea, l, q⟩ => by
    subst ex
    have eu : u = Value.ref a := rx
    subst eu
    exact getmeth_ok I1 ea c hm l (PySem.W.callWith_K (h₀ := X.base) (first := [.ref a]) I.ok.mod.kin hm.kp (thn (ha.run pos pins s1 σ H1 _ I1 q) fun us s2 ⟨vs, H2, I2, r, q2⟩ =>
      ⟨I2.kIn, run_fnRV (us := .ref a :: us) (vs := .ref a :: vs) F hr (hx σ) I2 (.cons rfl r) q2⟩) hst hpl)) ht⟩
theorem pe_meth0R {pl : Sem Bool} (F : FnR X.prog X.w X.K X.mg X.base CX k f sp) (hr : Room k X.A) (hx : ∀ σ, PassesAt CX X σ (E σ)) (c : Cls X.K C) (hm : Meth X.K C mt f)
    (he : PE X o ta) (ht : eval (.Call (.Attribute o mt apos) [] [] pos) X.env = (do
      let self ← eval o X.env
      standAt apos.atName
      let (g, first) ← holding [self] (getMethod self mt pl)
      callWith pos g first (backTo pos (starEach [] X.env)) (backToKw pos (keywordEach [] X.env))) := by rfl) :
    PE X (.Call (.Attribute o mt apos) [] [] pos) (tMethS C mt sp [] E ta tNil) := ⟨fun pins s σ H Q I h =>
  PySem.W.methodCall_KW (pl := pl) (thn (he.run pins s σ H _ I h) fun u s1 ⟨x, H1, I1, rx, a, dx, fs, ex, ea, l, q⟩ => by
    subst ex
    have eu : u = Value.ref a := rx
    subst eu
    exact getmeth_ok I1 ea c hm l (PySem.W.callWith_K0 (first := [.ref a]) I1.kIn hm.kp (run_fnRV (us := [.ref a]) (vs := [.ref a]) F hr (hx σ) I1 (.cons rfl .nil) q))) ht⟩
/-! ### C.m(..): a static method, a class method -/
structure SMet (K : PySem.W.Frag) (C : Addr) (mc : Value) (m : Str) (g : Addr) : Prop where
  rd : PySem.W.readsIn K C mc = true
  ty : PySem.W.typeIn K (.ref C) = some mc
  ga : PySem.W.specialIn K (.ref C) "__getattribute__" = some (some (.builtin "type.__getattribute__"))
  at_ : ∃ q rest, PySem.W.findCls K (.ref C) mc m = some (.get (.builtin "staticmethod.__get__") (.ref q) .none (.ref C)) ∧ PySem.W.recIn K q "staticmethod" = some (.ref g :: rest)
  kp : PySem.W.keepIn K (.ref g) = true
def tSMeth (C : Addr) (sp : Sp) (E : St → XK) (ta : TE) (t : TA) : TE := fun σ H Q => ta σ H fun x H1 => x = .ref C ∧ t σ H1 fun vs H2 => sp (vs ++ []) H2 Q (E σ)
theorem getsm_ok {pl : Sem Bool} {B : Around} {R : Value × List Value → Shared → Prop} {Ex : Value → Shared → Prop} (I : Inv X pins σ H s) (k : SMet X.K C mc mt g) (h : ∀ s', Inv X pins σ H s' → R (.ref g, []) s') : wpAny (model X.prog X.w) B (getMethod (.ref C) mt pl) R Ex s := by
  obtain ⟨q, rest, e, hp⟩ := k.at_
  obtain ⟨m, hF⟩ := I.fr
  exact PySem.W.method_cls I.kIn k.ga (PySem.W.cls_sm hF I.ok.mod.kin k.ty k.rd e hp rfl (h _ (I.tok _)))
theorem pe_smeth {pl : Sem Bool} (he : PE X o ta) (c : SMet X.K C mc mt g) (F : FnR X.prog X.w X.K X.mg X.base CX k g sp) (hr : Room k X.A) (hx : ∀ σ, PassesAt CX X σ (E σ)) (ha : PA X (e :: es) t)
    (hst : starEach (e :: es) X.env = (false, eval e X.env) :: starEach es X.env := by rfl) (hpl : (backTo pos (starEach es X.env)).any (·.1) = false := by rfl)
    (ht : eval (.Call (.Attribute o mt apos) (e :: es) [] pos) X.env = (do
      let self ← eval o X.env
      standAt apos.atName
      let (g, first) ← holding [self] (getMethod self mt pl)
      callWith pos g first (backTo pos (starEach (e :: es) X.env)) (backToKw pos (keywordEach [] X.env))) := by rfl) :
    PE X (.Call (.Attribute o mt apos) (e :: es) [] pos) (tSMeth C sp E ta t) := ⟨fun pins s σ H Q I h =>
  PySem.W.methodCall_KW (pl := pl) (thn (he.run pins s σ H _ I h) fun u s1 ⟨x, H1, I1, rx, ex, q⟩ => by
    subst ex
    have eu : u = Value.ref C := rx
    subst eu
    exact getsm_ok I1 c fun s2 I2 => PySem.W.callWith_K (h₀ := X.base) (first := []) I.ok.mod.kin c.kp (thn (ha.run pos pins s2 σ H1 _ I2 q) fun us s3 ⟨vs, H2, I3, r, q2⟩ => ⟨I3.kIn, run_fnRV F hr (hx σ) I3 r q2⟩) hst hpl) ht⟩
theorem pe_smethS {e1 e2 : Expr} {t1 t2 : TE} {sp_ : Pos} (he : PE X o ta) (c : SMet X.K C mc mt g) (F : FnR X.prog X.w X.K X.mg X.base CX k g sp) (hr : Room k X.A) (hx : ∀ σ, PassesAt CX X σ (E σ)) (h1 : PE X e1 t1) (h2 : PE X e2 t2)
    (hbase : attributeBase o mt X.env (eval o X.env) = eval o X.env := by rfl) (hst : starEach [e1, .Starred e2 sp_] X.env = [(false, eval e1 X.env), (true, eval e2 X.env)] := by rfl)
    (hs2 : starEach [e1, .Starred e2 sp_] X.env = (false, eval e1 X.env) :: starEach [.Starred e2 sp_] X.env := by rfl) (hs3 : starEach [.Starred e2 sp_] X.env = (true, eval e2 X.env) :: starEach [] X.env := by rfl) (hpl : (backTo pos (starEach [.Starred e2 sp_] X.env)).any (·.1) = true := by rfl) :
    PE X (.Call (.Attribute o mt apos) [e1, .Starred e2 sp_] [] pos) (tSMeth C sp E ta (tCons t1 (StX.tStar X.K t2 tNil))) := ⟨fun pins s σ H Q I h => by
  refine starcall2_of hbase hst (thn (he.run pins s σ H _ I h) fun u s1 ⟨x, H1, I1, rx, ex, q⟩ => ?_)
  subst ex
  have eu : u = Value.ref C := rx
  subst eu
  obtain ⟨q1, rest, e, hp⟩ := c.at_
  obtain ⟨m, hF⟩ := I1.fr
  refine PySem.W.cls_sm hF I1.ok.mod.kin c.ty c.rd e hp rfl ?_
  rw [← hst]
  exact PySem.W.callWith_S2 (h₀ := X.base) (first := []) I1.ok.mod.kin c.kp (thn ((pa_cons h1 (StX.pa_star h2 pa_nil hs3) hs2).run pos pins _ σ H1 _ (I1.tok _) q) fun us s3 ⟨vs, H2, I3, r, q2⟩ => ⟨I3.kIn, run_fnRV F hr (hx σ) I3 r q2⟩) hs2 hpl⟩
def tCMethS (C : Addr) (sp : Sp) (E : St → XK) (ta : TE) (t : TA) : TE := fun σ H Q => ta σ H fun x H1 => x = .ref C ∧ t σ H1 fun vs H2 => sp (.ref C :: vs) H2 Q (E σ)
theorem run_cmS {us : List Value} {vs : List V} (F : FnR X.prog X.w X.K X.mg X.base CX k g sp) (hr : Room k X.A) (hx : PassesAt CX X σ (E σ)) (I : Inv X ((q0, PySem.W.methodObj (.ref g) (.ref C)) :: pins) σ H s)
    (r : Vals vs us) (h : sp (.ref C :: vs) H Q (E σ)) : wpAny (model X.prog X.w) X.A (call (.ref q0) us) (EP X pins σ Q) X.xe s :=
  thn (wpAny_call (PySem.W.method_call (ClX.pin_at I) (run_fnRC (us := .ref C :: us) (vs := .ref C :: vs) F hr hx I (.cons rfl r) h))) fun _ _ y => ClX.unpinE y
theorem pe_cmethS {pl : Sem Bool} (he : PE X o ta) (r : ClX.CRead X.K C mc) (c : ClX.CMet X.K C mc mt q0 g) (F : FnR X.prog X.w X.K X.mg X.base CX k g sp) (hr : Room k X.A) (hx : ∀ σ, PassesAt CX X σ (E σ)) (ha : PA X (e :: es) t)
    (hst : starEach (e :: es) X.env = (false, eval e X.env) :: starEach es X.env := by rfl) (hpl : (backTo pos (starEach es X.env)).any (·.1) = false := by rfl)
    (ht : eval (.Call (.Attribute o mt apos) (e :: es) [] pos) X.env = (do
      let self ← eval o X.env
      standAt apos.atName
      let (g, first) ← holding [self] (getMethod self mt pl)
      callWith pos g first (backTo pos (starEach (e :: es) X.env)) (backToKw pos (keywordEach [] X.env))) := by rfl) :
    PE X (.Call (.Attribute o mt apos) (e :: es) [] pos) (tCMethS C sp E ta t) := ⟨fun pins s σ H Q I h =>
  PySem.W.methodCall_KW (pl := pl) (thn (he.run pins s σ H _ I h) fun u s1 ⟨x, H1, I1, rx, ex, q⟩ => by
    subst ex
    have eu : u = Value.ref C := rx
    subst eu
    refine ClX.getmethcm_ok I1 r c fun s2 I2 => ClX.callwith_cm I2 (ClX.base_none I1 (Nat.le_refl _)) c.fi (thn (ha.run pos _ s2 σ H1 _ I2 q) fun us s3 ⟨vs, H2, I3, rv, q2⟩ => ⟨⟨ClX.pin_at I3, I3.kIn⟩, run_cmS F hr (hx σ) I3 rv q2⟩) hst hpl) ht⟩
theorem pe_cmeth0S {pl : Sem Bool} (he : PE X o ta) (r : ClX.CRead X.K C mc) (c : ClX.CMet X.K C mc mt q0 g) (F : FnR X.prog X.w X.K X.mg X.base CX k g sp) (hr : Room k X.A) (hx : ∀ σ, PassesAt CX X σ (E σ))
    (ht : eval (.Call (.Attribute o mt apos) [] [] pos) X.env = (do
      let self ← eval o X.env
      standAt apos.atName
      let (g, first) ← holding [self] (getMethod self mt pl)
      callWith pos g first (backTo pos (starEach [] X.env)) (backToKw pos (keywordEach [] X.env))) := by rfl) :
    PE X (.Call (.Attribute o mt apos) [] [] pos) (tCMethS C sp E ta tNil) := ⟨fun pins s σ H Q I h =>
  PySem.W.methodCall_KW (pl := pl) (thn (he.run pins s σ H _ I h) fun u s1 ⟨x, H1, I1, rx, ex, q⟩ => by
    subst ex
    have eu : u = Value.ref C := rx
    subst eu
    refine ClX.getmethcm_ok I1 r c fun s2 I2 => PySem.W.callWith_M0 (first := []) ⟨ClX.pin_at I2, I2.kIn⟩ c.fi ?_
    exact run_cmS (us := []) (vs := []) F hr (hx σ) I2 .nil q) ht⟩
end
section
variable {c : Cf} {Γ : List Sl} {α β A : Type} {ta te : TE} {t : TA}
theorem ev_smeth {C : Addr} {ra : Ra A} {f : A → PM α} {r : Rl α} {m : PM A} (h : Ea c Γ t m ra) : Ev c Γ (tSMeth C (spF c.K ra f r) (WE c.W) (tC (.ref C)) t) (m >>= fun a => frame (f a)) r := fun S σ F H p Q g q =>
  ⟨rfl, ev_call h S σ F H p Q g q⟩
/-- the class at C itself -/
def rCls (C : Addr) : Rl Unit := ⟨fun _ v _ => v = .ref C, fun _ h => h⟩
theorem ev_cmeth {C : Addr} {ra : Ra A} {f : A → PM α} {r : Rl α} {m : PM A} (h : Ea c Γ t m ra) : Ev c Γ (tCMethS C (spF c.K (aCons (rCls C) ra) (fun x => f x.2) r) (WE c.W) (tC (.ref C)) t) (m >>= fun a => frame (f a)) r := fun S σ F H p Q g q =>
  ⟨rfl, h S σ F H p _ g (q.seq fun b p1 vs F1 H1 e1 pl1 r1 h1 => by
    refine ⟨F1, ((), b), p1, (g.ext e1 pl1).sub, ⟨.ref C, vs, rfl, rfl, r1⟩, ?_⟩
    have h2 : Post c σ F1 H1 r Q ((f b p1).1, p1) := h1
    show Post (cfE c.K none 0 (WE c.W σ)) [] F1 H1 r Q (f b p1)
    rcases e : f b p1 with ⟨er | a, p2⟩
    · rw [e] at h2
      cases er with
      | stuck => exact h2
      | exc ex => exact fun cls d F' H' e' _ k => h2 cls d F' H' e'.widen (pl1.up e') k
    · rw [e] at h2
      exact fun v F' H' e' _ k => h2 v F' H' e'.widen (pl1.up e') k)⟩
end
/-! ### x(e, ..) where the local x holds a class -/
section
variable {X : Cx} {CX : CXT} {k i : Nat} {f C : Addr} {fd : FuncData} {ps : List Str} {sp : Sp} {dvs : List V} {ds : List Value} {E : St → XK} {x : Str} {p pos : Pos} {e : Expr} {es : List Expr} {t : TA}
def tMakeL (i : Nat) (C : Addr) (sp : Sp) (dvs : List V) (E : St → XK) (t : TA) : TE := fun σ H Q => σ[i]? = some (some (.ref C)) ∧ tMakeS C sp dvs E t σ H Q
theorem pe_makeL (M : Mk X.K C f) (F : FnOk X.prog X.w X.K X.mg X.base CX k f fd ps sp) (hr : Room (k + 1) X.A) (hN : X.N[i]? = some x) (hv : Vis X.env.scope x) (hb : Binds X.K fd ps ds) (hd : Vals dvs ds) (hx : ∀ σ, PassesAt CX X σ (E σ)) (ha : PA X (e :: es) t)
    (hdb : (x == ("__debug__" : Str)) = false := by decide) (hcd : (x == ("__classdict__" : Str)) = false := by decide) (hst : starEach (e :: es) X.env = (false, eval e X.env) :: starEach es X.env := by rfl) (hpl : (backTo pos (starEach es X.env)).any (·.1) = false := by rfl) :
    PE X (.Call (.Name x p) (e :: es) [] pos) (tMakeL i C sp dvs E t) := ⟨fun pins s σ H Q I h => by
  obtain ⟨hs, ht⟩ := h
  refine wpAny_Call_Name_kw (thn ((pe_var (pos := p) hN hv hdb hcd).run pins s σ H (fun v H1 => v = .ref C ∧ H1 = H) I ⟨_, hs, rfl, rfl⟩) fun u s1 ⟨v, H1, I1, r1, q1⟩ => ?_)
  obtain ⟨rfl, rfl⟩ := q1
  cases r1
  exact PySem.W.callWith_K (h₀ := X.base) I.ok.mod.kin M.kp (thn (ha.run pos pins s1 σ _ _ I1 ht) fun us s2 ⟨vs, H2, I2, r, q⟩ => ⟨I2.kIn, run_makeS M F hr hb hd hx I2 r q⟩) hst hpl⟩
end
section
variable {c : Cf} {Γ : List Sl} {α : Type} {t : TA}
theorem ev_makeL (i : Nat) {C : Addr} {sp : Sp} {dvs : List V} {r : Rl α} {m : PM α} (hi : nth Γ i = .val (rCls C) ()) (h : Ev c Γ (tMakeS C sp dvs (WE c.W) t) m r) : Ev c Γ (tMakeL i C sp dvs (WE c.W) t) m r := fun S σ F H p Q g q => by
  obtain ⟨v, h1, h2⟩ := g.sl.val hi
  refine ⟨?_, h S σ F H p Q g q⟩
  rw [h1, show v = .ref C from h2]
end
/-! ### the Hook, with defs at any address -/
abbrev AlW : Type := AlK × He.AlD
def obsW (fa : List He.Fa) (fn : List He.DefD) (en : List ErD) (wn : List He5.DefA) (ex : PySem.W.Frag → Bool) (K : PySem.W.Frag) : AlW := (obsK fa fn en ex K, He5.obsA [] wn K)
def valW (fn : List He.DefD) (en : List ErD) (wn : List He5.DefA) : AlW := (valK fn en, He5.valA wn)
structure SaysW (fa : List He.Fa) (fn : List He.DefD) (en : List ErD) (wn : List He5.DefA) (ex : PySem.W.Frag → Bool) (K : PySem.W.Frag) : Prop where
  k : SaysK fa fn en ex K
  a : He5.SaysA [] wn K
theorem saysW_of {fa : List He.Fa} {fn : List He.DefD} {en : List ErD} {wn : List He5.DefA} {ex : PySem.W.Frag → Bool} {K : PySem.W.Frag} (e : obsW fa fn en wn ex K = valW fn en wn) : SaysW fa fn en wn ex K :=
  ⟨saysK_of (congrArg (fun z : AlW => z.1) e), congrArg (fun z : AlW => z.2) e⟩
def hookW (n : Nat) (fa : List He.Fa) (fn : List He.DefD) (en : List ErD) (wn : List He5.DefA) (ex : PySem.W.Frag → Bool) : PySem.W.Hook where
  α := AlW
  obs := fun s => obsW fa fn en wn ex (He.frG s.heap.get? (asK s.heap.get? n))
  val := fun _ => valW fn en wn
  says := fun _ h => ∃ K : PySem.W.Frag, K.In h ∧ SaysW fa fn en wn ex K
  of := fun _ _ e => ⟨_, He.frG_in, saysW_of e⟩
  keeps := fun _ _ _ ⟨K, hK, z⟩ k => ⟨K, PySem.W.Frag.In.keeps hK k, z⟩
def obsWG (n : Nat) (fa : List He.Fa) (fn : List He.DefD) (en : List ErD) (wn : List He5.DefA) (ex : PySem.W.Frag → Bool) (g : Addr → Option Obj) : AlW := obsW fa fn en wn ex (He.frG g (asK g n))
theorem obsWG_eq {n : Nat} {fa : List He.Fa} {fn : List He.DefD} {en : List ErD} {wn : List He5.DefA} {ex : PySem.W.Frag → Bool} {g : Addr → Option Obj} {s : Shared} (h : ∀ a, g a = s.heap.get? a) : obsWG n fa fn en wn ex g = (hookW n fa fn en wn ex).obs s := by
  have e : g = s.heap.get? := funext h
  rw [e] <;> rfl
/-! ### facts of a static method, a class method -/
def smB (K : PySem.W.Frag) (x m : Str) : Bool := crB K x && (decide (PySem.W.typeIn K (.ref (He.ga K x)) = some (.type "type")) && (He5.wrapB K (He.ga K x) "staticmethod" "staticmethod.__get__" m && PySem.W.keepIn K (.ref (He5.wf K (He.ga K x) "staticmethod" m))))
theorem smB_ok {K : PySem.W.Frag} {x m : Str} (h : smB K x m = true) : SMet K (He.ga K x) (.type "type") m (He5.wf K (He.ga K x) "staticmethod" m) := by
  unfold smB at h
  simp only [Bool.and_eq_true, decide_eq_true_eq] at h
  obtain ⟨h1, h2, h3, h4⟩ := h
  have r := crB_ok h1
  obtain ⟨e, rest, hp⟩ := He5.wrapB_ok h3
  exact ⟨r.rd, h2, r.ga, ⟨_, rest, e, hp⟩, h4⟩
def cmB (K : PySem.W.Frag) (x m : Str) : Bool := He5.wrapB K (He.ga K x) "classmethod" "classmethod.__get__" m && PySem.W.fnIn K (He5.wf K (He.ga K x) "classmethod" m)
theorem cmB_ok {K : PySem.W.Frag} {x m : Str} (h : cmB K x m = true) : ClX.CMet K (He.ga K x) (.type "type") m (He.ma K (He.ga K x) m) (He5.wf K (He.ga K x) "classmethod" m) := by
  unfold cmB at h
  simp only [Bool.and_eq_true] at h
  exact He5.cmet_of h.1 h.2
end Kf

set_option maxHeartbeats 4000000
/-! Kf: xs[i] = e; == of compound values -/
namespace Kf
open PySem PySem.Spec L2
open PyProof.Rows hiding St
theorem All2.setAt {α β : Type} {R : α → β → Prop} : ∀ {vs : List α} {l : List β} {j : Nat} {v : α} {a : β}, All2 R vs l → R v a → All2 R (vs.set j v) (l.set j a)
  | _, _, _, _, _, .nil, _ => .nil
  | _, _, 0, _, _, .cons _ t, k => .cons k t
  | _, _, j + 1, _, _, .cons h t, k => .cons h (All2.setAt t k)
def setM {α : Type} (l : List α) (i : Int) (a : α) : PM (List α) := match ixN l.length i with
  | some j => pure (l.set j a)
  | none => stuck
section
variable {c : Cf} {Γ : List Sl} {α β : Type} {ta tb : TE}
theorem es_setO (i : Nat) {r : Rl α} {l : List α} {m : PM α} {mi : PM Int} (hx : nth Γ i = .own (oList r) l) (h : Ev c Γ ta m r) (hi : Ev c Γ tb mi rInt) :
    Es c Γ (tAsg ta (gSub (tVar i) tb rSetL)) (m >>= fun a => mi >>= fun k => setM l k a) fun l' => put Γ i (.own (oList r) l') := fun S σ F H p D g q =>
  h S σ F H p _ g (q.seqE g fun a p1 y F1 H1 g1 s1 r1 _ h3 => by
    obtain ⟨x, ho, h1, h2, ⟨vs, rfl, k2, k3⟩, hm⟩ := g1.sl.own hx
    refine ⟨_, h1, hi S σ F1 H1 p1 _ g1 (h3.seqE g1 fun k p2 w F2 H2 g2 s2 r2 _ h4 => ?_)⟩
    obtain ⟨x', ho', h1', h2', ⟨vs', rfl, k2', k3'⟩, hm'⟩ := g2.sl.own hx
    have ex : x' = x := by rw [h1] at h1'; injection h1' with z; injection z with z; injection z with z; exact z.symm
    subst ex
    unfold setM at h4
    cases e : ixN l.length k with
    | none => rw [e] at h4; exact h4.elim
    | some j =>
      rw [e] at h4
      refine ⟨x', vs', k, j, rfl, by rw [show w = .int k from r2], h2', by rw [k3'.length]; exact e, ?_⟩
      exact h4 σ F2 _ (g2.updo hx h1' ⟨_, rfl, by rw [List.length_set]; exact k2', k3'.setAt (r.mono s2 r1)⟩))
/-! ### == of two values that are data -/
mutual
theorem Dq.toDp {K : PySem.W.Frag} {F H : Hp} (s : Same F H) : ∀ {v : V} {d : PyData}, Dq K F v d → Dp K H v d
  | _, _, .non => .non
  | _, _, .bl b => .bl b
  | _, _, .int i => .int i
  | _, _, .str x _ => .str x
  | _, _, .lst h _ t => .lst (SqL.of (s _ _ h)) (DqAll.toDp s t)
  | _, _, .tup h _ t => .tup (SqT.same s h) (DqAll.toDp s t)
theorem DqAll.toDp {K : PySem.W.Frag} {F H : Hp} (s : Same F H) : ∀ {vs : List V} {ds : List PyData}, DqAll K F vs ds → DpAll K H vs ds
  | _, _, .nil => .nil
  | _, _, .cons h t => .cons (Dq.toDp s h) (DqAll.toDp s t)
end
def eqC (d e : PyData) : PM Bool := guardM (SeqAt.shaped d = true ∧ SeqAt.shaped e = true) (PyData.eqv d e)
def neC (d e : PyData) : PM Bool := guardM (SeqAt.shaped d = true ∧ SeqAt.shaped e = true) (!PyData.eqv d e)
theorem ev_eqC {ra : Rl α} {rb : Rl β} {ea : α → PyData} {eb : β → PyData} {ma : PM α} {mb : PM β} (da : Dat c.K ra ea) (db : Dat c.K rb eb) (ha : Ev c Γ ta ma ra) (hb : Ev c Γ tb mb rb) : Ev c Γ (tOp (rEqD c.K) ta tb) (ma >>= fun a => mb >>= fun b => eqC (ea a) (eb b)) rBool :=
  ev_op ha hb fun a b S σ F H p x y Q gd hx hy q => by
    unfold eqC guardM at q
    by_cases h : SeqAt.shaped (ea a) = true ∧ SeqAt.shaped (eb b) = true
    · rw [if_pos h] at q
      exact ⟨ea a, eb b, Dq.toDp gd.sub (da.dp hx), Dq.toDp gd.sub (db.dp hy), h.1, h.2, q.now gd.sub gd.pl rfl⟩
    · rw [if_neg h] at q
      exact q.elim
theorem ev_neC {ra : Rl α} {rb : Rl β} {ea : α → PyData} {eb : β → PyData} {ma : PM α} {mb : PM β} (da : Dat c.K ra ea) (db : Dat c.K rb eb) (ha : Ev c Γ ta ma ra) (hb : Ev c Γ tb mb rb) : Ev c Γ (tOp (rNeD c.K) ta tb) (ma >>= fun a => mb >>= fun b => neC (ea a) (eb b)) rBool :=
  ev_op ha hb fun a b S σ F H p x y Q gd hx hy q => by
    unfold neC guardM at q
    by_cases h : SeqAt.shaped (ea a) = true ∧ SeqAt.shaped (eb b) = true
    · rw [if_pos h] at q
      exact ⟨ea a, eb b, Dq.toDp gd.sub (da.dp hx), Dq.toDp gd.sub (db.dp hy), h.1, h.2, q.now gd.sub gd.pl rfl⟩
    · rw [if_neg h] at q
      exact q.elim
end
section
variable {c : Cf} {Γ : List Sl} {α β : Type} {ta tb : TE}
theorem idx_first [DecidableEq α] {a : α} : ∀ {l : List α} {m : Nat}, m < l.idxOf a → l[m]? = some a → False
  | [], m, h, _ => by simp at h
  | b :: l, m, h, e => by
    rw [List.idxOf_cons] at h
    by_cases z : b = a
    · rw [show (b == a) = true by simpa using z] at h
      simp at h
    · rw [show (b == a) = false by simpa using z] at h
      cases m with
      | zero => exact z (by simpa using e)
      | succ m => exact idx_first (l := l) (m := m) (by simpa using h) (by simpa using e)
def idxM [DecidableEq α] (l : List α) (a : α) : PM Int := guardM (a ∈ l) (l.idxOf a : Int)
theorem ev_index [DecidableEq α] {r : Rl α} {f : α → V} (sc : ScalF r f) {ma : PM (List α)} {mb : PM α} (ha : Ev c Γ ta ma (rList r)) (hb : Ev c Γ tb mb r) : Ev c Γ (tBM c.K "list" (rIndex c.K) ta (tCons tb tNil)) (ma >>= fun l => mb >>= fun a => idxM l a) rInt := fun S σ F H p Q g q =>
  ha S σ F H p _ g (q.seq fun l p1 v F1 H1 e1 pl1 r1 h1 => by
    obtain ⟨x, vs, rfl, k1, k2, k3⟩ := rList.of r1
    refine ⟨.inl ⟨rfl, _, SqL.of (e1.sub' _ _ k1)⟩, hb S σ F1 H1 p1 _ (g.ext e1 pl1) (h1.seq fun a p2 w F2 H2 e2 pl2 r2 h2 => ?_)⟩
    unfold idxM guardM at h2
    by_cases hm : a ∈ l
    · rw [if_pos hm] at h2
      obtain ⟨j1, j2⟩ := All2.memS sc.toScal sc.flat sc.eq a k3
      have hj := List.idxOf_lt_length_of_mem hm
      have ej : l[l.idxOf a]? = some a := by rw [List.getElem?_eq_getElem hj, List.getElem_idxOf]
      obtain ⟨z, hz, rz⟩ := k3.get ej
      have ez := sc.v rz
      have ew := sc.v r2
      subst ez ew
      refine ⟨x, vs, f a, l.idxOf a, f a, rfl, rfl, SqL.of (e2.sub' _ _ (e2.sub _ _ k1)), sc.flat a, j1, hz, by rw [sc.eq]; exact decide_eq_true rfl, fun m z' hm' hz' => ?_, h2.now ((g.ext e1 pl1).ext e2 pl2).sub pl2 rfl⟩
      obtain ⟨b, eb, rb⟩ := k3.get' hz'
      rw [sc.v rb, sc.eq]
      refine decide_eq_false fun z => ?_
      subst z
      exact idx_first hm' eb
    · rw [if_neg hm] at h2
      exact h2.elim)
end
theorem tbmK {X : Cx} {K : PySem.W.Frag} {T : String} {r : V → List V → Hp → VK → Prop} {to : TE} {t : TA} {e : Expr} (h : PE X e (tBM X.K T r to t)) (z : X.K = K := by rfl) : PE X e (tBM K T r to t) := z ▸ h
theorem mt_indexK {X : Cx} {K : PySem.W.Frag} (e : X.K = K := by rfl) : MtR X "list.index" (rIndex K) := e ▸ mt_index
theorem op_eqDK {X : Cx} {K : PySem.W.Frag} (hu : X.A.units + 64 < cLine) (e : X.K = K := by rfl) : OpR X (compareOp .Eq) (rEqD K) := e ▸ op_eqD hu
theorem op_neDK {X : Cx} {K : PySem.W.Frag} (hu : X.A.units + 64 < cLine) (e : X.K = K := by rfl) : OpR X (compareOp .NotEq) (rNeD K) := e ▸ op_neD hu
theorem huH {k : Nat} {A : Around} (r : L2H.RoomH k A) : A.units + 64 < cLine := by have := r.un; omega
theorem huR {k : Nat} {A : Around} (r : Room k A) : A.units + 64 < cLine := by have := r.un; omega
end Kf

set_option maxHeartbeats 4000000
/-! Kf: comprehensions with two sources -/
namespace Kf
open PySem PySem.Spec L2
open PyProof.Rows hiding St
theorem it_gen {J : It} {n : Nat} {G : Hp → Prop} {Y : Nat → Hp → V → Hp → Prop} (w : Walk J n G Y) {H1 : Hp} {Qd : Hp → Prop} {B : (Hp → Prop) → V → Hp → Prop} (Pv : Nat → Hp → Prop) (h0 : Pv 0 H1) (hG : ∀ i H, i ≤ n → Pv i H → G H)
    (hs : ∀ i x H H', i < n → Pv i H → Y i H x H' → B (Pv (i + 1)) x H') (hd : ∀ H, Pv n H → Qd H) :
    ∃ W : Nat → Nat → Hp → Prop, (∃ m, W 0 m H1) ∧ ∀ i m H, W i m H → (J.stop i H ∧ Qd H) ∨ (J.go i H ∧ ∃ Nx : Hp → Prop, (∀ H', Nx H' → ∃ m', m' < m ∧ W (i + 1) m' H') ∧ ∀ x H', J.yld i H x H' → B Nx x H') := by
  refine ⟨fun i m H => m + i = n ∧ Pv i H, ⟨n, Nat.add_zero n, h0⟩, ?_⟩
  rintro i m H ⟨e, p⟩
  have q := hG i H (by omega) p
  rcases Nat.lt_or_ge i n with hlt | hge
  · exact .inr ⟨w.goes i H hlt q, Pv (i + 1), fun H' p' => ⟨m - 1, by omega, by omega, p'⟩, fun x H' y => hs i x H H' hlt p (w.yields i H x H' hlt q y)⟩
  · have e2 : i = n := by omega
    subst e2
    exact .inl ⟨w.stops H q, hd H p⟩
section
variable {α β γ R : Type}
/-- the elements are laid behind what is there; then it goes on with k -/
def runF (t : β → PM Bool) (e : β → PM γ) : List β → (List γ → PM R) → List γ → PM R
  | [], k, acc => k acc
  | x :: l, k, acc => noX (t x) >>= fun b => if b = true then noX (e x) >>= fun y => runF t e l k (acc ++ [y]) else runF t e l k acc
def run2 (t : α → PM Bool) (i1 : α → PM (List β)) (t1 : α → β → PM Bool) (e : α → β → PM γ) : List α → (List γ → PM R) → List γ → PM R
  | [], k, acc => k acc
  | x :: l, k, acc => noX (t x) >>= fun b => if b = true then noX (i1 x) >>= fun l1 => runF (t1 x) (e x) l1 (run2 t i1 t1 e l k) acc else run2 t i1 t1 e l k acc
def Kok (k : List γ → PM R) : Prop := ∀ acc p, match k acc p with
  | (.ok _, _) => acc.length ≤ sizeLine
  | (.error (.exc _), _) => False
  | (.error .stuck, _) => True
theorem Kok.bind {A : Type} {m : PM A} {f : A → PM R} {n : Nat} {p : Pool} (h : ∀ a p', match f a p' with | (.ok _, _) => n ≤ sizeLine | (.error (.exc _), _) => False | (.error .stuck, _) => True) : match (noX m >>= f) p with
  | (.ok _, _) => n ≤ sizeLine
  | (.error (.exc _), _) => False
  | (.error .stuck, _) => True := by
  rw [run_bind]
  rcases e : noX m p with ⟨er | a, p'⟩
  · cases er with
    | stuck => trivial
    | exc ex => exact noX_ne e
  · exact h a p'
theorem Kok.runF {t : β → PM Bool} {e : β → PM γ} {k : List γ → PM R} (h : Kok k) : ∀ l : List β, Kok (runF t e l k)
  | [] => h
  | x :: l => fun acc p => Kok.bind fun b p' => by
    cases b with
    | false => exact Kok.runF h l acc p'
    | true =>
      refine Kok.bind fun y p2 => ?_
      have z := Kok.runF (t := t) (e := e) h l (acc ++ [y]) p2
      rcases e3 : Kf.runF t e l k (acc ++ [y]) p2 with ⟨er | a, p3⟩
      · rw [e3] at z
        cases er <;> exact z
      · rw [e3] at z
        have z : (acc ++ [y]).length ≤ sizeLine := z
        rw [List.length_append] at z
        exact Nat.le_trans (Nat.le_add_right _ _) z
theorem Kok.run2 {t : α → PM Bool} {i1 : α → PM (List β)} {t1 : α → β → PM Bool} {e : α → β → PM γ} {k : List γ → PM R} (h : Kok k) : ∀ l : List α, Kok (run2 t i1 t1 e l k)
  | [] => h
  | x :: l => fun acc p => Kok.bind fun b p' => by
    cases b with
    | false => exact Kok.run2 h l acc p'
    | true => exact Kok.bind fun l1 p2 => Kok.runF (Kok.run2 h l) l1 acc p2
def lay (acc : List γ) : PM (List γ) := guardM (acc.length ≤ sizeLine) acc
theorem Kok.lay : Kok (lay (γ := γ)) := fun acc p => by
  unfold Kf.lay guardM
  by_cases h : acc.length ≤ sizeLine
  · rw [if_pos h]; exact h
  · rw [if_neg h]; trivial
end
section
variable {c : Cf} {Γ : List Sl} {α β γ : Type} {F1 H1 : Hp} {D : Addr} {r : Rl γ} {Z Z' : List γ → Pool → Prop}
def LcS (c : Cf) (F1 H1 : Hp) (D : Addr) (r : Rl γ) (Z : List γ → Pool → Prop) (H' : Hp) : Prop :=
  ∃ F2 p2 vs2 acc, Ext c.q F1 H1 F2 H' ∧ PoolOk c.q c.s F2 H' p2 ∧ F2 D = none ∧ H' D = some (.lst vs2) ∧ vs2.length ≤ sizeLine ∧ All2 (r.rel F2) vs2 acc ∧ Z acc p2
theorem none_ext {q : Option Addr} {F2 H2 F3 H3 : Hp} {vs : List V} (e : Ext q F2 H2 F3 H3) (n : F2 D = none) (h : H2 D = some (.lst vs)) : F3 D = none := by
  cases z : F3 D with
  | none => rfl
  | some o =>
    rcases e.new D o z with y | y
    · rw [n] at y; cases y
    · rw [h] at y; cases y
/-- an element is laid -/
theorem lc_push {σ σ4 : St} {F H : Hp} {S : Hp × Hp} {Q : VK} {Γ4 : List Sl} {te : TE} {m : PM γ} {k : List γ → PM (List γ)} {F4 H4 : Hp} {p4 : Pool} {vs2 : List V} {acc : List γ} (kok : Kok k) (qD : c.q ≠ some D) (nD : H1 D = none)
    (he : Ev c.nox Γ4 te m r) (g4 : Good S c.nox.q c.nox.s Γ4 σ4 F4 H4 p4) (e14 : Ext c.q F1 H1 F4 H4) (pl4 : PoolOk c.q c.s F4 H4 p4) (nF4 : F4 D = none) (hD4 : H4 D = some (.lst vs2)) (k2 : All2 (r.rel F4) vs2 acc)
    (q : PostN c σ F H (oList r) Q ((noX m >>= fun y => k (acc ++ [y])) p4)) :
    te σ4 H4 fun y H5 => ∃ acc', H5 D = some (.lst acc') ∧ acc'.length < sizeLine ∧ LcS c F1 H1 D r (fun a p => PostN c σ F H (oList r) Q (k a p)) (upd H5 D (.lst (acc' ++ [y]))) := by
  refine he S σ4 F4 H4 p4 _ g4 (Post.nox (c := c) (σ := σ) ?_)
  rw [run_bind] at q
  rcases h5 : noX m p4 with ⟨er | y, p5⟩
  · rw [h5] at q
    cases er with
    | stuck => exact q
    | exc ex => exact (noX_ne h5).elim
  · rw [h5] at q
    have q4 : PostN c σ F H (oList r) Q (k (acc ++ [y]) p5) := q
    intro v F5 H5 e5 pl5 r5
    have hD5 : H5 D = some (.lst vs2) := e5.keep D _ hD4 qD
    have nF5 : F5 D = none := none_ext e5 nF4 hD4
    have e15 : Ext c.q F1 H1 F5 H5 := e14.tr e5 pl4
    have hl : vs2.length < sizeLine := by
      rw [k2.length]
      have z := kok (acc ++ [y]) p5
      rcases h6 : k (acc ++ [y]) p5 with ⟨er | a, p6⟩
      · rw [h6] at q4 z
        cases er with
        | stuck => exact q4.elim
        | exc ex => exact z.elim
      · rw [h6] at z
        have z : (acc ++ [y]).length ≤ sizeLine := z
        rw [List.length_append, List.length_cons, List.length_nil] at z
        omega
    refine ⟨vs2, hD5, hl, F5, p5, vs2 ++ [v], acc ++ [y], ⟨e15.sub, fun b o z => ?_, fun b o z n => ?_, e15.new⟩, ?_, nF5, upd_same, by rw [List.length_append]; exact hl, (k2.imp fun _ _ => r.mono e5.sub).append (.cons r5 .nil), q4⟩
    · rw [upd_ne (fun y => by rw [y, nF5] at z; cases z)]
      exact e15.sub' b o z
    · rw [upd_ne (fun y => by rw [y, nD] at z; cases z)]
      exact e15.keep b o z n
    · cases cq : c.q with
      | none => trivial
      | some a0 =>
        rw [cq] at pl5 qD
        obtain ⟨z1, z2, z3⟩ := pl5
        exact ⟨z1, by rw [upd_ne (fun y => qD (by rw [y]))]; exact z2, z3⟩
/-- a heap without the object at D -/
def out (D : Addr) (H : Hp) : Hp := fun b => if b = D then none else H b
theorem out_same (H : Hp) : out D H D = none := if_pos rfl
theorem out_ne {H : Hp} {b : Addr} (h : b ≠ D) : out D H b = H b := if_neg h
theorem Ext.out {q : Option Addr} {F H F2 H2 : Hp} (e : Ext q F H F2 H2) (n : H D = none) (nF : F2 D = none) : Ext q F H F2 (out D H2) := ⟨e.sub, fun b o h => by
  rw [out_ne (fun z => by subst z; rw [nF] at h; cases h)]
  exact e.sub' b o h, fun b o h k => by
  rw [out_ne (fun z => by subst z; rw [n] at h; cases h)]
  exact e.keep b o h k, e.new⟩
theorem Ext.back {q : Option Addr} {F H : Hp} (s : Same F H) : Ext q F (Kf.out D H) F H := ⟨Same.refl _, s, fun b o h _ => by
  by_cases z : b = D
  · subst z; rw [out_same] at h; cases h
  · rw [out_ne z] at h; exact h, fun b o h => .inl h⟩
theorem PoolOk.out {q : Option Addr} {sc : SG} {F H : Hp} {p : Pool} (h : PoolOk q sc F H p) (qD : q ≠ some D) : PoolOk q sc F (out D H) p := by
  cases q with
  | none => trivial
  | some a =>
    obtain ⟨z1, z2, z3⟩ := h
    exact ⟨z1, by rw [out_ne (fun y => qD (by rw [y]))]; exact z2, z3⟩
theorem Good.out {S S' : Hp × Hp} {q : Option Addr} {sc : SG} {Γ : List Sl} {σ : St} {F H : Hp} {p : Pool} (g : Good S' q sc Γ σ F H p) (hD : ∀ a ∈ ownA Γ σ, a ≠ D) (os : ∀ a ∈ ownA Γ σ, S.2 a = none) (ent : Ext q S.1 S.2 F (Kf.out D H)) (nF : F D = none) (qD : q ≠ some D) (ln : Same sc.L S.2 ∧ ∀ x, q = some x → sc.L x = none) : Good S q sc Γ σ F (Kf.out D H) p where
  sub := fun b o h => by
    rw [out_ne (fun z => by subst z; rw [nF] at h; cases h)]
    exact g.sub b o h
  sl := g.sl.ext (Same.refl _) fun a ha o h => by rw [out_ne (hD a ha)]; exact h
  nd := g.nd
  of := g.of
  oq := g.oq
  os := os
  ent := ent
  pl := g.pl.out qD
  gx := g.gx
  ln := ln
/-- .. told of a start at which D stands -/
theorem Good.at {S : Hp × Hp} {q : Option Addr} {sc : SG} {Γ : List Sl} {σ : St} {F H F0 H0 : Hp} {p p0 : Pool} {vs : List V} (g : Good S q sc Γ σ F H p) (g0 : Good S q sc Γ σ F0 H0 p0) (n0 : H0 D = none) (hD : H D = some (.lst vs)) (nF : F D = none) : Good (S.1, upd S.2 D (.lst vs)) q sc Γ σ F H p where
  sub := g.sub
  sl := g.sl
  nd := g.nd
  of := g.of
  oq := g.oq
  os := fun a ha => by
    have : a ≠ D := fun z => by
      obtain ⟨o, ho⟩ := g0.sl.ownAt a ha
      rw [z, n0] at ho; cases ho
    show upd S.2 D (.lst vs) a = none
    rw [upd_ne this]
    exact g.os a ha
  ent := ⟨g.ent.sub, g.ent.sub', fun b o h n => by
    by_cases z : b = D
    · subst z
      have h : upd S.2 b (.lst vs) b = some o := h
      rw [upd_same] at h
      rw [hD]
      exact h
    · have h : upd S.2 D (.lst vs) b = some o := h
      rw [upd_ne z] at h
      exact g.ent.keep b o h n, fun b o h => by
    by_cases z : b = D
    · subst z; rw [nF] at h; cases h
    · show _ ∨ upd S.2 D (.lst vs) b = none
      rw [upd_ne z]
      exact g.ent.new b o h⟩
  pl := g.pl
  gx := g.gx
  ln := ⟨fun b o h => by
    show upd S.2 D (.lst vs) b = some o
    have h2 := g.ln.1 b o h
    rw [upd_ne (fun z => by
      subst z
      by_cases n : q = some b
      · exact g0.pl.there b n n0
      · rw [g0.ent.keep b o h2 n] at n0; cases n0)]
    exact h2, g.ln.2⟩
theorem en_lc2 {w w1 : TI} {g g1 : TG} {tt tt1 : TT} {te : TE} {vs ws vs1 ws1 : List Nat} {ru : Rl α} {ru1 : Rl β} {mi : PM (List α)} {t : α → PM Bool} {i1 : α → PM (List β)} {t1 : α → β → PM Bool} {e : α → β → PM γ} {Γt : α → List Sl} {Γu : α → β → List Sl}
    (hi : Ei c Γ w mi ru) (hg : Eg c.nox (wipeΓ Γ vs) g ru Γt ws) (hw : ∀ i ∈ ws, i ∈ vs) (ht : ∀ x, Et c.nox (Γt x) tt (t x)) (hi1 : ∀ x, Ei c.nox (Γt x) w1 (i1 x) ru1) (hg1 : ∀ x, Eg c.nox (wipeΓ (Γt x) vs1) g1 ru1 (Γu x) ws1) (hw1 : ∀ i ∈ ws1, i ∈ vs1)
    (ht1 : ∀ x y, Et c.nox (Γu x y) tt1 (t1 x y)) (he : ∀ x y, Ev c.nox (Γu x y) te (e x y) r) : En c Γ (tLc2 w g tt w1 g1 tt1 te vs vs1) (mi >>= fun l => run2 t i1 t1 e l lay []) (oList r) := fun S σ F H p Q gd q =>
  hi S σ F H p _ gd (by
    rw [run_bind] at q
    rcases e0 : mi p with ⟨er | l, p1⟩
    · rw [e0] at q
      cases er <;> exact q
    · rw [e0] at q
      intro J F1 H1 G Y e1 pl1 wk hG hY D nD
      have g1' := gd.ext e1 pl1
      have qD : c.q ≠ some D := fun z => pl1.there D z nD
      have nF1 : F1 D = none := Same.none g1'.sub nD
      have nH : H D = none := by
        cases z : H D with
        | none => rfl
        | some o => rw [e1.keep D o z qD] at nD; cases nD
      have kk : ∀ l, Kok (run2 t i1 t1 e l (lay (γ := γ))) := fun l => Kok.run2 Kok.lay l
      refine it_gen wk (B := fun Nx x H' => g x (wipe σ vs) H' fun σ2 H2 => wipe σ2 vs = wipe σ vs ∧ tt σ2 H2 fun b H3 => if b = true then _ else Nx H3) (fun i H' => LcS c F1 H1 D r (fun a p => PostN c σ F H (oList r) Q (run2 t i1 t1 e (l.drop i) lay a p)) H') ?_ ?_ ?_ ?_
      · exact ⟨F1, p1, [], [], Ext.loose g1'.sub nD, pl1.up (Ext.loose g1'.sub nD), nF1, upd_same, Nat.zero_le _, .nil, q⟩
      · rintro i H' _ ⟨F2, p2, vs2, acc, e2, pl2, _⟩
        exact hG H' (e2.sub.trans e2.sub') (g1'.ext e2 pl2).lh
      · rintro i x H2 H3 hlt ⟨F2, p2, vs2, acc, e2, pl2, nF2, hD, hl2, k2, q2⟩ hy
        obtain ⟨F3, e3, hr⟩ := hY i x F2 H2 H3 hlt e2.sub e2.sub' hy
        have ha : l[i]? = some l[i] := List.getElem?_eq_getElem hlt
        have g3 := ((gd.ext e1 pl1).ext e2 pl2).ext e3.widen (pl2.up e3)
        have pl3 := pl2.up e3
        have hD3 : H3 D = some (.lst vs2) := e3.keep D _ hD (by simp)
        have nF3 : F3 D = none := none_ext e3 nF2 hD
        have e13 : Ext c.q F1 H1 F3 H3 := e2.tr e3.widen pl2
        rw [drop_cons ha] at q2
        have g3a := g3.at g1' nD hD3 nF3
        refine hg l[i] x _ (wipe σ vs) F3 H3 p2 _ (g3a.nox.wipe rfl vs) (hr _ ha) fun σ4 g4 w4 => ⟨by rw [w4 vs hw, wipe_idem], ht l[i] _ σ4 F3 H3 p2 _ g4 (Post.ofT ?_)⟩
        have q2 : PostN c σ F H (oList r) Q ((noX (t l[i]) >>= fun b => if b = true then noX (i1 l[i]) >>= fun l1 => runF (t1 l[i]) (e l[i]) l1 (run2 t i1 t1 e (l.drop (i + 1)) lay) acc else run2 t i1 t1 e (l.drop (i + 1)) lay acc) p2) := q2
        rw [run_bind] at q2
        rcases h4 : noX (t l[i]) p2 with ⟨er | b, p4⟩
        · rw [h4] at q2
          cases er with
          | stuck => exact q2
          | exc ex => exact noX_ne h4
        · rw [h4] at q2
          intro F4 H4 e4 pl4
          have e14 : Ext c.q F1 H1 F4 H4 := e13.tr e4 pl3
          have hD4 : H4 D = some (.lst vs2) := e4.keep D _ hD3 qD
          have nF4 : F4 D = none := none_ext e4 nF3 hD3
          have k4 := k2.imp fun _ _ => r.mono (e3.sub.trans e4.sub)
          cases b with
          | false =>
            rw [if_neg Bool.false_ne_true]
            exact ⟨F4, p4, vs2, acc, e14, pl4, nF4, hD4, hl2, k4, q2⟩
          | true =>
            rw [if_pos rfl]
            have q3 : PostN c σ F H (oList r) Q ((noX (i1 l[i]) >>= fun l1 => runF (t1 l[i]) (e l[i]) l1 (run2 t i1 t1 e (l.drop (i + 1)) lay) acc) p4) := q2
            have g5 := g4.ext e4 pl4
            refine hi1 l[i] _ σ4 F4 H4 p4 _ g5 ?_
            rw [run_bind] at q3
            unfold noX at q3
            rcases h5 : i1 l[i] p4 with ⟨er | l1, p5⟩
            · rw [h5] at q3
              cases er <;> exact q3.elim
            · rw [h5] at q3
              intro J1 F5 H5 G1 Y1 e5 pl5 wk1 hG1 hY1
              have e5 : Ext c.q F4 H4 F5 H5 := e5
              have pl5 : PoolOk c.q c.s F5 H5 p5 := pl5
              have e15 : Ext c.q F1 H1 F5 H5 := e14.tr e5 pl4
              have hD5 : H5 D = some (.lst vs2) := e5.keep D _ hD4 qD
              have nF5 : F5 D = none := none_ext e5 nF4 hD4
              have g6 := g5.ext e5 pl5
              have e15o := e15.out nD nF5
              have aD : ∀ a ∈ ownA (Γt l[i]) σ4, a ≠ D := fun a ha z => by
                have := g4.os a ha
                have this : upd S.2 D (.lst vs2) a = none := this
                rw [z, upd_same] at this; cases this
              have g6o := g6.out (S := S) aD (fun a ha => by
                have := g4.os a ha
                have this : upd S.2 D (.lst vs2) a = none := this
                rw [upd_ne (aD a ha)] at this
                exact this) ((gd.ent.tr e1 gd.pl).tr e15o pl1) nF5 qD gd.ln
              have pl5o := pl5.out (D := D) qD
              have k5 := k4.imp fun _ _ => r.mono e5.sub
              refine it_gen wk1 (B := fun Nx x H' => g1 x (wipe σ4 vs1) H' fun σ3 H5 => wipe σ3 vs1 = wipe σ4 vs1 ∧ tt1 σ3 H5 fun b H6 => if b = true then te σ3 H6 fun y H7 => ∃ acc, H7 D = some (.lst acc) ∧ acc.length < sizeLine ∧ Nx (upd H7 D (.lst (acc ++ [y]))) else Nx H6)
                (fun j H' => LcS c F5 (Kf.out D H5) D r (fun a p => PostN c σ F H (oList r) Q (runF (t1 l[i]) (e l[i]) (l1.drop j) (run2 t i1 t1 e (l.drop (i + 1)) lay) a p)) H') ?_ ?_ ?_ ?_
              · exact ⟨F5, p5, vs2, acc, Ext.back e5.sub', pl5, nF5, hD5, hl2, k5, q3⟩
              · rintro j H' _ ⟨F6, p6, vs6, acc6, e6, pl6, _⟩
                exact hG1 H' (e6.sub.trans e6.sub') (g6o.ext e6 pl6).lh
              · rintro j y H6 H7 hlt1 ⟨F6, p6, vs6, acc6, e6, pl6, nF6, hD6, hl6, k6, q6⟩ hy1
                obtain ⟨F7, e7, hr1⟩ := hY1 j y F6 H6 H7 hlt1 e6.sub e6.sub' hy1
                have ha1 : l1[j]? = some l1[j] := List.getElem?_eq_getElem hlt1
                have pl7 := pl6.up e7
                have g7 := (g6o.ext e6 pl6).ext e7.widen pl7
                have hD7 : H7 D = some (.lst vs6) := e7.keep D _ hD6 (by simp)
                have nF7 : F7 D = none := none_ext e7 nF6 hD6
                have e57 : Ext c.q F5 (Kf.out D H5) F7 H7 := e6.tr e7.widen pl6
                rw [drop_cons ha1] at q6
                refine hg1 l[i] l1[j] y S (wipe σ4 vs1) F7 H7 p6 _ (g7.wipe rfl vs1) (hr1 _ ha1) fun σ8 g8 w8 => ⟨by rw [w8 vs1 hw1, wipe_idem], ht1 l[i] l1[j] S σ8 F7 H7 p6 _ g8 (Post.ofT (c := c) (σ := σ8) ?_)⟩
                have q6 : PostN c σ F H (oList r) Q ((noX (t1 l[i] l1[j]) >>= fun b => if b = true then noX (e l[i] l1[j]) >>= fun y => runF (t1 l[i]) (e l[i]) (l1.drop (j + 1)) (run2 t i1 t1 e (l.drop (i + 1)) lay) (acc6 ++ [y]) else runF (t1 l[i]) (e l[i]) (l1.drop (j + 1)) (run2 t i1 t1 e (l.drop (i + 1)) lay) acc6) p6) := q6
                rw [run_bind] at q6
                rcases h8 : noX (t1 l[i] l1[j]) p6 with ⟨er | b, p8⟩
                · rw [h8] at q6
                  cases er with
                  | stuck => exact q6
                  | exc ex => exact noX_ne h8
                · rw [h8] at q6
                  intro F8 H8 e8 pl8
                  have e58 : Ext c.q F5 (Kf.out D H5) F8 H8 := e57.tr e8 pl7
                  have hD8 : H8 D = some (.lst vs6) := e8.keep D _ hD7 qD
                  have nF8 : F8 D = none := none_ext e8 nF7 hD7
                  have k8 := k6.imp fun _ _ => r.mono (e7.sub.trans e8.sub)
                  cases b with
                  | false =>
                    rw [if_neg Bool.false_ne_true]
                    exact ⟨F8, p8, vs6, acc6, e58, pl8, nF8, hD8, hl6, k8, q6⟩
                  | true =>
                    rw [if_pos rfl]
                    exact lc_push (c := c) (Γ4 := Γu l[i] l1[j]) (Kok.runF (kk _) _) qD (out_same H5) (he l[i] l1[j]) (g8.ext e8 pl8) e58 pl8 nF8 hD8 k8 q6
              · rintro H' ⟨F6, p6, vs6, acc6, e6, pl6, nF6, hD6, hl6, k6, q6⟩
                rw [List.drop_length] at q6
                exact ⟨F6, p6, vs6, acc6, e15o.tr e6 pl5o, pl6, nF6, hD6, hl6, k6, q6⟩
      · rintro H' ⟨F2, p2, vs2, acc, e2, pl2, nF2, hD, hl2, k2, q2⟩
        rw [List.drop_length] at q2
        have q2 : PostN c σ F H (oList r) Q (lay acc p2) := q2
        unfold lay guardM at q2
        by_cases hh : acc.length ≤ sizeLine
        · rw [if_pos hh] at q2
          exact q2 D (.lst vs2) F2 H' (e1.tr e2 pl1) pl2 nH nF2 hD qD ⟨vs2, rfl, hl2, k2⟩
        · rw [if_neg hh] at q2
          exact q2.elim)
end
end Kf

set_option maxHeartbeats 4000000
/-! Kf: own operators between instances; isinstance of an instance; tests that always hold -/
namespace Kf
open PySem PySem.Spec L2
open PyProof.Rows hiding St
section
variable {X : Cx} {CX : CXT} {k : Nat} {f C : Addr} {fd : FuncData} {ps : List Str} {sp : Sp} {dvs : List V} {ds : List Value} {E : St → XK} {mt : Str} {p pos : Pos} {a b : Expr} {ta tb : TE}
/-- an operator between two instances of one class -/
def tBinI (C : Addr) (sp : Sp) (dvs : List V) (E : St → XK) (ta tb : TE) : TE := fun σ H Q => ta σ H fun x H1 => tb σ H1 fun y H2 => ∃ q dx fs q2 dy gs, x = .ref q ∧ y = .ref q2 ∧ H2 q = some (.ins C dx fs) ∧ H2 q2 = some (.ins C dy gs) ∧ sp (x :: y :: dvs) H2 Q (E σ)
theorem cmp_back {P : Value → Shared → Prop} {pins : List (Addr × Obj)} {σ : St} {Q : VK} {v : Value} {s' : Shared} (h : EP X pins σ Q v s') : PySem.W.CmpBack (EP X pins σ Q) v s' := by
  obtain ⟨z, H', I', rz, q⟩ := h
  exact SlX.cmpback rz ⟨z, H', I', rz, q⟩
theorem pe_binI {op : Operator} (F : FnOk X.prog X.w X.K X.mg X.base CX k f fd ps sp) (hr : Room k X.A) (hb : Binds X.K fd ps ds) (hd : Vals dvs ds) (hx : ∀ σ, PassesAt CX X σ (E σ)) (hm : Meth X.K C mt f) (hop : PySem.dunder op.info.2 = mt) (sf : PySem.W.selfFirst X.K C = true)
    (ha : PE X a ta) (hb2 : PE X b tb) : PE X (.BinOp a op b pos) (tBinI C sp dvs E ta tb) := ⟨fun pins s σ H Q I h =>
  wpAny_BinOp (thn (ha.run pins s σ H _ I h) fun v s1 ⟨x, H1, I1, rx, q1⟩ => thn (hb2.run pins s1 σ H1 _ I1 q1) fun u s2 ⟨y, H2, I2, ry, q, dx, fs, q2, dy, gs, ex, ey, e1, e2, hq⟩ => by
    subst ex ey
    obtain rfl : v = Value.ref q := rx
    obtain rfl : u = Value.ref q2 := ry
    obtain ⟨ox, od, J⟩ := ins_at I2 e1
    obtain ⟨ox2, od2, J2⟩ := ins_at I2 e2
    obtain ⟨m, hF⟩ := I2.fr
    refine PySem.W.binop_K hF I2.ok.mod.kin J J2.type sf (by rw [hop]; exact hm.at_) hm.fn ?_
    exact wpAny_mono (run_fnA (us := [.ref q, .ref q2]) (vs := [.ref q, .ref q2]) F hr rfl hb hd (hx σ) I2 (.cons rfl (.cons rfl .nil)) hq) (fun _ _ z => cmp_back (P := fun _ _ => True) z) fun _ _ z => z)⟩
theorem pc_cmpI {op : CmpOp} (hop : ∀ a b, compareOp op a b = richCompare op a b) (F : FnOk X.prog X.w X.K X.mg X.base CX k f fd ps sp) (hr : Room k X.A) (hb : Binds X.K fd ps ds) (hd : Vals dvs ds) (hx : ∀ σ, PassesAt CX X σ (E σ)) (hm : Meth X.K C mt f) (hn : (PySem.cmpInfo op).2.1 = mt)
    (ha : PE X a ta) (hb2 : PE X b tb) : PC X op a b (tBinI C sp dvs E ta tb) := ⟨fun pins s σ H Q I h =>
  thn (ha.run pins s σ H _ I h) fun v s1 ⟨x, H1, I1, rx, q1⟩ => thn (hb2.run pins s1 σ H1 _ I1 q1) fun u s2 ⟨y, H2, I2, ry, q, dx, fs, q2, dy, gs, ex, ey, e1, e2, hq⟩ => by
    subst ex ey
    obtain rfl : v = Value.ref q := rx
    obtain rfl : u = Value.ref q2 := ry
    obtain ⟨ox, od, J⟩ := ins_at I2 e1
    obtain ⟨ox2, od2, J2⟩ := ins_at I2 e2
    obtain ⟨m, hF⟩ := I2.fr
    rw [hop]
    refine PySem.W.cmp_K hr.units0 hF I2.ok.mod.kin J J2.type (by simp [PySem.W.notFirst]) (by rw [hn]; exact hm.at_) hm.fn ?_
    exact wpAny_mono (run_fnA (us := [.ref q, .ref q2]) (vs := [.ref q, .ref q2]) F hr rfl hb hd (hx σ) I2 (.cons rfl (.cons rfl .nil)) hq) (fun _ _ z => cmp_back (P := fun _ _ => True) z) fun _ _ z => z⟩
theorem hop_le : ∀ a b, compareOp .LtE a b = richCompare .LtE a b := fun _ _ => rfl
theorem hop_eq : ∀ a b, compareOp .Eq a b = richCompare .Eq a b := fun _ _ => rfl
/-- -a, ~a -/
theorem pss_no {b : List Stmt} : PSs X b (fun _ _ _ => False) := ⟨fun _ _ _ _ _ _ h => h.elim⟩
end
section
variable {c : Cf} {Γ : List Sl} {α β γ ρ : Type} {ta tb : TE}
theorem ev_binI {x : Str} {fl : α → List FV} {fl2 : β → List FV} {f : α × β × Unit → PM γ} {r : Rl γ} {m : PM α} {mb : PM β} (h : Ev c Γ ta m (rIns c.K x fl)) (hb : Ev c Γ tb mb (rIns c.K x fl2)) :
    Ev c Γ (tBinI (He.ga c.K x) (spF c.K (aCons (rIns c.K x fl) (aCons (rIns c.K x fl2) aNil)) f r) [] (WE c.W) ta tb) (m >>= fun o => mb >>= fun b => frame (f (o, b, ()))) r := fun S σ F H p Q g q =>
  h S σ F H p _ g (q.seq fun o p1 v F1 H1 e1 pl1 r1 h1 => by
    refine hb S σ F1 H1 p1 _ (g.ext e1 pl1) (h1.seq fun b p2 w F2 H2 e2 pl2 r2 h2 => ?_)
    have r1' := (rIns c.K x fl).mono e2.sub r1
    obtain ⟨y, dx, fs, rfl, k1, k2⟩ := rIns.of r1'
    obtain ⟨y2, dy, gs, rfl, k3, k4⟩ := rIns.of r2
    have sb := ((g.ext e1 pl1).ext e2 pl2).sub
    refine ⟨y, dx, fs, y2, dy, gs, rfl, rfl, sb _ _ k1, sb _ _ k3, F2, (o, b, ()), p2, sb, ⟨.ref y, [.ref y2], rfl, r1', ⟨.ref y2, [], rfl, r2, rfl⟩⟩, ?_⟩
    have h3 : Post c σ F2 H2 r Q ((f (o, b, ()) p2).1, p2) := h2
    rcases e : f (o, b, ()) p2 with ⟨er | a, p3⟩
    · rw [e] at h3
      cases er with
      | stuck => exact h3
      | exc ex => exact fun cls d F' H' e' _ k => h3 cls d F' H' e'.widen (pl2.up e') k
    · rw [e] at h3
      exact fun v F' H' e' _ k => h3 v F' H' e'.widen (pl2.up e') k)
/-- isinstance of an instance -/
structure InsT (K : PySem.W.Frag) (C D : Addr) (b : Bool) : Prop where
  cl : Cls K C
  ha : PySem.W.findIn K (.ref C) "__class__" = some (some (.builtin "object.__class__"))
  hn : PySem.W.specialIn K (.builtin "object.__class__") "__get__" = some (some (.builtin "getset_descriptor.__get__"))
  htk : PySem.W.takesIn K (.builtin "object.__class__") = some true
  hm : PySem.W.mroIn K C (.type "object") = some true
  ki : PySem.W.kitOne K (.ref C) (.ref D) = some b
def isB (K : PySem.W.Frag) (x y : Str) (b : Bool) : Bool := eqOV (PySem.W.findIn K (.ref (He.ga K x)) "__class__") (some (some (.builtin "object.__class__"))) && eqOV (PySem.W.specialIn K (.builtin "object.__class__") "__get__") (some (some (.builtin "getset_descriptor.__get__"))) &&
  decide (PySem.W.takesIn K (.builtin "object.__class__") = some true) && decide (PySem.W.mroIn K (He.ga K x) (.type "object") = some true) && decide (PySem.W.kitOne K (.ref (He.ga K x)) (.ref (He.ga K y)) = some b)
theorem isB_ok {K : PySem.W.Frag} {x y : Str} {b : Bool} (cl : Cls K (He.ga K x)) (h : isB K x y b = true) : InsT K (He.ga K x) (He.ga K y) b := by
  unfold isB at h
  simp only [Bool.and_eq_true, decide_eq_true_eq] at h
  obtain ⟨⟨⟨⟨h1, h2⟩, h3⟩, h4⟩, h5⟩ := h
  exact ⟨cl, eqOV_ok h1, eqOV_ok h2, h3, h4, h5⟩
theorem ev_isO {x y : Str} {b : Bool} {fl : α → List FV} {m : PM α} (k : InsT c.K (He.ga c.K x) (He.ga c.K y) b) (ha : Ev c Γ ta m (rIns c.K x fl)) : Ev c Γ (tCB (rIsi c.K) (tCons ta (tCons (tC (.ref (He.ga c.K y))) tNil))) (m >>= fun _ => pure b) rBool := fun S σ F H p Q g q =>
  ha S σ F H p _ g (q.seq fun a p1 v F1 H1 e1 pl1 r1 h1 => by
    obtain ⟨z, dx, fs, rfl, k1, k2⟩ := rIns.of r1
    exact ⟨.ref z, .ref (He.ga c.K y), _, _, b, rfl, .own _, .base (.ins (e1.sub' _ _ k1) k.cl k.ha k.hn k.htk k.hm), k.ki, h1.now (g.ext e1 pl1).sub pl1 rfl⟩)
theorem el_stuck {rr : Rr ρ} {fall : Prop} : El c rr fall Γ (fun _ _ _ => False) stuck := fun S σ F H p D g hf q => q
end
end Kf

set_option maxHeartbeats 4000000
/-! Kf: new objects handed back; lists that are lent -/
namespace Kf
open PySem PySem.Spec L2
open PyProof.Rows hiding St
/-! ### a new object handed back -/
def spFN {A α : Type} (K : PySem.W.Frag) (ra : Ra A) (m : A → PM α) (r : Ro α) : Sp := fun vs H Q E =>
  ∃ F a p, Same F H ∧ ra.rel F vs a ∧ PostN (cfE K none 0 E) [] F H r Q (m a p)
def spPN {A α : Type} (K : PySem.W.Frag) (ra : Ra A) (m : A → PM α) (r : Ro α) : Sp := fun vs H Q E =>
  ∃ q sc ws F a p, vs = .ref q :: ws ∧ Same F H ∧ PoolOk (some q) ⟨sc, [], fun _ => none⟩ F H p ∧ ra.rel F ws a ∧ PostN (cfE K (some q) sc E) [] F H r Q (m a p)
section
variable {c : Cf} {Γ : List Sl} {ta tb te : TE} {α β γ ρ A B : Type} {t : TA}
theorem PostN.toE {σ : St} {F H : Hp} {r : Ro α} {Q : VK} {x : Except Er α × Pool} (h : PostN c σ F H r Q x) : PostN (cfE c.K c.q c.s.a (WE c.W σ)) [] F H r Q x := by
  rcases x with ⟨er | a, p⟩
  · cases er <;> exact h
  · exact h
theorem PostN.toL {K : PySem.W.Frag} {q : Option Addr} {sc : Addr} {E : XK} {L F H : Hp} {r : Ro α} {Q : VK} {x : Except Er α × Pool} (h : PostN (cfE K q sc E L) [] F H r Q x) : PostL (cfE K q sc E L) (F, H) (Rr.new r) { nx := fun _ H' => Q .non H', rt := Q } x := by
  rcases x with ⟨er | a, p⟩
  · cases er with
    | stuck => exact h
    | exc ex => exact fun cls d _ F' H' e pl _ k => h cls d F' H' e pl k
  · rintro v F' H' e pl ⟨y, ho, rfl, hn, hf, hh, hq, r1⟩
    exact h y ho F' H' e pl hn hf hh hq r1
theorem en_callD {ra0 : Ra B} {ra : Ra A} {f : A → PM α} {r : Ro α} {m : PM B} {dvs : List V} (cv : B → A) (hc : ∀ F vs b, ra0.rel F vs b → ra.rel F (vs ++ dvs) (cv b)) (h : Ea c Γ t m ra0) :
    En c Γ (tCallSD (spFN c.K ra f r) dvs (WE c.W) t) (m >>= fun b => frame (f (cv b))) r := fun S σ F H p Q g q =>
  h S σ F H p _ g (q.seq fun b p1 vs F1 H1 e1 pl1 r1 h1 => by
    refine ⟨F1, cv b, p1, (g.ext e1 pl1).sub, hc F1 vs b r1, ?_⟩
    have h2 : PostN c σ F1 H1 r Q ((f (cv b) p1).1, p1) := h1
    rcases e : f (cv b) p1 with ⟨er | a, p2⟩
    · rw [e] at h2
      cases er with
      | stuck => exact h2
      | exc ex => exact fun cls d F' H' e' _ k => h2 cls d F' H' e'.widen (pl1.up e') k
    · rw [e] at h2
      exact fun y ho F' H' e' _ hn hf hh _ k => h2 y ho F' H' e'.widen (pl1.up e') hn hf hh (fun z => pl1.there y z hn) k)
theorem en_call {ra : Ra A} {f : A → PM α} {r : Ro α} {m : PM A} (h : Ea c Γ t m ra) : En c Γ (tCallSD (spFN c.K ra f r) [] (WE c.W) t) (m >>= fun a => frame (f a)) r :=
  en_callD id (fun F vs b k => by rw [List.append_nil]; exact k) h
theorem en_callD0 (hq : c.q = none) {ra0 : Ra B} {ra : Ra A} {f : A → PM α} {r : Ro α} {m : PM B} {dvs : List V} (cv : B → A) (hc : ∀ F vs b, ra0.rel F vs b → ra.rel F (vs ++ dvs) (cv b)) (h : Ea c Γ t m ra0) :
    En c Γ (tCallSD (spFN c.K ra f r) dvs (WE c.W) t) (m >>= fun b => f (cv b)) r := fun S σ F H p Q g q =>
  h S σ F H p _ g (q.seq fun b p1 vs F1 H1 e1 pl1 r1 h1 => by
    refine ⟨F1, cv b, p1, (g.ext e1 pl1).sub, hc F1 vs b r1, ?_⟩
    have := PostN.toE h1
    rw [hq] at this
    exact this)
theorem en_call0 (hq : c.q = none) {ra : Ra A} {f : A → PM α} {r : Ro α} {m : PM A} (h : Ea c Γ t m ra) : En c Γ (tCallSD (spFN c.K ra f r) [] (WE c.W) t) (m >>= fun a => f a) r :=
  en_callD0 hq id (fun F vs b k => by rw [List.append_nil]; exact k) h
theorem en_callP {q : Addr} (i : Nat) (hq : c.q = some q) (hi : nth Γ i = .val rPool q) {ra : Ra A} {f : A → PM α} {r : Ro α} {m : PM A} (h : Ea c Γ t m ra) : En c Γ (tCallSD (spPN c.K ra f r) [] (WE c.W) (tCons (tVar i) t)) (m >>= fun a => f a) r := fun S σ F H p Q g qq => by
  obtain ⟨v, h1, h2⟩ := g.sl.val hi
  refine ⟨v, h1, h S σ F H p _ g (qq.seq fun b p1 vs F1 H1 e1 pl1 r1 h3 => ?_)⟩
  rw [show v = .ref q from h2]
  have := PostN.toE h3
  rw [hq] at this pl1
  exact ⟨q, c.s.a, vs, F1, b, p1, by simp, (g.ext e1 (by rw [hq]; exact pl1)).sub, pl1, r1, this⟩
theorem en_meth {x mt : Str} {fl : α → List FV} {nm : List Str} {ra : Ra A} {f : α × A → PM γ} {r : Ro γ} {m : PM α} {mb : PM A} (hnm : ∀ o, (fl o).map FV.n = nm) (hn : mt ∉ nm)
    (h : Ev c Γ ta m (rIns c.K x fl)) (hb : Ea c Γ t mb ra) :
    En c Γ (tMethS (He.ga c.K x) mt (spFN c.K (aCons (rIns c.K x fl) ra) f r) [] (WE c.W) ta t) (m >>= fun o => mb >>= fun b => frame (f (o, b))) r := fun S σ F H p Q g q =>
  h S σ F H p _ g (q.seq fun o p1 v F1 H1 e1 pl1 r1 h1 => by
    obtain ⟨y, dx, fs, rfl, k1, k2⟩ := rIns.of r1
    refine ⟨y, dx, fs, rfl, e1.sub' _ _ k1, fv_none k2 (by rw [hnm]; exact hn), hb S σ F1 H1 p1 _ (g.ext e1 pl1) (h1.seq fun b p2 vs F2 H2 e2 pl2 r2 h2 => ?_)⟩
    refine ⟨F2, (o, b), p2, ((g.ext e1 pl1).ext e2 pl2).sub, ⟨.ref y, vs ++ [], rfl, (rIns c.K x fl).mono e2.sub r1, by rw [List.append_nil]; exact r2⟩, ?_⟩
    have h3 : PostN c σ F2 H2 r Q ((f (o, b) p2).1, p2) := h2
    rcases e : f (o, b) p2 with ⟨er | a, p3⟩
    · rw [e] at h3
      cases er with
      | stuck => exact h3
      | exc ex => exact fun cls d F' H' e' _ k => h3 cls d F' H' e'.widen (pl2.up e') k
    · rw [e] at h3
      exact fun y ho F' H' e' _ hn hf hh _ k => h3 y ho F' H' e'.widen (pl2.up e') hn hf hh (fun z => pl2.there y z hn) k)
/-! ### lent lists -/
def rLent {α : Type} (L : Hp) (r : Rl α) : Rl (List α) := ⟨fun F v l => ∃ p vs, v = .ref p ∧ L p = some (.lst vs) ∧ vs.length ≤ sizeLine ∧ All2 (r.rel F) vs l, fun s ⟨p, vs, e, h1, h2, h3⟩ => ⟨p, vs, e, h1, h2, h3.imp fun _ _ => r.mono s⟩⟩
/-- all but the pool -/
def noq (q : Option Addr) (H : Hp) : Hp := fun b => if q = some b then none else H b
theorem noq_same {q : Option Addr} {H : Hp} : Same (noq q H) H := fun b o h => by
  unfold noq at h
  split at h
  · cases h
  · exact h
theorem noq_ext {q : Option Addr} {F H F' H' : Hp} (e : Ext q F H F' H') : Same (noq q H) (noq q H') := fun b o h => by
  unfold noq at h ⊢
  split at h
  · cases h
  · rename_i n
    rw [if_neg n]
    exact e.keep b o h n
theorem noq_some {q : Option Addr} {H : Hp} {b : Addr} {o : HO} (h : H b = some o) (n : q ≠ some b) : noq q H b = some o := by
  unfold noq
  rw [if_neg n]
  exact h
theorem rLent.lift {L L' F F' : Hp} {r : Rl α} {v : V} {l : List α} (h : (rLent L r).rel F v l) (sL : Same L L') (s : Same F F') : (rLent L' r).rel F' v l := by
  obtain ⟨p, vs, e, h1, h2, h3⟩ := h
  exact ⟨p, vs, e, sL _ _ h1, h2, h3.imp fun _ _ => r.mono s⟩
def PostH {X α : Type} (c : Cf) (σ : St) (F H : Hp) (rel : Hp → Hp → X → α → Prop) (Q : X → Hp → Prop) : Except Er α × Pool → Prop
  | (.ok a, p') => ∀ v F' H', Ext c.q F H F' H' → PoolOk c.q c.s F' H' p' → rel H' F' v a → Q v H'
  | (.error (.exc e), p') => ∀ cls d F' H', Ext c.q F H F' H' → PoolOk c.q c.s F' H' p' → ExR c.K F' e cls d → c.W cls d σ H'
  | (.error .stuck, _) => False
/-- a list to look at -/
def EvL {α : Type} (c : Cf) (Γ : List Sl) (t : TE) (m : PM (List α)) (r : Rl α) : Prop :=
  ∀ (S : Hp × Hp) (σ : St) (F H : Hp) (p : Pool) (Q : VK), Good S c.q c.s Γ σ F H p → PostH c σ F H (fun H' F' v l => (rLent (noq c.q H') r).rel F' v l) Q (m p) → t σ H Q
def EaL {A : Type} (c : Cf) (Γ : List Sl) (t : TA) (m : PM A) (ra : Hp → Ra A) : Prop :=
  ∀ (S : Hp × Hp) (σ : St) (F H : Hp) (p : Pool) (Q : List V → Hp → Prop), Good S c.q c.s Γ σ F H p → PostH c σ F H (fun H' F' v l => (ra (noq c.q H')).rel F' v l) Q (m p) → t σ H Q
theorem PostH.seq {X Y : Type} {σ : St} {F H : Hp} {p : Pool} {rel : Hp → Hp → Y → α → Prop} {r : Rg X β} {m : PM β} {f : β → PM α} {Q' : Y → Hp → Prop} {Q : X → Hp → Prop} (h : PostH c σ F H rel Q' ((m >>= f) p))
    (k : ∀ a p1 v F1 H1, Ext c.q F H F1 H1 → PoolOk c.q c.s F1 H1 p1 → r.rel F1 v a → PostH c σ F1 H1 rel Q' (f a p1) → Q v H1) : Post c σ F H r Q (m p) := by
  rw [run_bind] at h
  rcases e : m p with ⟨er | a, p1⟩
  · rw [e] at h; cases er <;> exact h
  · rw [e] at h
    intro v F1 H1 e1 pl1 r1
    refine k a p1 v F1 H1 e1 pl1 r1 ?_
    have h : PostH c σ F H rel Q' (f a p1) := h
    rcases e2 : f a p1 with ⟨er | b, p2⟩
    · rw [e2] at h
      cases er with
      | stuck => exact h
      | exc ex => exact fun cls d F' H' e' pl k => h cls d F' H' (e1.tr e' pl1) pl k
    · rw [e2] at h
      exact fun v F' H' e' pl k => h v F' H' (e1.tr e' pl1) pl k
theorem PostH.seqH {X Y : Type} {σ : St} {F H : Hp} {p : Pool} {rel : Hp → Hp → Y → α → Prop} {rel0 : Hp → Hp → X → β → Prop} {m : PM β} {f : β → PM α} {Q' : Y → Hp → Prop} {Q : X → Hp → Prop} (h : PostH c σ F H rel Q' ((m >>= f) p))
    (k : ∀ a p1 v F1 H1, Ext c.q F H F1 H1 → PoolOk c.q c.s F1 H1 p1 → rel0 H1 F1 v a → PostH c σ F1 H1 rel Q' (f a p1) → Q v H1) : PostH c σ F H rel0 Q (m p) := by
  rw [run_bind] at h
  rcases e : m p with ⟨er | a, p1⟩
  · rw [e] at h; cases er <;> exact h
  · rw [e] at h
    intro v F1 H1 e1 pl1 r1
    refine k a p1 v F1 H1 e1 pl1 r1 ?_
    have h : PostH c σ F H rel Q' (f a p1) := h
    rcases e2 : f a p1 with ⟨er | b, p2⟩
    · rw [e2] at h
      cases er with
      | stuck => exact h
      | exc ex => exact fun cls d F' H' e' pl k => h cls d F' H' (e1.tr e' pl1) pl k
    · rw [e2] at h
      exact fun v F' H' e' pl k => h v F' H' (e1.tr e' pl1) pl k
theorem Post.seqH {X Y : Type} {σ : St} {F H : Hp} {p : Pool} {r : Rg Y α} {rel0 : Hp → Hp → X → β → Prop} {m : PM β} {f : β → PM α} {Q' : Y → Hp → Prop} {Q : X → Hp → Prop} (h : Post c σ F H r Q' ((m >>= f) p))
    (k : ∀ a p1 v F1 H1, Ext c.q F H F1 H1 → PoolOk c.q c.s F1 H1 p1 → rel0 H1 F1 v a → Post c σ F1 H1 r Q' (f a p1) → Q v H1) : PostH c σ F H rel0 Q (m p) := by
  rw [run_bind] at h
  rcases e : m p with ⟨er | a, p1⟩
  · rw [e] at h; cases er <;> exact h
  · rw [e] at h
    exact fun v F1 H1 e1 pl1 r1 => k a p1 v F1 H1 e1 pl1 r1 (Post.later h e1 pl1)
theorem PostN.seqH {X : Type} {σ : St} {F H : Hp} {p : Pool} {r : Ro α} {rel0 : Hp → Hp → X → β → Prop} {m : PM β} {f : β → PM α} {Q' : VK} {Q : X → Hp → Prop} (h : PostN c σ F H r Q' ((m >>= f) p))
    (k : ∀ a p1 v F1 H1, Ext c.q F H F1 H1 → PoolOk c.q c.s F1 H1 p1 → rel0 H1 F1 v a → PostN c σ F1 H1 r Q' (f a p1) → Q v H1) : PostH c σ F H rel0 Q (m p) := by
  rw [run_bind] at h
  rcases e : m p with ⟨er | a, p1⟩
  · rw [e] at h; cases er <;> exact h
  · rw [e] at h
    exact fun v F1 H1 e1 pl1 r1 => k a p1 v F1 H1 e1 pl1 r1 (PostN.later h e1 pl1)
theorem evL_own (i : Nat) {r : Rl α} {l : List α} (e : nth Γ i = .own (oList r) l) : EvL c Γ (tVar i) (pure l) r := fun S σ F H p Q g q => by
  obtain ⟨x, ho, e2, h1, ⟨vs, rfl, k2, k3⟩, hm⟩ := g.sl.own e
  exact ⟨.ref x, e2, q (.ref x) F H (Ext.refl g.sub) g.pl ⟨x, vs, rfl, noq_some h1 (g.oq x hm), k2, k3⟩⟩
theorem evL_lent {r : Rl α} {m : PM (List α)} (h : Ev c Γ ta m (rLent c.s.L r)) : EvL c Γ ta m r := fun S σ F H p Q g q =>
  h S σ F H p _ g (by
    have q' : PostH c σ F H (fun H' F' v l => (rLent (noq c.q H') r).rel F' v l) Q ((m >>= fun a => pure a) p) := by rw [bind_pure]; exact q
    exact q'.seq fun a p1 v F1 H1 e1 pl1 r1 h1 => by
      obtain ⟨x, vs, rfl, k1, k2, k3⟩ := r1
      exact h1 _ F1 H1 (Ext.refl (g.ext e1 pl1).sub) pl1 ⟨x, vs, rfl, noq_some ((g.ext e1 pl1).lh _ _ k1) (fun z => by rw [g.ln.2 x z] at k1; cases k1), k2, k3⟩)
theorem evL_frz {r : Rl α} {m : PM (List α)} (h : Ev c Γ ta m (rList r)) : EvL c Γ ta m r := fun S σ F H p Q g q =>
  h S σ F H p _ g (by
    have q' : PostH c σ F H (fun H' F' v l => (rLent (noq c.q H') r).rel F' v l) Q ((m >>= fun a => pure a) p) := by rw [bind_pure]; exact q
    exact q'.seq fun a p1 v F1 H1 e1 pl1 r1 h1 => by
      obtain ⟨x, vs, rfl, k1, k2, k3⟩ := rList.of r1
      refine h1 _ F1 H1 (Ext.refl (g.ext e1 pl1).sub) pl1 ⟨x, vs, rfl, noq_some ((g.ext e1 pl1).sub _ _ k1) (fun z => ?_), k2, k3⟩
      rw [z] at pl1
      rw [pl1.1] at k1
      cases k1)
theorem eaL_nil : EaL c Γ tNil (pure ()) (fun _ => aNil) := fun S σ F H p Q g q => q [] F H (Ext.refl g.sub) g.pl rfl
theorem eaL_cons {r : Rl α} {ra : Hp → Ra A} {ma : PM α} {mr : PM A} (ha : Ev c Γ ta ma r) (hr : EaL c Γ t mr ra) : EaL c Γ (tCons ta t) (ma >>= fun a => mr >>= fun as => pure (a, as)) (fun L => aCons r (ra L)) := fun S σ F H p Q g q =>
  ha S σ F H p _ g (q.seq fun a p1 v F1 H1 e1 pl1 r1 h1 => hr S σ F1 H1 p1 _ (g.ext e1 pl1) (h1.seqH fun as p2 vs F2 H2 e2 pl2 r2 h2 => h2 (v :: vs) F2 H2 (Ext.refl ((g.ext e1 pl1).ext e2 pl2).sub) pl2 ⟨v, vs, rfl, r.mono e2.sub r1, r2⟩))
theorem eaL_lent {r : Rl α} {ra : Hp → Ra A} {ma : PM (List α)} {mr : PM A} (ha : EvL c Γ ta ma r) (hr : EaL c Γ t mr ra) : EaL c Γ (tCons ta t) (ma >>= fun a => mr >>= fun as => pure (a, as)) (fun L => aCons (rLent L r) (ra L)) := fun S σ F H p Q g q =>
  ha S σ F H p _ g (q.seqH fun a p1 v F1 H1 e1 pl1 r1 h1 => hr S σ F1 H1 p1 _ (g.ext e1 pl1) (h1.seqH fun as p2 vs F2 H2 e2 pl2 r2 h2 => h2 (v :: vs) F2 H2 (Ext.refl ((g.ext e1 pl1).ext e2 pl2).sub) pl2 ⟨v, vs, rfl, rLent.lift (r := r) (L := noq c.q H1) (F := F1) r1 (noq_ext e2) e2.sub, r2⟩))
/-! ### what may be done with them -/
theorem lent_at {q : Option Addr} {H F : Hp} {r : Rl α} {v : V} {l : List α} (h : (rLent (noq q H) r).rel F v l) : ∃ x vs, v = .ref x ∧ H x = some (.lst vs) ∧ vs.length ≤ sizeLine ∧ All2 (r.rel F) vs l := by
  obtain ⟨x, vs, e, h1, h2, h3⟩ := h
  exact ⟨x, vs, e, noq_same _ _ h1, h2, h3⟩
theorem ei_lent {r : Rl α} {m : PM (List α)} (h : Ev c Γ ta m (rLent c.s.L r)) : Ei c Γ (iList c.K ta) m r := fun S σ F H p R g q =>
  h S σ F H p _ g (by
    have q' : PostI c σ F H r R ((m >>= fun l => pure l) p) := by rw [bind_pure]; exact q
    exact q'.seq fun l p1 v F1 H1 e1 pl1 r1 h1 => by
      obtain ⟨x, vs, rfl, k1, k2, k3⟩ := r1
      have hs := (g.ext e1 pl1).lh _ _ k1
      refine ⟨x, rfl, ⟨vs, SqL.of hs⟩, h1 (Itl c.K x) F1 H1 (fun H => SqL c.K H x vs) (YAt vs) e1 pl1 (by rw [← k3.length]; exact walk_list) (fun H2 _ s => SqL.of (s _ _ k1)) fun i y F2 H2 H3 hi s2 s3 hy => ?_⟩
      obtain ⟨rfl, hy⟩ := hy
      refine ⟨F2, Ext.refl s3, fun a ha => ?_⟩
      obtain ⟨w, hw, rw_⟩ := k3.get ha
      rw [hy] at hw
      obtain rfl := Option.some.inj hw
      exact r.mono s2 rw_)
theorem en_listV {r : Rl α} {ma : PM (List α)} (ha : EvL c Γ ta ma r) : En c Γ (tCB (rListOf c.K) (tCons ta tNil)) ma (oList r) := fun S σ F H p Q g q =>
  ha S σ F H p _ g (by
    have q' : PostN c σ F H (oList r) Q ((ma >>= fun l => pure l) p) := by rw [bind_pure]; exact q
    exact q'.seqH fun a p1 v F1 H1 e1 pl1 r1 h1 => by
      obtain ⟨x, vs, rfl, k1, k2, k3⟩ := lent_at r1
      exact ⟨x, vs, rfl, .inl (SqL.of k1), fun z hz => h1.now (g.ext e1 pl1).sub pl1 hz ⟨_, rfl, k2, k3⟩⟩)
theorem ev_tupV {r : Rl α} {ma : PM (List α)} (ha : EvL c Γ ta ma r) : Ev c Γ (tCB (rTupOf c.K) (tCons ta tNil)) ma (rTup c.K r) := fun S σ F H p Q g q =>
  ha S σ F H p _ g (by
    have q' : Post c σ F H (rTup c.K r) Q ((ma >>= fun l => pure l) p) := by rw [bind_pure]; exact q
    exact q'.seqH fun a p1 v F1 H1 e1 pl1 r1 h1 => by
      obtain ⟨x, vs, rfl, k1, k2, k3⟩ := lent_at r1
      have gs := (g.ext e1 pl1).sub
      exact ⟨x, vs, rfl, .inl ⟨SqL.of k1, fun z hz => h1.tup gs pl1 hz ⟨z, vs, rfl, SqT.of upd_same, k2, k3.imp fun _ _ => r.mono (same_upd (Same.none gs hz))⟩⟩⟩)
theorem ev_lenV {r : Rl α} {ma : PM (List α)} (ha : EvL c Γ ta ma r) : Ev c Γ (tCB (rLenQ c.K) (tCons ta tNil)) (ma >>= fun x => pure (x.length : Int)) rInt := fun S σ F H p Q g q =>
  ha S σ F H p _ g (q.seqH fun a p1 v F1 H1 e1 pl1 r1 h1 => by
    obtain ⟨x, vs, rfl, k1, k2, k3⟩ := lent_at r1
    refine ⟨x, vs, rfl, .inl (SqL.of k1), ?_⟩
    rw [k3.length]
    exact h1.now (g.ext e1 pl1).sub pl1 rfl)
theorem ev_inV [DecidableEq α] {r : Rl α} {f : α → V} (sc : ScalF r f) {ma : PM α} {mb : PM (List α)} (ha : Ev c Γ ta ma r) (hb : EvL c Γ tb mb r) : Ev c Γ (tOp (rIn c.K false) ta tb) (ma >>= fun a => mb >>= fun l => pure (decide (a ∈ l))) rBool := fun S σ F H p Q g q =>
  ha S σ F H p _ g (q.seq fun a p1 v F1 H1 e1 pl1 r1 h1 => hb S σ F1 H1 p1 _ (g.ext e1 pl1) (h1.seqH fun l p2 w F2 H2 e2 pl2 r2 h2 => by
    obtain ⟨z, vs, rfl, k1, k2, k3⟩ := lent_at r2
    obtain ⟨j1, j2⟩ := All2.memS sc.toScal sc.flat sc.eq a k3
    have gd := (g.ext e1 pl1).ext e2 pl2
    rw [sc.v r1]
    refine ⟨z, vs, rfl, .inl (SqL.of k1), sc.flat a, j1, ?_⟩
    rw [j2]
    exact h2.now gd.sub pl2 rfl))
theorem ev_ninV [DecidableEq α] {r : Rl α} {f : α → V} (sc : ScalF r f) {ma : PM α} {mb : PM (List α)} (ha : Ev c Γ ta ma r) (hb : EvL c Γ tb mb r) : Ev c Γ (tOp (rIn c.K true) ta tb) (ma >>= fun a => mb >>= fun l => pure (!decide (a ∈ l))) rBool := fun S σ F H p Q g q =>
  ha S σ F H p _ g (q.seq fun a p1 v F1 H1 e1 pl1 r1 h1 => hb S σ F1 H1 p1 _ (g.ext e1 pl1) (h1.seqH fun l p2 w F2 H2 e2 pl2 r2 h2 => by
    obtain ⟨z, vs, rfl, k1, k2, k3⟩ := lent_at r2
    obtain ⟨j1, j2⟩ := All2.memS sc.toScal sc.flat sc.eq a k3
    have gd := (g.ext e1 pl1).ext e2 pl2
    rw [sc.v r1]
    refine ⟨z, vs, rfl, .inl (SqL.of k1), sc.flat a, j1, ?_⟩
    rw [j2]
    exact h2.now gd.sub pl2 rfl))
theorem ea_starV {r : Rl α} {m : PM (List α)} (h : EvL c Γ te m r) : Ea c Γ (StX.tStar c.K te tNil) m (aStar r) := fun S σ F H p Q g q =>
  h S σ F H p _ g (by
    have q' : Post c σ F H (aStar r) Q ((m >>= fun l => pure l) p) := by rw [bind_pure]; exact q
    exact q'.seqH fun l p1 v F1 H1 e1 pl1 r1 h1 => by
      obtain ⟨x, vs, rfl, k1, k2, k3⟩ := lent_at r1
      refine ⟨x, vs, rfl, .inr (SqL.of k1), ?_⟩
      show Q (vs ++ []) H1
      rw [List.append_nil]
      exact h1.now (g.ext e1 pl1).sub pl1 ⟨k2, k3⟩)
/-! ### more methods of own lists -/
theorem All2.rev {α β : Type} {R : α → β → Prop} {xs : List α} {ys : List β} (h : All2 R xs ys) : All2 R xs.reverse ys.reverse := by
  induction h with
  | nil => exact .nil
  | cons a _ ih =>
    rw [List.reverse_cons, List.reverse_cons]
    exact ih.append (.cons a .nil)
theorem es_rev (i : Nat) {r : Rl α} {l : List α} (hx : nth Γ i = .own (oList r) l) :
    Es c Γ (tDrop (tBM0 c.K "list" rReverse (tVar i))) (pure l.reverse) fun l' => put Γ i (.own (oList r) l') := fun S σ F H p D g q => by
  obtain ⟨x, ho, h1, h2, ⟨vs, rfl, k2, k3⟩, hm⟩ := g.sl.own hx
  exact ⟨_, h1, .inl ⟨rfl, _, SqL.of h2⟩, x, vs, rfl, rfl, h2, q σ F _ (g.updo hx h1 ⟨_, rfl, by rw [List.length_reverse]; exact k2, k3.rev⟩)⟩
theorem es_clear (i : Nat) {r : Rl α} {l : List α} (hx : nth Γ i = .own (oList r) l) :
    Es c Γ (tDrop (tBM0 c.K "list" rClear (tVar i))) (pure []) fun l' => put Γ i (.own (oList r) l') := fun S σ F H p D g q => by
  obtain ⟨x, ho, h1, h2, ⟨vs, rfl, k2, k3⟩, hm⟩ := g.sl.own hx
  exact ⟨_, h1, .inl ⟨rfl, _, SqL.of h2⟩, x, vs, rfl, rfl, h2, q σ F _ (g.updo hx h1 ⟨_, rfl, Nat.zero_le _, .nil⟩)⟩
/-- a name that a loop may have bound -/
def ow {α : Type} (r : Ro α) : Option α → Sl
  | none => .any
  | some a => .own r a
theorem el_case {rr : Rr ρ} {fall : Prop} {t : TS} {o : Option α} {Γ' : Option α → List Sl} {m : α → PM ρ} (h : ∀ a, El c rr fall (Γ' (some a)) t (m a)) : El c rr fall (Γ' o) t (o.elim stuck m) := by
  cases o with
  | none => exact fun S σ F H p D g hf q => q.elim
  | some a => exact h a
/-! ### defs with lent lists -/
def spFL {A α : Type} (K : PySem.W.Frag) (ra : Hp → Ra A) (m : A → PM α) (r : Rl α) : Sp := fun vs H Q E =>
  ∃ F L a p, Same F H ∧ Same L H ∧ (ra L).rel F vs a ∧ Post (cfE K none 0 E L) [] F H r Q (m a p)
def spIL (K : PySem.W.Frag) (x : Str) (fl : α → List FV) (ra : Hp → Ra A) (m : A → PM α) : Sp := fun vs H Q E =>
  ∃ y dx ws F H0 L a p, vs = .ref y :: ws ∧ H = upd (upd H0 dx (.own y)) y (.ins (He.ga K x) dx []) ∧ H0 y = none ∧ H0 dx = none ∧ dx ≠ y ∧ Same F H0 ∧ Same L H0 ∧ (ra L).rel F ws a ∧ Post (cfE K none 0 E L) [] F H0 (rIns K x fl) (fun v H' => v = .ref y → Q .non H') (m a p)
theorem Post.toEL {σ : St} {F H L : Hp} {r : Rl α} {Q : VK} {x : Except Er α × Pool} (hq : c.q = none) (h : Post c σ F H r Q x) : Post (cfE c.K none 0 (WE c.W σ) L) [] F H r Q x := by
  rcases x with ⟨er | a, p⟩
  · cases er with
    | stuck => exact h
    | exc ex => exact fun cls d F' H' e' _ k => h cls d F' H' e'.widen (by rw [hq]; trivial) k
  · exact fun v F' H' e' _ k => h v F' H' e'.widen (by rw [hq]; trivial) k
theorem Post.frameL {σ : St} {F H L : Hp} {r : Rl α} {Q : VK} {m : PM α} {p : Pool} (pl : PoolOk c.q c.s F H p) (h : Post c σ F H r Q (frame m p)) : Post (cfE c.K none 0 (WE c.W σ) L) [] F H r Q (m p) := by
  have h2 : Post c σ F H r Q ((m p).1, p) := h
  rcases e : m p with ⟨er | a, p2⟩
  · rw [e] at h2
    cases er with
    | stuck => exact h2
    | exc ex => exact fun cls d F' H' e' _ k => h2 cls d F' H' e'.widen (pl.up e') k
  · rw [e] at h2
    exact fun v F' H' e' _ k => h2 v F' H' e'.widen (pl.up e') k
theorem ev_callDL {ra0 : Hp → Ra B} {ra : Hp → Ra A} {f : A → PM α} {r : Rl α} {m : PM B} {dvs : List V} (cv : B → A) (hc : ∀ L F vs b, (ra0 L).rel F vs b → (ra L).rel F (vs ++ dvs) (cv b)) (h : EaL c Γ t m ra0) :
    Ev c Γ (tCallSD (spFL c.K ra f r) dvs (WE c.W) t) (m >>= fun b => frame (f (cv b))) r := fun S σ F H p Q g q =>
  h S σ F H p _ g (q.seqH fun b p1 vs F1 H1 e1 pl1 r1 h1 => ⟨F1, _, cv b, p1, (g.ext e1 pl1).sub, noq_same, hc _ F1 vs b r1, Post.frameL pl1 h1⟩)
theorem ev_callL {ra : Hp → Ra A} {f : A → PM α} {r : Rl α} {m : PM A} (h : EaL c Γ t m ra) : Ev c Γ (tCallSD (spFL c.K ra f r) [] (WE c.W) t) (m >>= fun a => frame (f a)) r :=
  ev_callDL id (fun L F vs b k => by rw [List.append_nil]; exact k) h
theorem ev_callDL0 (hq : c.q = none) {ra0 : Hp → Ra B} {ra : Hp → Ra A} {f : A → PM α} {r : Rl α} {m : PM B} {dvs : List V} (cv : B → A) (hc : ∀ L F vs b, (ra0 L).rel F vs b → (ra L).rel F (vs ++ dvs) (cv b)) (h : EaL c Γ t m ra0) :
    Ev c Γ (tCallSD (spFL c.K ra f r) dvs (WE c.W) t) (m >>= fun b => f (cv b)) r := fun S σ F H p Q g q =>
  h S σ F H p _ g (q.seqH fun b p1 vs F1 H1 e1 pl1 r1 h1 => ⟨F1, _, cv b, p1, (g.ext e1 pl1).sub, noq_same, hc _ F1 vs b r1, Post.toEL hq h1⟩)
theorem ev_callL0 (hq : c.q = none) {ra : Hp → Ra A} {f : A → PM α} {r : Rl α} {m : PM A} (h : EaL c Γ t m ra) : Ev c Γ (tCallSD (spFL c.K ra f r) [] (WE c.W) t) (m >>= fun a => f a) r :=
  ev_callDL0 hq id (fun L F vs b k => by rw [List.append_nil]; exact k) h
theorem ev_methDL {x mt : Str} {fl : α → List FV} {nm : List Str} {ra0 : Hp → Ra B} {ra : Hp → Ra A} {f : α × A → PM γ} {r : Rl γ} {m : PM α} {mb : PM B} {dvs : List V} (cv : B → A) (hc : ∀ L F vs b, (ra0 L).rel F vs b → (ra L).rel F (vs ++ dvs) (cv b)) (hnm : ∀ o, (fl o).map FV.n = nm) (hn : mt ∉ nm)
    (h : Ev c Γ ta m (rIns c.K x fl)) (hb : EaL c Γ t mb ra0) :
    Ev c Γ (tMethS (He.ga c.K x) mt (spFL c.K (fun L => aCons (rIns c.K x fl) (ra L)) f r) dvs (WE c.W) ta t) (m >>= fun o => mb >>= fun b => frame (f (o, cv b))) r := fun S σ F H p Q g q =>
  h S σ F H p _ g (q.seq fun o p1 v F1 H1 e1 pl1 r1 h1 => by
    obtain ⟨y, dx, fs, rfl, k1, k2⟩ := rIns.of r1
    refine ⟨y, dx, fs, rfl, e1.sub' _ _ k1, fv_none k2 (by rw [hnm]; exact hn), hb S σ F1 H1 p1 _ (g.ext e1 pl1) (h1.seqH fun b p2 vs F2 H2 e2 pl2 r2 h2 => ?_)⟩
    exact ⟨F2, _, (o, cv b), p2, ((g.ext e1 pl1).ext e2 pl2).sub, noq_same, ⟨.ref y, vs ++ dvs, rfl, (rIns c.K x fl).mono e2.sub r1, hc _ F2 vs b r2⟩, Post.frameL pl2 h2⟩)
theorem ev_methL {x mt : Str} {fl : α → List FV} {nm : List Str} {ra : Hp → Ra A} {f : α × A → PM γ} {r : Rl γ} {m : PM α} {mb : PM A} (hnm : ∀ o, (fl o).map FV.n = nm) (hn : mt ∉ nm) (h : Ev c Γ ta m (rIns c.K x fl)) (hb : EaL c Γ t mb ra) :
    Ev c Γ (tMethS (He.ga c.K x) mt (spFL c.K (fun L => aCons (rIns c.K x fl) (ra L)) f r) [] (WE c.W) ta t) (m >>= fun o => mb >>= fun b => frame (f (o, b))) r :=
  ev_methDL id (fun L F vs b k => by rw [List.append_nil]; exact k) hnm hn h hb
theorem ev_makeDL {x : Str} {fl : α → List FV} {ra0 : Hp → Ra B} {ra : Hp → Ra A} {f : A → PM α} {mb : PM B} {dvs : List V} (cv : B → A) (hc : ∀ L F vs b, (ra0 L).rel F vs b → (ra L).rel F (vs ++ dvs) (cv b)) (hb : EaL c Γ t mb ra0) :
    Ev c Γ (tMakeS (He.ga c.K x) (spIL c.K x fl ra f) dvs (WE c.W) t) (mb >>= fun b => frame (f (cv b))) (rIns c.K x fl) := fun S σ F H p Q g q =>
  hb S σ F H p _ g (q.seqH fun b p1 vs F1 H1 e1 pl1 r1 h1 => fun y dx hy hd ne => by
    refine ⟨y, dx, _, F1, H1, _, cv b, p1, rfl, rfl, hy, hd, ne, (g.ext e1 pl1).sub, noq_same, hc _ F1 vs b r1, ?_⟩
    have h2 : Post c σ F1 H1 (rIns c.K x fl) Q ((f (cv b) p1).1, p1) := h1
    rcases e : f (cv b) p1 with ⟨er | a, p2⟩
    · rw [e] at h2
      cases er with
      | stuck => exact h2
      | exc ex => exact fun cls d F' H' e' _ k => h2 cls d F' H' e'.widen (pl1.up e') k
    · rw [e] at h2
      exact fun v F' H' e' _ k ev => ⟨rfl, by rw [← ev]; exact h2 v F' H' e'.widen (pl1.up e') k⟩)
theorem ev_mkL {x : Str} {fl : α → List FV} {ra : Hp → Ra A} {f : A → PM α} {mb : PM A} (hb : EaL c Γ t mb ra) :
    Ev c Γ (tMakeS (He.ga c.K x) (spIL c.K x fl ra f) [] (WE c.W) t) (mb >>= fun b => frame (f b)) (rIns c.K x fl) :=
  ev_makeDL id (fun L F vs b k => by rw [List.append_nil]; exact k) hb
end
section
variable {P : Program} {w : World} {K : PySem.W.Frag} {mg : Str → Option Value} {base : Heap} {A α : Type}
theorem okFN {x qual : Str} {params : Arguments} {body : List Stmt} {scope : Scope} {dvs : List V} {kws : List (Str × V)} {f : Addr} {fd : FuncData} {N ps : List Str} {k n j : Nat} {ra : Ra A} {m : A → PM α} {r : Ro α} {Γ : A → List Sl}
    (F : FunD K x qual params body scope dvs kws f fd) (S : FnScope N ps scope) (hb : Bd ra Γ n) (hn : ps.length = n) (hN : N.length = n + j)
    (hbody : ∀ (cdv : Value) (A_ : Around) (outer : List Env) (s : Shared) (H : Hp) (E : XK), Room k (A_.deeper (envOfC qual scope s.heap.objs.size f cdv)) →
      ∃ t, PSs (cxOf (L2N.CX P w) P w K mg base N qual scope f cdv A_ outer s H E) body t ∧ ∀ a, El (cfE K none 0 E) (Rr.new r) True (Γ a ++ anys j) t (m a)) : FnOk P w K mg base (L2N.CX P w) (k + 1) f fd ps (spFN K ra m r) := by
  refine FunD.ok F S (fun vs H Q E h => ?_) fun cdv A_ outer s H vs Q E hr h => ?_
  · obtain ⟨F, a, p, _, h2, _⟩ := h
    rw [(hb F H vs a 0 h2).1, hn]
  · obtain ⟨t, h1, h2⟩ := hbody cdv A_ outer s H E hr
    obtain ⟨F, a, p, s1, s2, s3⟩ := h
    obtain ⟨k1, k2, k3⟩ := hb F H vs a j s2
    refine ⟨t, h1, ?_⟩
    rw [start_eq k1 hN]
    exact h2 a (F, H) _ F H p _ (good_start rfl s1 k2 k3 trivial) (fun _ _ _ z => z) s3.toL
theorem okPN {x qual : Str} {params : Arguments} {body : List Stmt} {scope : Scope} {dvs : List V} {kws : List (Str × V)} {f : Addr} {fd : FuncData} {N ps : List Str} {k n j : Nat} {ra : Ra A} {m : A → PM α} {r : Ro α} {Γ : A → List Sl}
    (F : FunD K x qual params body scope dvs kws f fd) (S : FnScope N ps scope) (hb : Bd ra Γ n) (hn : ps.length = n + 1) (hN : N.length = n + 1 + j)
    (hbody : ∀ (cdv : Value) (A_ : Around) (outer : List Env) (s : Shared) (H : Hp) (E : XK), Room k (A_.deeper (envOfC qual scope s.heap.objs.size f cdv)) →
      ∃ t, PSs (cxOf (L2N.CX P w) P w K mg base N qual scope f cdv A_ outer s H E) body t ∧ ∀ q sc a, El (cfE K (some q) sc E) (Rr.new r) True (.val rPool q :: (Γ a ++ anys j)) t (m a)) : FnOk P w K mg base (L2N.CX P w) (k + 1) f fd ps (spPN K ra m r) := by
  refine FunD.ok F S (fun vs H Q E h => ?_) fun cdv A_ outer s H vs Q E hr h => ?_
  · obtain ⟨q, sc, ws, F, a, p, rfl, _, _, h2, _⟩ := h
    rw [List.length_cons, (hb F H ws a 0 h2).1, hn]
  · obtain ⟨t, h1, h2⟩ := hbody cdv A_ outer s H E hr
    obtain ⟨q, sc, ws, F, a, p, rfl, s1, pl, s2, s3⟩ := h
    obtain ⟨k1, k2, k3⟩ := hb F H ws a j s2
    refine ⟨t, h1, ?_⟩
    rw [start_eq (n := n + 1) (by rw [List.length_cons, k1]) hN]
    exact h2 q sc a (F, H) _ F H p _ (good_start rfl s1 (.cons ⟨_, rfl, rfl⟩ k2) k3 pl) (fun _ _ _ z => z) s3.toL
theorem okFL {x qual : Str} {params : Arguments} {body : List Stmt} {scope : Scope} {dvs : List V} {kws : List (Str × V)} {f : Addr} {fd : FuncData} {N ps : List Str} {k n j : Nat} {ra : Hp → Ra A} {m : A → PM α} {r : Rl α} {Γ : Hp → A → List Sl}
    (F : FunD K x qual params body scope dvs kws f fd) (S : FnScope N ps scope) (hb : ∀ L, Bd (ra L) (Γ L) n) (hn : ps.length = n) (hN : N.length = n + j)
    (hbody : ∀ (cdv : Value) (A_ : Around) (outer : List Env) (s : Shared) (H : Hp) (E : XK), Room k (A_.deeper (envOfC qual scope s.heap.objs.size f cdv)) →
      ∃ t, PSs (cxOf (L2N.CX P w) P w K mg base N qual scope f cdv A_ outer s H E) body t ∧ ∀ L a, El (cfE K none 0 E L) r True (Γ L a ++ anys j) t (m a)) : FnOk P w K mg base (L2N.CX P w) (k + 1) f fd ps (spFL K ra m r) := by
  refine FunD.ok F S (fun vs H Q E h => ?_) fun cdv A_ outer s H vs Q E hr h => ?_
  · obtain ⟨F, L, a, p, _, _, h2, _⟩ := h
    rw [(hb L F H vs a 0 h2).1, hn]
  · obtain ⟨t, h1, h2⟩ := hbody cdv A_ outer s H E hr
    obtain ⟨F, L, a, p, s1, sL, s2, s3⟩ := h
    obtain ⟨k1, k2, k3⟩ := hb L F H vs a j s2
    refine ⟨t, h1, ?_⟩
    rw [start_eq k1 hN]
    exact h2 L a (F, H) _ F H p _ (good_start rfl s1 k2 k3 trivial ⟨sL, fun _ z => nomatch z⟩) (fun _ _ _ z => z) s3.toL
theorem okInitL {x q0 qual : Str} {fl : α → List FV} {params : Arguments} {body : List Stmt} {scope : Scope} {dvs : List V} {kws : List (Str × V)} {f : Addr} {fd : FuncData} {N ps : List Str} {k n j : Nat} {ra : Hp → Ra A} {m : A → PM α} {Γ : Hp → A → List Sl}
    (F : FunD K q0 qual params body scope dvs kws f fd) (S : FnScope N ps scope) (hb : ∀ L, Bd (ra L) (Γ L) n) (hn : ps.length = n + 1) (hN : N.length = n + 1 + j)
    (hbody : ∀ (cdv : Value) (A_ : Around) (outer : List Env) (s : Shared) (H : Hp) (E : XK), Room k (A_.deeper (envOfC qual scope s.heap.objs.size f cdv)) →
      ∃ t, PSs (cxOf (L2N.CX P w) P w K mg base N qual scope f cdv A_ outer s H E) body t ∧ ∀ y L a, El { cfE K none 0 E L with s := ⟨0, gSelf y (n + j), L⟩ } (rSelf K x fl y) True (.own (oI (He.ga K x) []) () :: (Γ L a ++ anys j)) t (m a)) : FnOk P w K mg base (L2N.CX P w) (k + 1) f fd ps (spIL K x fl ra m) := by
  refine FunD.ok F S (fun vs H Q E h => ?_) fun cdv A_ outer s H vs Q E hr h => ?_
  · obtain ⟨y, dx, ws, F, H0, L, a, p, rfl, _, _, _, _, _, _, h2, _⟩ := h
    rw [List.length_cons, (hb L F H0 ws a 0 h2).1, hn]
  · obtain ⟨t, h1, h2⟩ := hbody cdv A_ outer s H E hr
    obtain ⟨y, dx, ws, F, H0, L, a, p, rfl, rfl, ny, nd, ne, sF, sL, s2, s3⟩ := h
    obtain ⟨k1, k2, k3⟩ := hb L F (upd (upd H0 dx (.own y)) y (.ins (He.ga K x) dx [])) ws a j s2
    refine ⟨t, h1, ?_⟩
    rw [start_eq (n := n + 1) (by rw [List.length_cons, k1]) hN]
    have Fy : F y = none := Same.none sF ny
    have Fd : F dx = none := Same.none sF nd
    have up : ∀ b o, H0 b = some o → upd (upd H0 dx (.own y)) y (.ins (He.ga K x) dx []) b = some o := fun b o z => by
      rw [upd_ne (fun e => by rw [e, ny] at z; cases z), upd_ne (fun e => by rw [e, nd] at z; cases z)]
      exact z
    have g : Good (F, H0) none ⟨0, gSelf y (n + j), L⟩ (.own (oI (He.ga K x) []) () :: (Γ L a ++ anys j)) (List.map some (V.ref y :: ws) ++ List.replicate j none) F (upd (upd H0 dx (.own y)) y (.ins (He.ga K x) dx [])) p := by
      have ow : ownA (.own (oI (He.ga K x) []) () :: (Γ L a ++ anys j)) (List.map some (V.ref y :: ws) ++ List.replicate j none) = [y] := by
        show y :: ownA (Γ L a ++ anys j) (List.map some ws ++ List.replicate j none) = [y]
        rw [k3]
      refine ⟨fun b o z => up b o (sF _ _ z), .cons ⟨y, _, rfl, upd_same, dx, [], rfl, .nil⟩ k2, by rw [ow]; simp, ?_, ?_, ?_, ⟨Same.refl _, fun b o z => up b o (sF _ _ z), fun b o z _ => up b o z, fun b o z => .inl z⟩, trivial, ?_, ⟨sL, fun _ z => (nomatch z)⟩⟩
      · rw [ow]; intro b hb; rw [List.mem_singleton.mp hb]; exact Fy
      · intro b _ z; cases z
      · rw [ow]; intro b hb; rw [List.mem_singleton.mp hb]; exact ny
      · refine ⟨.inr ?_, fun i α' r' a' e => ?_⟩
        · show (List.map some (V.ref y :: ws) ++ List.replicate j none).length = (gSelf y (n + j)).length
          simp [gSelf, k1]
        · cases i with
          | zero =>
            have e' : Sl.val (rAt y) () = .val r' a' := by
              have z : (gSelf y (n + j))[0]? = some (.val r' a') := e
              unfold gSelf at z
              exact Option.some.inj (by simpa using z)
            cases e'
            exact ⟨.ref y, rfl, rfl⟩
          | succ i =>
            have z : (gSelf y (n + j))[i + 1]? = some (.val r' a') := e
            unfold gSelf at z
            rw [List.getElem?_cons_succ, List.getElem?_replicate] at z
            split at z
            · cases z
            · cases z
    refine h2 y L a (F, H0) _ F _ p _ g (fun _ _ _ z => z) ?_
    rcases e : m a p with ⟨er | o, p'⟩
    · rw [e] at s3
      cases er with
      | stuck => exact s3
      | exc ex => exact fun cls d _ F' H' e' _ _ k => s3 cls d F' H' e' trivial k
    · rw [e] at s3
      intro v F' H' e' _ k
      rw [k.1]
      exact s3 (.ref y) F' H' e' trivial k.2 rfl
end
end Kf

set_option maxHeartbeats 4000000
/-! Kf: len, in, truth, ~ and walks of own instances -/
namespace Kf
open PySem PySem.Spec L2
open PyProof.Rows hiding St
section
variable {X : Cx} {CX : CXT} {k : Nat} {f C : Addr} {fd : FuncData} {ps : List Str} {sp : Sp} {dvs : List V} {ds : List Value} {E : St → XK} {mt : Str} {p pos : Pos} {o a b : Expr} {to ta tb : TE}
def tLenO (C : Addr) (sp : Sp) (E : St → XK) (to : TE) : TE := fun σ H Q => tCons to tNil σ H fun vs H1 => ∃ q dx fs, vs = [.ref q] ∧ H1 q = some (.ins C dx fs) ∧ sp [.ref q] H1 (fun v H2 => ∃ n : Int, v = .int n ∧ 0 ≤ n ∧ n < 2 ^ 63 ∧ Q v H2) (E σ)
theorem pe_lenO (F : FnOk X.prog X.w X.K X.mg X.base CX k f fd ps sp) (hr : Room (k + 1) X.A) (hb : Binds X.K fd ps []) (hx : ∀ σ, PassesAt CX X σ (E σ)) (hm : Meth X.K C "__len__" f) (hg : Gl X "len") (hmg : X.mg "len" = none) (hv : bootBuiltins "len" = some (.builtin "len")) (ha : PA X [o] (tCons to tNil))
    (he : starEach [o] X.env = (false, eval o X.env) :: starEach [] X.env := by rfl) (hpl : (backTo pos (starEach [] X.env)).any (·.1) = false := by rfl) :
    PE X (.Call (.Name "len" p) [o] [] pos) (tLenO C sp E to) := ⟨fun pins s σ H Q I h =>
  wpAny_Call_Name_kw (ld_blt I hg hmg hv (PyProof.Rows.callWith_builtin1 (thn (ha.run pos pins s σ H _ I h) fun us s1 ⟨vs, H1, I1, r1, q, dx, fs, ev, ea, q2⟩ => by
    subst ev
    obtain rfl := Vals.ref1 r1
    obtain ⟨ox, od, J⟩ := ins_at I1 ea
    obtain ⟨m, hF⟩ := I1.fr
    refine PySem.W.len_K hF I1.ok.mod.kin J hm.at_ hm.fn (wpAny_mono (run_fnA (us := [.ref q]) (vs := [.ref q]) (dvs := []) (ds := []) F hr.in1 rfl hb .nil (hx σ) I1 (.cons rfl .nil) q2) (fun v s' hv => ?_) fun _ _ z => z)
    obtain ⟨z, H2, I2, rz, n, rfl, n0, n1, hq⟩ := hv
    obtain ⟨t, rfl⟩ := rz
    exact ⟨⟨n0, n1⟩, .int n, H2, I2.kept (t' := s'.toks + 1) fun b o e => e, ⟨_, rfl⟩, hq⟩) he hpl))⟩
def tInO2 (C : Addr) (sp : Sp) (neg : Bool) (E : St → XK) (ta tb : TE) : TE := fun σ H Q => ta σ H fun y H1 => tb σ H1 fun x H2 => ∃ q dx fs, x = .ref q ∧ H2 q = some (.ins C dx fs) ∧ sp [.ref q, y] H2 (fun v H3 => ∃ k : Bool, v = .bl k ∧ Q (.bl (if neg = true then !k else k)) H3) (E σ)
theorem pc_inO (F : FnOk X.prog X.w X.K X.mg X.base CX k f fd ps sp) (hr : Room k X.A) (hb : Binds X.K fd ps []) (hx : ∀ σ, PassesAt CX X σ (E σ)) (hm : Meth X.K C "__contains__" f) (ha : PE X a ta) (hb2 : PE X b tb) : PC X .In a b (tInO2 C sp false E ta tb) := ⟨fun pins s σ H Q I h =>
  thn (ha.run pins s σ H _ I h) fun v s1 ⟨y, H1, I1, ry, q1⟩ => thn (hb2.run pins s1 σ H1 _ I1 q1) fun u s2 ⟨x, H2, I2, rx, q, dx, fs, ex, ea, hq⟩ => by
    subst ex
    obtain rfl : u = Value.ref q := rx
    obtain ⟨ox, od, J⟩ := ins_at I2 ea
    obtain ⟨m, hF⟩ := I2.fr
    refine PySem.W.in_K hF I2.ok.mod.kin J hm.at_ hm.fn (wpAny_mono (run_fnA (us := [.ref q, v]) (vs := [.ref q, y]) (dvs := []) (ds := []) F hr rfl hb .nil (hx σ) I2 (.cons rfl (.cons ry .nil)) hq) (fun r s' hv => ?_) fun _ _ z => z)
    obtain ⟨z, H3, I3, rz, k, rfl, hq⟩ := hv
    obtain rfl : r = Value.bool k := rz
    exact wpAny_pure ⟨.bl k, H3, I3, rfl, hq⟩⟩
theorem pc_ninO (F : FnOk X.prog X.w X.K X.mg X.base CX k f fd ps sp) (hr : Room k X.A) (hb : Binds X.K fd ps []) (hx : ∀ σ, PassesAt CX X σ (E σ)) (hm : Meth X.K C "__contains__" f) (ha : PE X a ta) (hb2 : PE X b tb) : PC X .NotIn a b (tInO2 C sp true E ta tb) := ⟨fun pins s σ H Q I h =>
  thn (ha.run pins s σ H _ I h) fun v s1 ⟨y, H1, I1, ry, q1⟩ => thn (hb2.run pins s1 σ H1 _ I1 q1) fun u s2 ⟨x, H2, I2, rx, q, dx, fs, ex, ea, hq⟩ => by
    subst ex
    obtain rfl : u = Value.ref q := rx
    obtain ⟨ox, od, J⟩ := ins_at I2 ea
    obtain ⟨m, hF⟩ := I2.fr
    refine PySem.W.notIn_K hF I2.ok.mod.kin J hm.at_ hm.fn (wpAny_mono (run_fnA (us := [.ref q, v]) (vs := [.ref q, y]) (dvs := []) (ds := []) F hr rfl hb .nil (hx σ) I2 (.cons rfl (.cons ry .nil)) hq) (fun r s' hv => ?_) fun _ _ z => z)
    obtain ⟨z, H3, I3, rz, k, rfl, hq⟩ := hv
    obtain rfl : r = Value.bool k := rz
    exact wpAny_pure ⟨.bl (!k), H3, I3, rfl, hq⟩⟩
/-- ~a -/
theorem pe_invO (F : FnOk X.prog X.w X.K X.mg X.base CX k f fd ps sp) (hr : Room k X.A) (hb : Binds X.K fd ps []) (hx : ∀ σ, PassesAt CX X σ (E σ)) (hm : Meth X.K C "__invert__" f) (ha : PE X a ta) : PE X (.UnaryOp .Invert a pos) (tUnO C sp [] E ta) := ⟨fun pins s σ H Q I h =>
  UnaryOp_ (thn (ha.run pins s σ H _ I h) fun v s1 ⟨x, H1, I1, rx, q, dx, fs, ex, ea, hq⟩ => by
    subst ex
    obtain rfl : v = Value.ref q := rx
    obtain ⟨ox, od, J⟩ := ins_at I1 ea
    obtain ⟨m, hF⟩ := I1.fr
    exact PySem.W.ksp_inv hF I1.ok.mod.kin J hm.at_ hm.fn (run_fnA (us := [.ref q]) (vs := [.ref q]) (dvs := []) (ds := []) F hr rfl hb .nil (hx σ) I1 (.cons rfl .nil) hq))⟩
/-- the truth of an instance with __bool__ -/
def tTruO (C : Addr) (sp : Sp) (E : St → XK) (ta : TE) : TT := fun σ H Q => ta σ H fun x H1 => ∃ q dx fs, x = .ref q ∧ H1 q = some (.ins C dx fs) ∧ sp [.ref q] H1 (fun v H2 => ∃ k : Bool, v = .bl k ∧ Q k H2) (E σ)
theorem pt_truO (F : FnOk X.prog X.w X.K X.mg X.base CX k f fd ps sp) (hr : Room k X.A) (hb : Binds X.K fd ps []) (hx : ∀ σ, PassesAt CX X σ (E σ)) (hm : Meth X.K C "__bool__" f) (ha : PE X a ta) (he : ∀ whole, isTrue a X.env whole = (do let v ← whole; standAt a.pos; holding [v] (truthy v))) : PT X a (tTruO C sp E ta) := ⟨fun pins s σ H Q I h =>
  isTrue_plain (thn (ha.run pins s σ H _ I h) fun v s1 ⟨x, H1, I1, rx, q, dx, fs, ex, ea, hq⟩ => by
    subst ex
    obtain rfl : v = Value.ref q := rx
    obtain ⟨ox, od, J⟩ := ins_at I1 ea
    obtain ⟨m, hF⟩ := I1.fr
    refine PySem.W.truthy_K hF I1.ok.mod.kin J hm.at_ hm.fn (wpAny_mono (run_fnA (us := [.ref q]) (vs := [.ref q]) (dvs := []) (ds := []) F hr rfl hb .nil (hx σ) I1 (.cons rfl .nil) hq) (fun r s' hv => ?_) fun _ _ z => z)
    obtain ⟨z, H3, I3, rz, k, rfl, hq⟩ := hv
    obtain rfl : r = Value.bool k := rz
    exact ⟨H3, I3, hq⟩) (he _)⟩
/-! ### walks -/
/-- the iterator of the tuple at t; it is no older than n -/
def TtO (n : Nat) (t it : Addr) : HO := .ext fun h => h.IsTupleIter it t 0 ∧ n ≤ it
theorem ttO_ok {P : Program} {w : World} {H : Hp} {h : Heap} {n : Nat} {t it : Addr} (e : h.IsTupleIter it t 0) (hn : n ≤ it) : ObjOk P w H h it (TtO n t it) := by
  obtain ⟨o, e1, e2, e3⟩ := e
  exact ⟨⟨⟨o, e1, e2, e3⟩, hn⟩, ⟨o, e1⟩, fun h1 h2 ⟨⟨o', q1, q2, q3⟩, q4⟩ k => ⟨⟨o', k _ q1, q2, q3⟩, q4⟩⟩
def rIterT (K : PySem.W.Frag) (n : Nat) : List V → Hp → VK → Prop := fun xs H Q => ∃ (t : Addr) (zs : List V), xs = [.ref t] ∧ SqT K H t zs ∧ ∀ it, H it = none → Q (.ref it) (upd H it (TtO n t it))
theorem call_iterT : CallR X (.builtin "iter") (rIterT X.K X.s_0.heap.objs.size) := by
  intro pins s σ H xs us Q I r h
  obtain ⟨l, zs, rfl, hq, q⟩ := h
  obtain rfl := Vals.ref1 r
  obtain ⟨its, rv, pl, hz⟩ := I.tuple hq
  refine Calls.call_function_entry (by decide +kernel) (by decide +kernel) PySem.W.kdk_entry_iter (PySem.W.kdk_args_iter _) ?_
  unfold Builtin.«iter»
  refine wpAny_bind (m := someArgs "iter" 1 2 _) (wpAny_of_eq (a := [Value.ref l]) (by first | rfl | kernel_rfl!) ?_)
  show wpAny _ _ (pyIter (.ref l) >>= _) _ _ _
  refine wpAny_bind (wpAny_pyIter_tuple (show s.heap.IsTuple l its.toArray from pl) ?_)
  exact wpAny_pure ⟨_, rfl, .ref s.heap.objs.size, _, I.laid (t' := s.toks) (fun b u e => Heap.get?_push_of_some _ e) (Nat.le_refl _) (ttO_ok ⟨_, Heap.get?_push_size _ rfl, rfl, rfl⟩ I.sz), rfl, q _ (I.hok.fresh (Nat.le_refl _))⟩
/-- what __iter__ promises, by the heap's size at its start: an iterator of the tuple in the field g -/
def spIter (K : PySem.W.Frag) (C : Addr) (g : Str) (n : Nat) : Sp := fun vs H Q _ => ∃ q dx fs t zs, vs = [.ref q] ∧ H q = some (.ins C dx fs) ∧ fs.lookup g = some (.ref t) ∧ SqT K H t zs ∧ ∀ it, H it = none → Q (.ref it) (upd H it (TtO n t it))
/-- a def whose promise may speak of the heap's size -/
structure FnS (P : Program) (w : World) (K : PySem.W.Frag) (mg : Str → Option Value) (base : Heap) (CX : CXT) (k : Nat) (f : Addr) (fd : FuncData) (ps : List Str) (sp : Nat → Sp) : Prop where
  len : ∀ n vs H Q E, sp n vs H Q E → vs.length = ps.length
  run : ∀ (A : Around) (out : List Env) (s : Shared) (H : Hp) (as : Args) (us : List Value) (vs : List V) (Q : VK) (E : XK), Room k A → Env0 P w K mg base A out s H → BindsTo s fd as (ps.zip us) → Vals vs us → sp s.heap.objs.size vs H Q E →
    codeAny (model P w) A (.call (.ref f) as) (CR CX out P w H s Q E) s
theorem okS {P : Program} {w : World} {K : PySem.W.Frag} {mg : Str → Option Value} {base : Heap} {CX : CXT} {x qual : Str} {params : Arguments} {body : List Stmt} {scope : Scope} {dvs : List V} {kws : List (Str × V)} {f : Addr} {fd : FuncData} {N ps : List Str} {k : Nat} {sp : Nat → Sp}
    (F : FunD K x qual params body scope dvs kws f fd) (S : FnScope N ps scope) (len : ∀ n vs H Q E, sp n vs H Q E → vs.length = ps.length)
    (hb : ∀ (cdv : Value) (A : Around) (out : List Env) (s : Shared) (H : Hp) (vs : List V) (Q : VK) (E : XK), Room k (A.deeper (envOfC qual scope s.heap.objs.size f cdv)) → sp s.heap.objs.size vs H Q E →
      ∃ t, PSs (cxOf CX P w K mg base N qual scope f cdv A out s H E) body t ∧ t { nx := fun _ H' => Q .non H', rt := Q } (L2.start N vs) H) : FnS P w K mg base CX (k + 1) f fd ps sp := by
  obtain ⟨_, _, _, _, _, _, _, cdv, _, _, rfl, look, code, _, _⟩ := F.ex
  refine ⟨len, fun A out s H as us vs Q E room env bind vals prom => ?_⟩
  have inK : K.In s.heap := env.mod.kin.keeps fun b o e => (env.bs b o e).1
  have par : ∀ y ∈ ps.zip us, scope.names.lookup y.1 = some .local ∨ (scope.names.lookup y.1 = some .cell ∧ ((cellsFrom (s.heap.objs.size + 1) scope.names []).lookup y.1).isSome = true) := fun y hy => by
    rcases S.par y.1 (List.of_mem_zip hy).1 with z | z
    · exact .inl z
    · exact .inr ⟨z, PySem.W.cellsFrom_some _ _ _ (.inl z)⟩
  refine codeAny_call_function room.depth (inK _ _ look) rfl S.co S.gen rfl (PySem.W.codeRec_of inK code) (bind _ _ _ _ (wpAny_newFunctionEnv_cells S.kind par fun env' he s2 nw => ?_))
  subst he
  refine ⟨(env.mod.nolimit.keeps fun b o e => (env.bs b o e).1).keeps nw.toInCall.keep, codeAny_func ?_⟩
  obtain ⟨t, h1, h2⟩ := hb cdv A out s H vs Q E (room.deeper _) prom
  refine wpAny_mono (h1.run [] s2 (L2.start N vs) H _ (inv_start S room.hd env (len _ _ _ _ _ prom) vals nw) h2) (fun r s3 hs => ?_) fun _ _ z => z
  match r, hs with
  | .ret u, ⟨v, _, H', J, rv, q⟩ => exact ⟨v, H', J.os, J.bare, J.base, J.hok, rv, q⟩
  | .next, ⟨_, H', J, q⟩ => exact ⟨.non, H', J.os, J.bare, J.base, J.hok, rfl, q⟩
  | .brk, ⟨_, _, _, q⟩ => exact q.elim
  | .cont, ⟨_, _, _, q⟩ => exact q.elim
theorem objok_out {P : Program} {w : World} {H : Hp} {h : Heap} {it a t : Addr} {n : Nat} {o : HO} (hn : H it = none) (x : ObjOk P w (upd H it (TtO n t it)) h a o) : ObjOk P w H h a o := by
  induction o with
  | dT kvs =>
    obtain ⟨h1, h2, xs, h3, h4⟩ := x
    refine ⟨h1, h2, xs, L2.Paired.mapP h3 fun p q z => ⟨z.1, ?_, z.2.2⟩, h4⟩
    have := z.2.1
    by_cases e : q.2.1 = it
    · rw [e, upd_same] at this; cases this
    · rw [upd_ne e] at this; exact this
  | ins C dx fs =>
    obtain ⟨h1, h2⟩ := x
    refine ⟨?_, h2⟩
    by_cases e : dx = it
    · rw [e, upd_same] at h1; cases h1
    · rw [upd_ne e] at h1; exact h1
  | frz o u ih => exact ⟨x.1, ih x.2⟩
  | lst _ => exact x
  | tup _ => exact x
  | dK _ => exact x
  | set _ _ => exact x
  | own _ => exact x
  | xd _ => exact x
  | met _ _ => exact x
  | rng _ _ => exact x
  | tbl _ => exact x
  | ext _ => exact x
def iOwn (K : PySem.W.Frag) (C : Addr) (g : Str) (ta : TE) : TI := fun σ H R => ta σ H fun x H1 => ∃ q dx fs t zs, x = .ref q ∧ H1 q = some (.ins C dx fs) ∧ fs.lookup g = some (.ref t) ∧ SqT K H1 t zs ∧ R (Itt K t) H1
theorem pi_own {tg : Expr} {g : Str} (F : FnS X.prog X.w X.K X.mg X.base (L2N.CX X.prog X.w) k f fd ps (spIter X.K C g)) (hr : Room k X.A) (hb : Binds X.K fd ps []) (hm : Meth X.K C "__iter__" f) (hx : ∀ σ, PassesAt (L2N.CX X.prog X.w) X σ (E σ))
    (ha : PE X a ta) : PI X tg a (iOwn X.K C g ta) := ⟨fun pins s σ H R I h =>
  thn (ha.run pins s σ H _ I h) fun v s1 ⟨x, H1, I1, rx, q, dx, fs, t, zs, ex, ea, el, es, hR⟩ => by
    subst ex
    obtain rfl : v = Value.ref q := rx
    obtain ⟨ox, od, J⟩ := ins_at I1 ea
    obtain ⟨m, hF⟩ := I1.fr
    have hsp : spIter X.K C g s1.heap.objs.size [.ref q] H1 (fun v H' => ∃ it, v = .ref it ∧ H1 it = none ∧ H' = upd H1 it (TtO s1.heap.objs.size t it)) (E σ) := ⟨q, dx, fs, t, zs, rfl, ea, el, es, fun it hn => ⟨it, rfl, hn, rfl⟩⟩
    have rr : Vals [V.ref q] [Value.ref q] := .cons rfl .nil
    have en : Env0 X.prog X.w X.K X.mg X.base X.A X.stack s1 H1 := I1.env0
    have hl := F.len _ _ _ _ _ hsp
    refine PySem.W.owit_iter hF I1.ok.mod.kin J hm.at_ hm.fn (wpAny_call (codeAny_mono (F.run X.A X.stack s1 H1 ⟨[.ref q], []⟩ [.ref q] [.ref q] _ (E σ) hr en (by
      have := hb s1 [.ref q] I1.kIn (by simpa using hl)
      simpa using this) rr hsp) fun res s' hres => ?_))
    match res, hres with
    | .error er, hres => exact hx σ pins _ _ er s' I1 hres
    | .ok (.ret u), hres =>
      obtain ⟨v', H', hos, hg, un, hok, ru, it, rfl, hn, rfl⟩ := hres
      obtain rfl : u = Value.ref it := ru
      have un1 : Un (frs X.stack) [] H1 H1 s1.heap s'.heap := ⟨un.keep, un.slot, fun b o _ h _ => h, un.there, fun b xs h => h, fun b o u h => h, fun b ps h => ⟨#[], by rw [h]; simp⟩⟩
      have hok1 : HOk X.prog X.w H1 s'.heap := fun b o h => objok_out hn (hok b o (by rw [upd_ne (fun z => by rw [z, hn] at h; cases h)]; exact h))
      have I2 : Inv X pins σ H1 s' := I1.call' hos un1 hok1 hg fun b z => absurd z (by simp)
      obtain ⟨hti, hge⟩ : s'.heap.IsTupleIter it t 0 ∧ s1.heap.objs.size ≤ it := (hok it _ upd_same).1
      obtain ⟨o, ho, hc, hd⟩ := id hti
      unfold PySem.W.OwitIt
      refine wpAny_specialOf (T := "tuple_iterator") ⟨o, ho, hc⟩ PySem.F.slot_tuple_iterator_next.lookup ?_
      exact ⟨it, [it], _, Itt X.K t, H1, rfl, I2, turn_tuple t it, hti, fun b hb => by
        have e : b = it := by simpa using hb
        subst e
        exact I1.fpOk hge hn, hR⟩⟩
theorem okIter {P : Program} {w : World} {K : PySem.W.Frag} {mg : Str → Option Value} {base : Heap} {CX : CXT} {x qual g : Str} {params : Arguments} {body : List Stmt} {scope : Scope} {dvs : List V} {kws : List (Str × V)} {f C : Addr} {fd : FuncData} {k : Nat}
    (F : FunD K x qual params body scope dvs kws f fd) (S : FnScope ["self"] ["self"] scope) (hC : Cls K C) (hN : NoAttr K C g)
    (hp : ∀ (cdv : Value) (A : Around) (out : List Env) (s : Shared) (H : Hp) (E : XK), Room k (A.deeper (envOfC qual scope s.heap.objs.size f cdv)) →
      PSs (cxOf CX P w K mg base ["self"] qual scope f cdv A out s H E) body (tRet (tCB (rIterT K s.heap.objs.size) (tCons (tFld K (tVar 0) g) tNil)))) : FnS P w K mg base CX (k + 1) f fd ["self"] (spIter K C g) := by
  refine okS F S (fun n vs H Q E h => ?_) fun cdv A out s H vs Q E hr h => ⟨_, hp cdv A out s H E hr, ?_⟩
  · obtain ⟨q, _, _, _, _, rfl, _⟩ := h
    rfl
  · obtain ⟨q, dx, fs, t, zs, rfl, e1, e2, e3, e4⟩ := h
    exact ⟨.ref q, rfl, q, C, dx, fs, .ref t, rfl, e1, hC, hN, e2, t, zs, rfl, e3, e4⟩
end
section
variable {c : Cf} {Γ : List Sl} {α β γ : Type} {ta tb : TE} {x : Str} {fl : α → List FV}
theorem ev_lenI {f : α × Unit → PM Int} {m : PM α} (h : Ev c Γ ta m (rIns c.K x fl)) :
    Ev c Γ (tLenO (He.ga c.K x) (spF c.K (aCons (rIns c.K x fl) aNil) f rInt) (WE c.W) ta) (m >>= fun o => frame (f (o, ())) >>= fun n => guardM (0 ≤ n ∧ n < 2 ^ 63) n) rInt := fun S σ F H p Q g q =>
  h S σ F H p _ g (q.seq fun o p1 v F1 H1 e1 pl1 r1 h1 => by
    obtain ⟨y, dx, fs, rfl, k1, k2⟩ := rIns.of r1
    refine ⟨y, dx, fs, rfl, (g.ext e1 pl1).sub _ _ k1, F1, (o, ()), p1, (g.ext e1 pl1).sub, ⟨.ref y, [], rfl, r1, rfl⟩, ?_⟩
    rw [run_bind] at h1
    have h2 : Post c σ F1 H1 rInt Q (match (frame (f (o, ()))) p1 with | (.ok a, p') => guardM (0 ≤ a ∧ a < 2 ^ 63) a p' | (.error e, p') => (.error e, p')) := by
      rcases e : frame (f (o, ())) p1 with ⟨_ | _, _⟩ <;> (rw [e] at h1; exact h1)
    clear h1
    unfold frame at h2
    rcases e : f (o, ()) p1 with ⟨er | n, p2⟩
    · rw [e] at h2
      cases er with
      | stuck => exact h2
      | exc ex => exact fun cls d F' H' e' _ k => h2 cls d F' H' e'.widen (pl1.up e') k
    · rw [e] at h2
      intro v F' H' e' _ k
      have k : v = .int n := k
      dsimp only at h2
      unfold guardM at h2
      by_cases c2 : 0 ≤ n ∧ n < 2 ^ 63
      · rw [if_pos c2] at h2
        exact ⟨n, k, c2.1, c2.2, h2 v F' H' e'.widen (pl1.up e') k⟩
      · rw [if_neg c2] at h2
        exact h2.elim)
theorem Post.boolF {σ : St} {F H : Hp} {Q : V → Hp → Prop} {m : PM Bool} {u : Bool → Bool} {p : Pool} (pl : PoolOk c.q c.s F H p) (h : Post c σ F H rBool Q ((frame m >>= fun k => pure (u k)) p)) : Post (cfE c.K none 0 (WE c.W σ)) [] F H rBool (fun v H3 => ∃ k : Bool, v = .bl k ∧ Q (.bl (u k)) H3) (m p) := by
  rw [run_bind] at h
  unfold frame at h
  rcases e : m p with ⟨er | n, p2⟩
  · rw [e] at h
    cases er with
    | stuck => exact h
    | exc ex => exact fun cls d F' H' e' _ k => h cls d F' H' e'.widen (pl.up e') k
  · rw [e] at h
    exact fun v F' H' e' _ k => ⟨n, k, h _ F' H' e'.widen (pl.up e') rfl⟩
theorem ev_inI (neg : Bool) {rb : Rl β} {f : α × β × Unit → PM Bool} {m : PM α} {mb : PM β} (hb : Ev c Γ ta mb rb) (h : Ev c Γ tb m (rIns c.K x fl)) :
    Ev c Γ (tInO2 (He.ga c.K x) (spF c.K (aCons (rIns c.K x fl) (aCons rb aNil)) f rBool) neg (WE c.W) ta tb) (mb >>= fun b => m >>= fun o => frame (f (o, b, ())) >>= fun k => pure (if neg = true then !k else k)) rBool := fun S σ F H p Q g q =>
  hb S σ F H p _ g (q.seq fun b p1 w F1 H1 e1 pl1 r1 h1 => h S σ F1 H1 p1 _ (g.ext e1 pl1) (h1.seq fun o p2 v F2 H2 e2 pl2 r2 h2 => by
    obtain ⟨y, dx, fs, rfl, k1, k2⟩ := rIns.of r2
    have sb := ((g.ext e1 pl1).ext e2 pl2).sub
    exact ⟨y, dx, fs, rfl, sb _ _ k1, F2, (o, b, ()), p2, sb, ⟨.ref y, [w], rfl, r2, ⟨w, [], rfl, rb.mono e2.sub r1, rfl⟩⟩, Post.boolF pl2 h2⟩))
theorem ev_invI {f : α × Unit → PM γ} {r : Rl γ} {m : PM α} (h : Ev c Γ ta m (rIns c.K x fl)) :
    Ev c Γ (tUnO (He.ga c.K x) (spF c.K (aCons (rIns c.K x fl) aNil) f r) [] (WE c.W) ta) (m >>= fun o => frame (f (o, ()))) r := fun S σ F H p Q g q =>
  h S σ F H p _ g (q.seq fun o p1 v F1 H1 e1 pl1 r1 h1 => by
    obtain ⟨y, dx, fs, rfl, k1, k2⟩ := rIns.of r1
    exact ⟨y, dx, fs, rfl, (g.ext e1 pl1).sub _ _ k1, F1, (o, ()), p1, (g.ext e1 pl1).sub, ⟨.ref y, [], rfl, r1, rfl⟩, Post.frameL (L := fun _ => none) pl1 h1⟩)
theorem et_insI {f : α × Unit → PM Bool} {m : PM α} (h : Ev c Γ ta m (rIns c.K x fl)) :
    Et c Γ (tTruO (He.ga c.K x) (spF c.K (aCons (rIns c.K x fl) aNil) f rBool) (WE c.W) ta) (m >>= fun o => frame (f (o, ()))) := fun S σ F H p Q g q =>
  h S σ F H p _ g (q.seq fun o p1 v F1 H1 e1 pl1 r1 h1 => by
    obtain ⟨y, dx, fs, rfl, k1, k2⟩ := rIns.of r1
    refine ⟨y, dx, fs, rfl, (g.ext e1 pl1).sub _ _ k1, F1, (o, ()), p1, (g.ext e1 pl1).sub, ⟨.ref y, [], rfl, r1, rfl⟩, ?_⟩
    have := Post.boolF (u := fun k => k) (Q := fun v H' => ∀ b, v = .bl b → Q b H') pl1 (by rw [bind_pure]; exact h1)
    rcases e : f (o, ()) p1 with ⟨er | n, p2⟩
    · rw [e] at this; cases er <;> exact this
    · rw [e] at this
      intro v F' H' e' pl k
      obtain ⟨k2, e2, e3⟩ := this v F' H' e' pl k
      exact ⟨k2, e2, e3 k2 rfl⟩)
theorem ei_own (j : Nat) {g : Str} {nm : List Str} {r : Rl β} {l : α → List β} {m : PM α} (hnm : ∀ o, (fl o).map FV.n = nm) (hj : nm.idxOf g = j) (hl : ∀ o, (fl o)[j]? = some ⟨g, rTup c.K r, l o⟩) (h : Ev c Γ ta m (rIns c.K x fl)) :
    Ei c Γ (iOwn c.K (He.ga c.K x) g ta) (m >>= fun o => pure (l o)) r := fun S σ F H p R gd q =>
  h S σ F H p _ gd (q.seq fun o p1 v F1 H1 e1 pl1 r1 h1 => by
    obtain ⟨y, dx, fs, rfl, k1, k2⟩ := rIns.of r1
    obtain ⟨u, l1, l2⟩ := fv_lookup (f := g) k2 (hl o) (by rw [hnm]; exact hj)
    obtain ⟨t, vs, rfl, q1, q2, q3⟩ := l2
    have sb := (gd.ext e1 pl1).sub
    refine ⟨y, dx, fs, t, vs, rfl, sb _ _ k1, l1, SqT.same sb q1, h1 (Itt c.K t) F1 H1 (fun H => SqT c.K H t vs) (YAt vs) e1 pl1 (by rw [← q3.length]; exact walk_tup) (fun H2 s _ => SqT.same s q1) fun i y F2 H2 H3 hi s2 s3 hy => ?_⟩
    obtain ⟨rfl, hy⟩ := hy
    refine ⟨F2, Ext.refl s3, fun a ha => ?_⟩
    obtain ⟨w, hw, rw_⟩ := q3.get ha
    rw [hy] at hw
    obtain rfl := Option.some.inj hw
    exact r.mono s2 rw_)
end
end Kf

set_option maxHeartbeats 4000000
/-! Kf: loops that break; more of dicts -/
namespace Kf
open PySem PySem.Spec L2
open PyProof.Rows hiding St
/-- a loop whose body may break -/
def forB {α β : Type} (f : α → β → PM (Fl β β)) : List α → β → PM β
  | [], b => pure b
  | x :: l, b => f x b >>= fun r => match r with
    | .nx b' => forB f l b'
    | .rt b' => pure b'
def PostB {β : Type} (c : Cf) (S : Hp × Hp) (Γ' : β → List Sl) (D : Ends) : Except Er (Fl β β) × Pool → Prop
  | (.ok (.nx b), p') => ∀ σ' F' H', Good S c.q c.s (Γ' b) σ' F' H' p' → D.nx σ' H'
  | (.ok (.rt b), p') => ∀ σ' F' H', Good S c.q c.s (Γ' b) σ' F' H' p' → D.bk σ' H'
  | (.error (.exc e), p') => ∀ cls d σ' F' H', Ext c.q S.1 S.2 F' H' → PoolOk c.q c.s F' H' p' → SlsG F' c.s.G σ' → ExR c.K F' e cls d → c.W cls d σ' H'
  | (.error .stuck, _) => False
def Eb {β : Type} (c : Cf) (Γ : List Sl) (t : TS) (m : PM (Fl β β)) (Γ' : β → List Sl) : Prop :=
  ∀ (S : Hp × Hp) (σ : St) (F H : Hp) (p : Pool) (D : Ends), Good S c.q c.s Γ σ F H p → PostB c S Γ' D (m p) → t D σ H
section
variable {c : Cf} {Γ : List Sl} {ta tb : TE} {α β γ : Type}
theorem eb_of {t : TS} {m : PM β} {Γ' : β → List Sl} (h : Es c Γ t m Γ') : Eb c Γ t (m >>= fun b => pure (.nx b)) Γ' := fun S σ F H p D g q => h S σ F H p D g (by
  rw [run_bind] at q
  rcases e : m p with ⟨er | a, p1⟩
  · rw [e] at q; cases er <;> exact q
  · rw [e] at q; exact q)
theorem eb_brk {b : β} {Γ' : β → List Sl} (w : Wk Γ (Γ' b)) : Eb c Γ tBreak (pure (.rt b)) Γ' := fun S σ F H p D g q => q σ F H (w.good g)
theorem eb_guard {tt : TT} {u : TS} {mt : PM Bool} {b : β} {m2 : PM (Fl β β)} {Γ' : β → List Sl} (ht : Et c Γ tt mt) (w : Wk Γ (Γ' b)) (h2 : Eb c Γ u m2 Γ') :
    Eb c Γ (tSeq (tIfS tt tBreak tNext) u) (mt >>= fun k => if k = true then pure (.rt b) else m2) Γ' := fun S σ F H p D g q => ht S σ F H p _ g (by
  rw [run_bind] at q
  rcases e : mt p with ⟨er | k, p1⟩
  · rw [e] at q
    cases er with
    | stuck => exact q
    | exc ex => exact fun cls d F' H' e' pl k => q cls d σ F' H' (g.ent.tr e' g.pl) pl (g.gx.mono e'.sub) k
  · rw [e] at q
    intro v F' H' e' pl k1 k2 ek
    have : k = k2 := by rw [show v = .bl k from k1] at ek; injection ek
    subst this
    have g' := g.ext e' pl
    cases k with
    | true => exact q σ F' H' (w.good g')
    | false => exact h2 S σ F' H' p1 _ g' q)
theorem es_forB {w : TI} {g : TG} {tb : TS} {r : Rl α} {mi : PM (List α)} {f : α → β → PM (Fl β β)} {b0 : β} {Γ : β → List Sl} {Γt : β → α → List Sl} {ws : List Nat} (hi : Ei c (Γ b0) w mi r) (hg : ∀ b, Eg c (Γ b) g r (Γt b) ws) (hb : ∀ x b, Eb c (Γt b x) tb (f x b) Γ) :
    Es c (Γ b0) (tFor w g tb) (mi >>= fun l => forB f l b0) Γ := fun S σ F H p D gd q =>
  hi S σ F H p _ gd (by
    rw [run_bind] at q
    rcases e : mi p with ⟨er | l, p1⟩
    · rw [e] at q
      cases er with
      | stuck => exact q
      | exc ex => exact fun cls d F' H' e' pl k => q cls d σ F' H' (gd.ent.tr e' gd.pl) pl (gd.gx.mono e'.sub) k
    · rw [e] at q
      intro J F1 H1 G Y e1 pl1 wk hG hY
      have g1 := gd.ext e1 pl1
      refine for_it wk (D := D) (fun i σ H => ∃ b F2 p2, Good (F1, S.2) c.q c.s (Γ b) σ F2 H p2 ∧ PostS c (F1, S.2) Γ D (forB f (l.drop i) b p2)) ⟨b0, F1, p1, g1.rebase, q.rebase g1.ent⟩ (fun i σ H _ ⟨b, F2, p2, g2, _⟩ => hG H (g2.ent.sub.trans g2.sub) g2.lh) ?_ ?_
      · rintro i x σ2 H2 H3 hlt ⟨b, F2, p2, g2, q2⟩ hy
        obtain ⟨F3, e3, hr⟩ := hY i x F2 H2 H3 hlt g2.ent.sub g2.sub hy
        have ha : l[i]? = some l[i] := List.getElem?_eq_getElem hlt
        have g3 := g2.ext e3.widen (g2.pl.up e3)
        refine hg b l[i] x _ σ2 F3 H3 p2 _ g3 (hr _ ha) fun σ4 g4 _ => hb _ b _ σ4 F3 H3 p2 _ g4 ?_
        rw [drop_cons ha] at q2
        have q3 : PostS c (F1, S.2) Γ D ((f l[i] b >>= fun r => match r with
          | .nx b' => forB f (l.drop (i + 1)) b'
          | .rt b' => pure b') p2) := q2
        rw [run_bind] at q3
        rcases e4 : f l[i] b p2 with ⟨er | r4, p5⟩
        · rw [e4] at q3; cases er <;> exact q3
        · rw [e4] at q3
          cases r4 with
          | nx b' => exact fun σ5 F5 H5 g5 => ⟨b', F5, p5, g5, q3⟩
          | rt b' => exact fun σ5 F5 H5 g5 => q3 σ5 F5 H5 g5
      · rintro σ2 H2 ⟨b, F2, p2, g2, q2⟩
        rw [List.drop_length] at q2
        exact q2 σ2 F2 H2 g2)
/-! ### dicts -/
theorem en_disp1 {tk tv : TE} {r : Rl α} {mk : PM Str} {mv : PM α} (hk : Ev c Γ tk mk rStr) (hv : Ev c Γ tv mv r) : En c Γ (tDisp [(tk, tv)]) (mk >>= fun k => mv >>= fun v => pure [(k, v)]) (oDictN r) := fun S σ F H p Q g q d hd => by
  have e0 := Ext.loose (q := c.q) (o := .dK []) g.sub hd
  have pl0 := g.pl.up (Ext.loose (q := none) (o := .dK []) g.sub hd)
  have g0 := g.ext e0 pl0
  have qd : c.q ≠ some d := fun z => g.pl.there d z hd
  have nF : F d = none := Same.none g.sub hd
  refine hk S σ F _ p _ g0 ?_
  rw [run_bind] at q
  rcases ek : mk p with ⟨er | k, p1⟩
  · rw [ek] at q
    cases er with
    | stuck => exact q
    | exc ex => exact fun cls x F' H' e' pl z => q cls x F' H' (e0.tr e' pl0) pl z
  · rw [ek] at q
    intro x F1 H1 e1 pl1 r1
    have g1 := g0.ext e1 pl1
    have q : PostN c σ F H (oDictN r) Q ((mv >>= fun v => pure [(k, v)]) p1) := q
    rw [run_bind] at q
    refine hv S σ F1 H1 p1 _ g1 ?_
    rcases ev : mv p1 with ⟨er | v, p2⟩
    · rw [ev] at q
      cases er with
      | stuck => exact q
      | exc ex => exact fun cls x F' H' e' pl z => q cls x F' H' ((e0.tr e1 pl0).tr e' pl1) pl z
    · rw [ev] at q
      intro y F2 H2 e2 pl2 r2
      have e02 := (e1.tr e2 pl1)
      have hD : H2 d = some (.dK []) := e02.keep d _ upd_same qd
      have nF2 : F2 d = none := by
        cases z : F2 d with
        | none => rfl
        | some o =>
          rcases e02.new d o z with h1 | h1
          · rw [nF] at h1; cases h1
          · rw [upd_same] at h1; cases h1
      refine ⟨hD, [(Sum.inr k, y)], by rw [show x = .str k from r1.1]; rfl, by simp, ?_⟩
      have eF : Ext c.q F H F2 (upd H2 d (.dK (mergeK [] [(Sum.inr k, y)]))) := by
        refine ⟨e02.sub, fun b o z => ?_, fun b o z n => ?_, fun b o z => ?_⟩
        · rw [upd_ne (fun w => by rw [w, nF2] at z; cases z)]
          exact e02.sub' b o z
        · have hb : b ≠ d := fun w => by rw [w, hd] at z; cases z
          rw [upd_ne hb]
          exact e02.keep b o (by rw [upd_ne hb]; exact z) n
        · rcases e02.new b o z with h1 | h1
          · exact .inl h1
          · by_cases w : b = d
            · rw [w, upd_same] at h1; cases h1
            · rw [upd_ne w] at h1; exact .inr h1
      refine q d _ F2 _ eF ?_ hd nF2 upd_same qd ⟨⟨[(Sum.inr k, y)], rfl, (show 1 ≤ sizeLine by decide), .cons ⟨rfl, r1.2, r2⟩ .nil⟩, by simp [NodK]⟩
      cases cq : c.q with
      | none => trivial
      | some a =>
        rw [cq] at pl2 qd
        obtain ⟨z1, z2, z3⟩ := pl2
        exact ⟨z1, by rw [upd_ne (fun w => qd (by rw [w]))]; exact z2, z3⟩
theorem keys_rel {F : Hp} {r : Rl α} {kvs : List (Key × V)} {l : List (Str × α)} (h : All2 (dkR F r) kvs l) : All2 (rStr.rel F) (kvs.map fun kv => kV kv.1) (l.map Prod.fst) := by
  induction h with
  | nil => exact .nil
  | @cons kv x kvs l a _ ih =>
    refine .cons ?_ ih
    show rStr.rel F (kV kv.1) x.1
    rw [show kv.1 = Sum.inr x.1 from a.1]
    exact ⟨rfl, a.2.1⟩
/-- list(d) of an own dict -/
theorem en_listDO (i : Nat) {r : Rl α} {l : List (Str × α)} (hi : nth Γ i = .own (oDictN r) l) : En c Γ (tCB rListD (tCons (tVar i) tNil)) (pure (l.map Prod.fst)) (oList rStr) := fun S σ F H p Q g q => by
  obtain ⟨x, ho, h1, h2, ⟨⟨kvs, rfl, k2, k3⟩, k4⟩, hm⟩ := g.sl.own hi
  exact ⟨_, h1, x, kvs, rfl, h2, fun z hz => q.now g.sub g.pl hz ⟨_, rfl, by rw [List.length_map]; exact k2, keys_rel k3⟩⟩
/-- d.get(k) -/
theorem ev_dget1 {r : Rl α} {ma : PM (List (Str × α))} {mb : PM Str} (ha : Ev c Γ ta ma (rDic r)) (hb : Ev c Γ tb mb rStr) : Ev c Γ (tDGet1 ta tb) (ma >>= fun l => mb >>= fun k => pure (l.lookup k)) (rOpt r) := fun S σ F H p Q g q =>
  ha S σ F H p _ g (q.seq fun l p1 v F1 H1 e1 pl1 r1 h1 => by
    obtain ⟨a, ho, rfl, k1, ⟨kvs, rfl, _, k3⟩, _⟩ := id r1
    refine ⟨a, rfl, .inl ⟨kvs, .inl ((g.ext e1 pl1).sub _ _ k1)⟩, hb S σ F1 H1 p1 _ (g.ext e1 pl1) (h1.seq fun k p2 w F2 H2 e2 pl2 r2 h2 => ?_)⟩
    have hl := dk_lookup (k3.imp fun _ _ z => ⟨z.1, z.2.1, r.mono e2.sub z.2.2⟩) k
    refine ⟨valV kvs (Sum.inr k), ?_, ?_⟩
    · rw [r2.1]
      exact DGet.k (k := Sum.inr k) (((g.ext e1 pl1).ext e2 pl2).sub _ _ (e2.sub _ _ k1))
    · have gs := ((g.ext e1 pl1).ext e2 pl2).sub
      cases e : l.lookup k with
      | none =>
        rw [e] at h2 hl
        rw [hl]
        exact h2.now gs pl2 rfl
      | some x =>
        rw [e] at h2 hl
        obtain ⟨u, hu, ru⟩ := hl
        rw [hu]
        exact h2.now gs pl2 ru)
theorem ev_dnin {r : Rl α} {ma : PM (List (Str × α))} {mb : PM Str} (hb : Ev c Γ tb mb rStr) (ha : Ev c Γ ta ma (rDic r)) : Ev c Γ (tDNotIn tb ta) (mb >>= fun k => ma >>= fun l => pure (!(l.lookup k).isSome)) rBool := fun S σ F H p Q g q =>
  hb S σ F H p _ g (q.seq fun k p1 w F1 H1 e1 pl1 r1 h1 => ha S σ F1 H1 p1 _ (g.ext e1 pl1) (h1.seq fun l p2 v F2 H2 e2 pl2 r2 h2 => by
    obtain ⟨a, ho, rfl, k1, ⟨kvs, rfl, _, k3⟩, _⟩ := r2
    have hl := dk_lookup k3 k
    rw [r1.1]
    refine ⟨a, _, rfl, DGet.k (k := Sum.inr k) (((g.ext e1 pl1).ext e2 pl2).sub _ _ k1), ?_⟩
    have : (valV kvs (Sum.inr k : Key)).isSome = (l.lookup k).isSome := by
      cases e : l.lookup k with
      | none => rw [e] at hl; rw [hl]; rfl
      | some x =>
        rw [e] at hl
        obtain ⟨u, hu, _⟩ := hl
        rw [hu]; rfl
    rw [this]
    exact h2.now ((g.ext e1 pl1).ext e2 pl2).sub pl2 rfl))
theorem call_list_dKc {X : Cx} (hc : X.calm = true := by rfl) : CallR X (.type "list") rListD := call_list_dK hc
end
end Kf

namespace Kf
open PySem PySem.Spec L2
open PyProof.Rows hiding St
/-- a comprehension stored in a cell is stored behind it -/
theorem sw_cell {elt : Expr} {gs : List Comprehension} {scope : Scope} {pos py : Pos} {y : Str} {l : Nat} {env : Env} (hy : env.scope.names.lookup y = some .cell) : swapsWith (.ListComp elt gs scope pos) (some (.Name y py)) l env = pure false := by
  have ky : env.kindOf y = some .cell := hy
  unfold swapsWith
  simp only [ky]
  have : ((some NameKind.cell : Option NameKind) == some .local) = false := rfl
  rw [this, Bool.and_false, Bool.false_and, Bool.false_and]
section
variable {c : Cf} {Γ : List Sl} {α β ρ : Type} {rr : Rr ρ}
/-- es_weak, ef_weak with the way last -/
theorem es_wk {t : TS} {m : PM α} {Γ1 : α → List Sl} {Γ' : β → List Sl} {f : α → β} (h : Es c Γ t m Γ1) (w : ∀ a, Wk (Γ1 a) (Γ' (f a))) : Es c Γ t (m >>= fun a => pure (f a)) Γ' := es_weak f h w
theorem ef_wk {t : TS} {m : PM (Fl α ρ)} {Γ1 : α → List Sl} {Γ' : β → List Sl} {f : α → β} (h : Ef c rr Γ t m Γ1) (w : ∀ a, Wk (Γ1 a) (Γ' (f a))) : Ef c rr Γ t (m >>= andThen fun a => pure (.nx (f a))) Γ' := ef_weak f h w
/-! rules whose place is not told ahead: what is wanted comes from above -/
variable {ta tb : TE}
theorem esSet {i : Nat} {r : Rl α} {m : PM α} (h : Ev c Γ ta m r) (hG : fre c.s.G i = true := by rfl) : Es c Γ (tAsg ta (gName i)) m fun a => put Γ i (.val r a) := es_set i h hG
theorem esNew {i : Nat} {r : Ro α} {m : PM α} (h : En c Γ ta m r) (hG : fre c.s.G i = true := by rfl) : Es c Γ (tAsg ta (gName i)) m fun a => put Γ i (.own r a) := es_new i h hG
theorem esFz {i : Nat} {r : Ro α} {a : α} {t : TS} {m : PM β} {Γ' : β → List Sl} (e : nth Γ i = .own r a) (h : Es c (put Γ i (.val (fz r) a)) t m Γ') : Es c Γ t m Γ' := es_fz i e h
theorem efFz {i : Nat} {r : Ro α} {a : α} {t : TS} {m : PM (Fl β ρ)} {Γ' : β → List Sl} (e : nth Γ i = .own r a) (h : Ef c rr (put Γ i (.val (fz r) a)) t m Γ') : Ef c rr Γ t m Γ' := ef_fz i e h
theorem elFz {i : Nat} {r : Ro α} {a : α} {t : TS} {m : PM ρ} {fall : Prop} (e : nth Γ i = .own r a) (h : El c rr fall (put Γ i (.val (fz r) a)) t m) : El c rr fall Γ t m := el_fz i e h
theorem esWhile {tt : TT} {tb : TS} {mt : β → PM Bool} {f : β → PM β} {b0 : β} {Γ : β → List Sl} {n : Nat} (ht : ∀ b, Et c (Γ b) tt (mt b)) (hb : ∀ b, Es c (Γ b) tb (f b) Γ) : Es c (Γ b0) (tWhile tt tb) (whileA mt f n b0) Γ := es_while n ht hb
/-! the slots told, the rest from what is wanted -/
theorem atEs (c : Cf) (Γ : List Sl) {t : TS} {m : PM β} {Γ' : β → List Sl} (h : Es c Γ t m Γ') : Es c Γ t m Γ' := h
theorem atEb (c : Cf) (Γ : List Sl) {t : TS} {m : PM (Fl β β)} {Γ' : β → List Sl} (h : Eb c Γ t m Γ') : Eb c Γ t m Γ' := h
theorem atEf (c : Cf) (Γ : List Sl) {t : TS} {m : PM (Fl β ρ)} {Γ' : β → List Sl} (h : Ef c rr Γ t m Γ') : Ef c rr Γ t m Γ' := h
theorem atEl (c : Cf) (Γ : List Sl) {fall : Prop} {t : TS} {m : PM ρ} (h : El c rr fall Γ t m) : El c rr fall Γ t m := h
theorem atEt (c : Cf) (Γ : List Sl) {t : TT} {m : PM Bool} (h : Et c Γ t m) : Et c Γ t m := h
theorem atEv (c : Cf) (Γ : List Sl) {t : TE} {m : PM α} {r : Rl α} (h : Ev c Γ t m r) : Ev c Γ t m r := h
theorem atEi (c : Cf) (Γ : List Sl) {t : TI} {m : PM (List α)} {r : Rl α} (h : Ei c Γ t m r) : Ei c Γ t m r := h
end
end Kf

set_option maxHeartbeats 4000000
/-! Kf: comparisons and membership of values of one kind, of any depth -/
namespace Kf
open PySem PySem.Spec L2
open PyProof.Rows hiding St
/-- one kind of data: how deep, and that equal is the same -/
structure De {α : Type} [DecidableEq α] (enc : α → PyData) (n : Nat) : Prop where
  dep : ∀ a, (enc a).depth ≤ n
  eq : ∀ a b, PyData.eqv (enc a) (enc b) = decide (a = b)
theorem deInt : De PyData.int 0 := ⟨fun _ => by simp [PyData.depth], fun a b => by unfold PyData.eqv; rw [Bool.eq_iff_iff]; simp⟩
theorem deBool : De PyData.bool 0 := ⟨fun _ => by simp [PyData.depth], fun a b => by unfold PyData.eqv; rw [Bool.eq_iff_iff]; simp⟩
theorem deStr : De PyData.str 0 := ⟨fun _ => by simp [PyData.depth], fun a b => by unfold PyData.eqv; rw [Bool.eq_iff_iff]; simp⟩
section
variable {α β γ : Type} [DecidableEq α] [DecidableEq β] [DecidableEq γ] {enc : α → PyData} {e2 : β → PyData} {e3 : γ → PyData} {n m k : Nat}
theorem De.depAll (h : De enc n) : ∀ l : List α, PyData.depthAll (l.map enc) ≤ n
  | [] => by simp [PyData.depthAll]
  | a :: l => by
    have := h.dep a
    have := De.depAll h l
    simp only [List.map_cons, PyData.depthAll]
    omega
theorem De.eqAll (h : De enc n) : ∀ l t : List α, PyData.eqvAll (l.map enc) (t.map enc) = decide (l = t)
  | [], [] => by simp [PyData.eqvAll]
  | [], _ :: _ => by simp [PyData.eqvAll]
  | _ :: _, [] => by simp [PyData.eqvAll]
  | a :: l, b :: t => by
    simp only [List.map_cons, PyData.eqvAll]
    rw [h.eq a b, De.eqAll h l t, Bool.eq_iff_iff]
    simp
theorem deList (h : De enc n) : De (fun l : List α => PyData.list (l.map enc)) (n + 1) := ⟨fun l => by
  have := h.depAll l
  simp only [PyData.depth]
  omega, fun a b => by simp only [PyData.eqv]; exact h.eqAll a b⟩
theorem deTup (h : De enc n) : De (fun l : List α => PyData.tuple (l.map enc)) (n + 1) := ⟨fun l => by
  have := h.depAll l
  simp only [PyData.depth]
  omega, fun a b => by simp only [PyData.eqv]; exact h.eqAll a b⟩
theorem dePair (h : De enc n) (h2 : De e2 m) : De (fun x : α × β => PyData.tuple [enc x.1, e2 x.2]) (n + m + 1) := ⟨fun x => by
  have := h.dep x.1
  have := h2.dep x.2
  simp only [PyData.depth, PyData.depthAll]
  omega, fun a b => by
  simp only [PyData.eqv, PyData.eqvAll, h.eq, h2.eq]
  rw [Bool.eq_iff_iff]
  obtain ⟨a1, a2⟩ := a
  obtain ⟨b1, b2⟩ := b
  simp⟩
theorem deTrip (h : De enc n) (h2 : De e2 m) (h3 : De e3 k) : De (fun x : α × β × γ => PyData.tuple [enc x.1, e2 x.2.1, e3 x.2.2]) (n + m + k + 1) := ⟨fun x => by
  have := h.dep x.1
  have := h2.dep x.2.1
  have := h3.dep x.2.2
  simp only [PyData.depth, PyData.depthAll]
  omega, fun a b => by
  simp only [PyData.eqv, PyData.eqvAll, h.eq, h2.eq, h3.eq]
  rw [Bool.eq_iff_iff]
  obtain ⟨a1, a2, a3⟩ := a
  obtain ⟨b1, b2, b3⟩ := b
  simp⟩
/-- never None -/
def NoN (enc : α → PyData) : Prop := ∀ a, PyData.eqv .none (enc a) = false ∧ PyData.eqv (enc a) .none = false
theorem ndInt : NoN PyData.int := fun _ => ⟨by simp [PyData.eqv], by simp [PyData.eqv]⟩
theorem ndBool : NoN PyData.bool := fun _ => ⟨by simp [PyData.eqv], by simp [PyData.eqv]⟩
theorem ndStr : NoN PyData.str := fun _ => ⟨by simp [PyData.eqv], by simp [PyData.eqv]⟩
theorem ndL {f : α → List PyData} : NoN (fun a => PyData.list (f a)) := fun _ => ⟨by simp [PyData.eqv], by simp [PyData.eqv]⟩
theorem ndT {f : α → List PyData} : NoN (fun a => PyData.tuple (f a)) := fun _ => ⟨by simp [PyData.eqv], by simp [PyData.eqv]⟩
theorem deOpt (h : De enc n) (nn : NoN enc) : De (encO enc) n := ⟨fun o => by
  cases o with
  | none => exact Nat.zero_le _
  | some a => exact h.dep a, fun a b => by
  cases a with
  | none =>
    cases b with
    | none =>
      show PyData.eqv .none .none = _
      unfold PyData.eqv
      rfl
    | some b => rw [show PyData.eqv (encO enc none) (encO enc (some b)) = PyData.eqv .none (enc b) from rfl, (nn b).1]; rfl
  | some a =>
    cases b with
    | none => rw [show PyData.eqv (encO enc (some a)) (encO enc none) = PyData.eqv (enc a) .none from rfl, (nn a).2]; rfl
    | some b => rw [show PyData.eqv (encO enc (some a)) (encO enc (some b)) = PyData.eqv (enc a) (enc b) from rfl, h.eq, Bool.eq_iff_iff, decide_eq_true_iff, decide_eq_true_iff, Option.some.injEq]⟩
end
section
variable {c : Cf} {Γ : List Sl} {α β : Type} [DecidableEq α] {ta tb : TE} {r : Rl α} {enc : α → PyData} {n : Nat}
theorem shp {d : PyData} (h : d.canLay0 = true) (k : d.depth ≤ 64) : SeqAt.shaped d = true := by
  unfold SeqAt.shaped
  rw [h, decide_eq_true k]
  rfl
theorem any_mem (e : De enc n) (a : α) : ∀ l : List α, ((l.map enc).any fun z => PyData.eqv z (enc a)) = decide (a ∈ l)
  | [] => by simp
  | b :: l => by
    rw [List.map_cons, List.any_cons, any_mem e a l, e.eq, Bool.eq_iff_iff, Bool.or_eq_true, decide_eq_true_iff, decide_eq_true_iff, decide_eq_true_iff, List.mem_cons]
    exact or_congr ⟨Eq.symm, Eq.symm⟩ Iff.rfl
/-- == of two of one kind; x in l -/
def eqG (enc : α → PyData) (a b : α) : PM Bool := guardM ((enc a).canLay0 = true ∧ (enc b).canLay0 = true) (decide (a = b))
def inG (enc : α → PyData) (a : α) (l : List α) : PM Bool := guardM ((enc a).canLay0 = true ∧ PyData.canLayAll0 (l.map enc) = true) (decide (a ∈ l))
theorem ev_eqT (da : Dat c.K r enc) (e : De enc n) (hn : n ≤ 63) {ma mb : PM α} (ha : Ev c Γ ta ma r) (hb : Ev c Γ tb mb r) : Ev c Γ (tOp (rEqD c.K) ta tb) (ma >>= fun a => mb >>= fun b => eqG enc a b) rBool :=
  ev_op ha hb fun a b S σ F H p x y Q gd hx hy q => by
    unfold eqG guardM at q
    by_cases h : (enc a).canLay0 = true ∧ (enc b).canLay0 = true
    · rw [if_pos h] at q
      refine ⟨enc a, enc b, Dq.toDp gd.sub (da.dp hx), Dq.toDp gd.sub (da.dp hy), shp h.1 (by have := e.dep a; omega), shp h.2 (by have := e.dep b; omega), ?_⟩
      rw [e.eq]
      exact q.now gd.sub gd.pl rfl
    · rw [if_neg h] at q
      exact q.elim
theorem ev_neT (da : Dat c.K r enc) (e : De enc n) (hn : n ≤ 63) {ma mb : PM α} (ha : Ev c Γ ta ma r) (hb : Ev c Γ tb mb r) : Ev c Γ (tOp (rNeD c.K) ta tb) (ma >>= fun a => mb >>= fun b => eqG enc a b >>= fun k => pure (!k)) rBool :=
  ev_op ha hb fun a b S σ F H p x y Q gd hx hy q => by
    unfold eqG guardM at q
    by_cases h : (enc a).canLay0 = true ∧ (enc b).canLay0 = true
    · rw [if_pos h] at q
      refine ⟨enc a, enc b, Dq.toDp gd.sub (da.dp hx), Dq.toDp gd.sub (da.dp hy), shp h.1 (by have := e.dep a; omega), shp h.2 (by have := e.dep b; omega), ?_⟩
      rw [e.eq]
      have q : Post c σ F H rBool Q ((pure (!decide (a = b)) : PM Bool) p) := q
      exact q.now gd.sub gd.pl rfl
    · rw [if_neg h] at q
      exact q.elim
theorem laysL {l : List α} (h : PyData.canLayAll0 (l.map enc) = true) : (PyData.list (l.map enc)).canLay0 = true := by unfold PyData.canLay0; exact h
theorem laysT {l : List α} (h : PyData.canLayAll0 (l.map enc) = true) : (PyData.tuple (l.map enc)).canLay0 = true := by unfold PyData.canLay0; exact h
theorem ev_inLD (da : Dat c.K r enc) (e : De enc n) (hn : n ≤ 62) {ma : PM α} {mb : PM (List α)} (ha : Ev c Γ ta ma r) (hb : Ev c Γ tb mb (rList r)) : Ev c Γ (tOp (rInD c.K) ta tb) (ma >>= fun a => mb >>= fun l => inG enc a l) rBool :=
  ev_op ha hb fun a l S σ F H p x y Q gd hx hy q => by
    unfold inG guardM at q
    by_cases h : (enc a).canLay0 = true ∧ PyData.canLayAll0 (l.map enc) = true
    · rw [if_pos h] at q
      refine ⟨enc a, l.map enc, Dq.toDp gd.sub (da.dp hx), Dq.toDp gd.sub ((datList da).dp hy), shp h.1 (by have := e.dep a; omega), shp (laysL h.2) (by have := (deList e).dep l; omega), ?_⟩
      rw [any_mem e]
      exact q.now gd.sub gd.pl rfl
    · rw [if_neg h] at q
      exact q.elim
theorem ev_ninLD (da : Dat c.K r enc) (e : De enc n) (hn : n ≤ 62) {ma : PM α} {mb : PM (List α)} (ha : Ev c Γ ta ma r) (hb : Ev c Γ tb mb (rList r)) : Ev c Γ (tOp (rNotInD c.K) ta tb) (ma >>= fun a => mb >>= fun l => inG enc a l >>= fun k => pure (!k)) rBool :=
  ev_op ha hb fun a l S σ F H p x y Q gd hx hy q => by
    unfold inG guardM at q
    by_cases h : (enc a).canLay0 = true ∧ PyData.canLayAll0 (l.map enc) = true
    · rw [if_pos h] at q
      refine ⟨enc a, l.map enc, Dq.toDp gd.sub (da.dp hx), Dq.toDp gd.sub ((datList da).dp hy), shp h.1 (by have := e.dep a; omega), shp (laysL h.2) (by have := (deList e).dep l; omega), ?_⟩
      rw [any_mem e]
      have q : Post c σ F H rBool Q ((pure (!decide (a ∈ l)) : PM Bool) p) := q
      exact q.now gd.sub gd.pl rfl
    · rw [if_neg h] at q
      exact q.elim
/-- .. in a tuple -/
def rInDT (K : PySem.W.Frag) (neg : Bool) : R2 := fun x y H Q => ∃ d ds, Dp K H x d ∧ Dp K H y (.tuple ds) ∧ SeqAt.shaped d = true ∧ SeqAt.shaped (.tuple ds) = true ∧ Q (.bl (if neg = true then !(ds.any fun z => PyData.eqv z d) else ds.any fun z => PyData.eqv z d)) H
theorem op_inDT {X : Cx} (hu : X.A.units + 65 < cLine) : OpR X (compareOp .In) (rInDT X.K false) := by
  intro pins s σ H x y v u Q I rx ry h
  obtain ⟨d, ds, hd, he, sd, se, q⟩ := h
  obtain ⟨as, r1⟩ := Dp.reads I d x v hd rx
  obtain ⟨bs, r2⟩ := Dp.reads I (.tuple ds) y u he ry
  exact SeqAt.in_tuple_reads r2 r1 (SeqAt.canLay_of_shaped se) (SeqAt.canLay_of_shaped sd) (room_in_shaped sd hu) ⟨.bl _, H, I, rfl, q⟩
theorem op_notInDT {X : Cx} (hu : X.A.units + 65 < cLine) : OpR X (compareOp .NotIn) (rInDT X.K true) := by
  intro pins s σ H x y v u Q I rx ry h
  obtain ⟨d, ds, hd, he, sd, se, q⟩ := h
  obtain ⟨as, r1⟩ := Dp.reads I d x v hd rx
  obtain ⟨bs, r2⟩ := Dp.reads I (.tuple ds) y u he ry
  exact SeqAt.notIn_tuple_reads r2 r1 (SeqAt.canLay_of_shaped se) (SeqAt.canLay_of_shaped sd) (room_in_shaped sd hu) ⟨.bl _, H, I, rfl, q⟩
theorem ev_inTD (da : Dat c.K r enc) (e : De enc n) (hn : n ≤ 62) {ma : PM α} {mb : PM (List α)} (ha : Ev c Γ ta ma r) (hb : Ev c Γ tb mb (rTup c.K r)) : Ev c Γ (tOp (rInDT c.K false) ta tb) (ma >>= fun a => mb >>= fun l => inG enc a l) rBool :=
  ev_op ha hb fun a l S σ F H p x y Q gd hx hy q => by
    unfold inG guardM at q
    by_cases h : (enc a).canLay0 = true ∧ PyData.canLayAll0 (l.map enc) = true
    · rw [if_pos h] at q
      refine ⟨enc a, l.map enc, Dq.toDp gd.sub (da.dp hx), Dq.toDp gd.sub ((datTup da).dp hy), shp h.1 (by have := e.dep a; omega), shp (laysT h.2) (by have := (deTup e).dep l; omega), ?_⟩
      rw [if_neg Bool.false_ne_true, any_mem e]
      exact q.now gd.sub gd.pl rfl
    · rw [if_neg h] at q
      exact q.elim
theorem ev_ninTD (da : Dat c.K r enc) (e : De enc n) (hn : n ≤ 62) {ma : PM α} {mb : PM (List α)} (ha : Ev c Γ ta ma r) (hb : Ev c Γ tb mb (rTup c.K r)) : Ev c Γ (tOp (rInDT c.K true) ta tb) (ma >>= fun a => mb >>= fun l => inG enc a l >>= fun k => pure (!k)) rBool :=
  ev_op ha hb fun a l S σ F H p x y Q gd hx hy q => by
    unfold inG guardM at q
    by_cases h : (enc a).canLay0 = true ∧ PyData.canLayAll0 (l.map enc) = true
    · rw [if_pos h] at q
      refine ⟨enc a, l.map enc, Dq.toDp gd.sub (da.dp hx), Dq.toDp gd.sub ((datTup da).dp hy), shp h.1 (by have := e.dep a; omega), shp (laysT h.2) (by have := (deTup e).dep l; omega), ?_⟩
      rw [if_pos rfl, any_mem e]
      have q : Post c σ F H rBool Q ((pure (!decide (a ∈ l)) : PM Bool) p) := q
      exact q.now gd.sub gd.pl rfl
    · rw [if_neg h] at q
      exact q.elim
end
end Kf

set_option maxHeartbeats 4000000
/-! Kf: errors without fields; more of lists, walks and calls -/
namespace Kf.Er
open PySem PySem.W PySem.Calls PyProof.Rows PySem.HandSPX
section
variable {prog : Program} {w : World} {A : Around} {E : Value → Shared → Prop} {R : Result → Shared → Prop} {s : Shared} {K : Frag} {mg : Str → Option Value} {x q : Str} {params : Arguments} {body : List Stmt} {C fI cc : Addr} {base : Heap}
/-- the text of such an __init__ without fields -/
structure Shape0 (q : Str) (params : Arguments) (body : List Stmt) : Prop where
  isc : IScope []
  txt : ∃ (msg : Str) (k : Nat) (a b c d e g p1 : Pos), body = [iSup msg k a b c d e g] ∧ params = iA [pA "self" p1] ∧ SupEq [] msg k a b c d e
  bd : ∀ (doc pm : Value) (an : Option Addr) (cdv ct : Value) (cc : Addr) (z : Value), bindArgs (ksFn "__init__" q params body (iS []) .none .none doc pm an cdv ct cc) ⟨[z], []⟩ = pure [(("self" : Str), z)]
theorem init0 (T : Txt K mg prog x q [] params body C fI cc) (S : Shape0 q params body) {z t0 : Addr} (M : L2.Mod K mg base) (kb : ∀ b o, base.get? b = some o → s.heap.get? b = some o) (hlim : s.heap.NoLimit) (hz : s.heap.get? z = some (excO C t0)) (nz : base.get? z = none) (hroom : A.depth < recursionLimit)
    (hq : ∀ h' tk t1, Left s.heap h' z C t1 none [] → R (.ok (.ret .none)) { s with heap := h', toks := tk }) :
    codeAny (model prog w) A (.call (.ref fI) ⟨[.ref z], []⟩) R s := by
  obtain ⟨oc, od, doc, pm, an, cda, ct, osl, ccl, cdd, vs, ccs, file, tf, ho, hci, hcd, hvs, hfl⟩ := T.fn
  obtain ⟨msg, k, a, b, c, d, e, g, p1, hb, hp, hse⟩ := S.txt
  have X : K.In s.heap := M.kin.keeps kb
  refine ks_codeAny_call_defAt (fd := ksFn "__init__" q params body (iS []) .none .none doc pm an (.ref cda) ct cc) (body := body) (binds := [("self", .ref z)]) hroom (X _ _ ho) rfl hlim (codeRec_of X hci) rfl (BindsTo.of_eq (S.bd _ _ _ _ _ _ _)) (iS_cell _) (fun y hy => ?_) (fun h₁ hns hk₁ => ?_)
  · rcases List.mem_cons.mp hy with rfl | hy
    · exact IScope.self _
    · cases hy
  have hzL : s.heap.objs.size ≠ z := Nat.ne_of_gt (Heap.lt_size hz)
  have eS : List.lookup ("self" : Str) (List.reverse [(("self" : Str), Value.ref z)]) = some (.ref z) := by simp [List.lookup]
  have hz₁ := hk₁ _ _ hz
  show _root_.PySem.wpAt (model prog w) (A.deeper (ksEnv q (iS []) s.heap.objs.size fI (.ref cda) cc)) (.func body (ksEnv q (iS []) s.heap.objs.size fI (.ref cda) cc)) (execs body (ksEnv q (iS []) s.heap.objs.size fI (.ref cda) cc)) _ _ _
  rw [show execs body = execs [iSup msg k a b c d e g] by rw [hb]]
  refine ks_wpAt_execs_cons ?_
  have key := fun (Q : Flow → Shared → Prop) (E : Value → Shared → Prop) => sup_run (prog := prog) (w := w) (A := A.deeper (ksEnv q (iS []) s.heap.objs.size fI (.ref cda) cc)) (E := E) (Q := Q) (s := ⟨h₁, s.gens, s.drawn, s.toks + 1, s.os⟩) (fs := []) (ar := []) (g := g) T S.isc hse hp ho hcd hvs hfl M (fun b o y => hk₁ _ _ (kb _ _ y)) hns eS hz₁
  refine key _ _ fun h₂ tk₂ t1 k₂ hz₂ => wpAt_of_wpAny ?_
  exact wpAny_execs_nil (hq h₂ tk₂ t1 ⟨fun b o hb y => k₂ b o hb (hk₁ b o y), hz₂, (fun d hd => by cases hd), fun _ => rfl⟩)
theorem made0 {us : List Value} (T : Txt K mg prog x q [] params body C fI cc) (M : L2.Mod K mg base) (kb : ∀ b o, base.get? b = some o → s.heap.get? b = some o) (hlim : s.heap.NoLimit) (hus : us.length ≤ sizeLine)
    (init : ∀ {A : Around} {R : Result → Shared → Prop} {s : Shared} {z t0 : Addr}, (∀ b o, base.get? b = some o → s.heap.get? b = some o) → s.heap.NoLimit → s.heap.get? z = some (excO C t0) → base.get? z = none → A.depth < recursionLimit →
      (∀ h' tk t1, Left s.heap h' z C t1 none [] → R (.ok (.ret .none)) { s with heap := h', toks := tk }) → codeAny (model prog w) A (.call (.ref fI) ⟨.ref z :: us, []⟩) R s)
    (hroom : A.depth + 1 < recursionLimit) (hq : ∀ h' tk e, Made s.heap h' e C none [] → R (.ok (.ret (.ref e))) { s with heap := h', toks := tk }) :
    codeAny (model prog w) A (.call (.ref C) ⟨us, []⟩) R s := by
  obtain ⟨nm, qq, N, bs, bm, sn, sub, ab, col, dd, k0, k1, k2, k3, k5, hC, hbm⟩ := T.cls
  have X : K.In s.heap := M.kin.keeps kb
  obtain ⟨hp, g, dr, tk, os⟩ := s
  have k : ∀ b o, hp.get? b = some o → ((hp.push (kdv_tup us)).push (excO C hp.objs.size)).get? b = some o := fun b o e => Heap.get?_push_of_some _ (Heap.get?_push_of_some _ e)
  have hget : ((hp.push (kdv_tup us)).push (excO C hp.objs.size)).get? (hp.objs.size + 1) = some (excO C hp.objs.size) := by heap_get
  have nz : base.get? (hp.objs.size + 1) = none := by
    cases e : base.get? (hp.objs.size + 1) with
    | none => rfl
    | some o => exact absurd (Nat.lt_of_succ_lt (Heap.lt_size (kb _ _ e))) (Nat.lt_irrefl _)
  refine call_own F.excBase_ValueError (fun Y => refsVE_contains Y bm hbm) (X _ _ hC) (looks_findIn X T.iC) (fun self => bind_fn X self T.tC) hus ?_
  refine init (s := ⟨(hp.push (kdv_tup us)).push (excO C hp.objs.size), g, dr, tk, os⟩) (fun b o y => k _ _ (kb _ _ y)) (hlim.keeps k) hget nz ?_ fun h' tk' t1 L => ?_
  · show A.depth + 1 < recursionLimit
    exact hroom
  · have old : ∀ b o, hp.get? b = some o → h'.get? b = some o := fun b o e => L.keep b o (Nat.ne_of_lt (Nat.lt_succ_of_lt (Heap.lt_size e))) (k b o e)
    exact ⟨rfl, hq h' tk' (hp.objs.size + 1) ⟨old, Nat.le_succ _, ⟨_, _, L.obj, rfl, rfl, rfl, rfl, rfl⟩, (fun d hd => by cases hd), L.none⟩⟩
end
end Kf.Er
namespace Kf
open PySem PySem.Spec L2
open PyProof.Rows hiding St
section
variable {X : Cx} {C fI cc : Addr} {x q : Str} {params : Arguments} {body : List Stmt}
/-- C(), C an own error without fields -/
def tMk0 (C : Addr) : St → Hp → XK → Prop := fun σ H Q => Q (.ref C) none H
theorem pmk0 {p pos : Pos} {k : Nat} (T : Er.Txt X.K X.mg X.prog x q [] params body C fI cc) (S : Er.Shape0 q params body) (hr : Room k X.A) (hg : Gl X x) (hd : (x == ("__debug__" : Str)) = false := by decide) :
    L2N.PMk X (.Call (.Name x p) [] [] pos) (tMk0 C) := by
  intro pins s σ H Q I h
  refine wpAny_Call_Name_kw (ld_glob I hg T.gC ?_ hd)
  refine PySem.W.callWith_K0 I.kIn T.kC ?_
  show wpAny _ _ (call (.ref C) []) _ _ _
  have hlim := I.nolimit
  have hbk := I.bk
  obtain ⟨hp, g, dr, tk, os⟩ := s
  refine wpAny_call (Er.made0 (us := []) T I.ok.mod hbk hlim (Nat.zero_le _) (fun kb hl hz nz hroom hq => Er.init0 T S I.ok.mod kb hl hz nz hroom hq) (by have := hr.dp; omega) fun h' tk' e M => ?_)
  show L2N.MkP X pins σ Q (.ref e) ⟨h', g, dr, tk', os⟩
  obtain ⟨oe, fv, hoe, hc, hd', hdat, h1, h2⟩ := M.obj
  obtain ⟨G', g1, g2⟩ := restrict h' fun b => decide (b ≠ e)
  have gk : ∀ b, b ≠ e → G'.get? b = h'.get? b := fun b hb => g1 b (decide_eq_true hb)
  have ge : G'.get? e = none := g2 e (by simp)
  have old : ∀ b o, hp.get? b = some o → G'.get? b = some o := fun b o y => (gk b (Nat.ne_of_lt (Nat.lt_of_lt_of_le (Heap.lt_size y) M.new))).trans (M.keep b o y)
  have J : Inv X pins σ H ⟨G', g, dr, tk', os⟩ := I.kept (t' := tk') old
  refine ⟨e, oe, fv, ⟨G', g, dr, tk', os⟩, H, .ref C, none, rfl, J, fun b o y => ?_, ge, hoe, ⟨hc, hd', fun vs y => by rw [hdat] at y; cases y; exact h2⟩, hdat, h1, ?_, rfl, I.bare, raises_own T.exC T.tyC, h⟩
  · by_cases hb : b = e
    · have y' : G'.get? b = some o := y
      rw [hb, ge] at y'
      cases y'
    · exact (gk b hb).symm.trans y
  · exact I.hok.fresh M.new
end
end Kf
namespace GBT
open PySem
open PySem.Sem (wp)
open PyProof.Rows
theorem meets_bool_tup (l : Addr) (items : Array Value) (hfit : (items.size : Int) < 2 ^ 63) :
    Meets (Builtin.«bool.__new__» ⟨[.type "bool", .ref l], []⟩) (fun _ R s => IsTup s.heap l items ∧ R (.ok (.ret (.bool (!items.isEmpty)))) { s with toks := s.toks + 1 + 1 }) :=
  Meets.of_wp fun prog w A R s hs => by
    obtain ⟨hl, hs⟩ := hs
    obtain ⟨hp, g, d, tk, os⟩ := s
    have f1 := F.conv_sub_bool
    repeat (any_goals (first | assumption | (with_reducible refine truthy_tuple hl hfit ?_) | wp_step))
    all_goals first | exact ⟨_, rfl, hs⟩ | exact hs | skip
theorem call_bool_tup {prog : Program} {w : World} {A : Around} {E : Value → Shared → Prop} {s : Shared} {l : Addr} {items : Array Value} {Q : Value → Shared → Prop} (hfit : (items.size : Int) < 2 ^ 63) (hl : IsTup s.heap l items)
    (h : Q (.bool (!items.isEmpty)) { s with toks := s.toks + 1 + 1 }) : wpAny (model prog w) A (call (.type "bool") [.ref l]) Q E s :=
  call_bool_1 (meets_bool_tup l items hfit) ⟨hl, rfl, h⟩
end GBT

set_option maxHeartbeats 4000000
/-! Kf: bool of sequences, extend, static methods of fixed arguments, walks (zip, pairs, steps down) -/
namespace Kf
open PySem PySem.Spec L2
open PyProof.Rows hiding St
section
variable {X : Cx}
theorem call_boolT : CallR X (.type "bool") (fun xs H Q => ∃ (a : Addr) (zs : List V), xs = [.ref a] ∧ SqT X.K H a zs ∧ Q (.bl (!zs.isEmpty)) H) := by
  intro pins s σ H xs us Q I r h
  obtain ⟨a, zs, rfl, hq, q⟩ := h
  obtain rfl := Vals.ref1 r
  obtain ⟨its, rv, pl, hz⟩ := I.tuple hq
  have hl := line63
  have hlen := rv.length
  refine GBT.call_bool_tup (by simp only [List.size_toArray]; omega) pl ?_
  exact ⟨.bl (!zs.isEmpty), H, I.tok _, by rw [isEmpty_of rv]; rfl, q⟩
/-- the readings with the written part told -/
abbrev rBoolL (K : PySem.W.Frag) : List V → Hp → VK → Prop := fun xs H Q => ∃ (a : Addr) (zs : List V), xs = [.ref a] ∧ SqL K H a zs ∧ Q (.bl (!zs.isEmpty)) H
abbrev rBoolT (K : PySem.W.Frag) : List V → Hp → VK → Prop := fun xs H Q => ∃ (a : Addr) (zs : List V), xs = [.ref a] ∧ SqT K H a zs ∧ Q (.bl (!zs.isEmpty)) H
theorem call_boolLK {K : PySem.W.Frag} (e : X.K = K := by rfl) : CallR X (.type "bool") (rBoolL K) := by subst e; exact call_boolL
theorem call_boolTK {K : PySem.W.Frag} (e : X.K = K := by rfl) : CallR X (.type "bool") (rBoolT K) := by subst e; exact call_boolT
end
section
variable {c : Cf} {Γ : List Sl} {ta tb : TE} {α β γ ρ A : Type} {rr : Rr ρ} {r : Rl α} {u : Rl β} {t : TA}
theorem All2.isEmp {R : V → α → Prop} : ∀ {vs : List V} {l : List α}, All2 R vs l → vs.isEmpty = l.isEmpty
  | _, _, .nil => rfl
  | _, _, .cons _ _ => rfl
theorem ev_boolL {m : PM (List α)} (h : Ev c Γ ta m (rList r)) : Ev c Γ (tCB (rBoolL c.K) (tCons ta tNil)) (m >>= fun l => pure (!l.isEmpty)) rBool := fun S σ F H p Q g q =>
  h S σ F H p _ g (q.seq fun l p1 v F1 H1 e1 pl1 r1 h1 => by
    obtain ⟨x, vs, rfl, k1, k2, k3⟩ := rList.of r1
    refine ⟨x, vs, rfl, SqL.of (e1.sub' _ _ k1), ?_⟩
    rw [k3.isEmp]
    exact h1.now (g.ext e1 pl1).sub pl1 rfl)
theorem ev_boolT {m : PM (List α)} (h : Ev c Γ ta m (rTup c.K r)) : Ev c Γ (tCB (rBoolT c.K) (tCons ta tNil)) (m >>= fun l => pure (!l.isEmpty)) rBool := fun S σ F H p Q g q =>
  h S σ F H p _ g (q.seq fun l p1 v F1 H1 e1 pl1 r1 h1 => by
    obtain ⟨x, vs, rfl, k1, k2, k3⟩ := r1
    refine ⟨x, vs, rfl, SqT.same (g.ext e1 pl1).sub k1, ?_⟩
    rw [k3.isEmp]
    exact h1.now (g.ext e1 pl1).sub pl1 rfl)
/-- int(flag) -/
theorem ev_intB {m : PM Bool} (h : Ev c Γ ta m rBool) : Ev c Γ (tCB (fun xs H Q => (∃ i, xs = [.int i] ∧ Q (.int i) H) ∨ ∃ k, xs = [.bl k] ∧ Q (.int (if k then 1 else 0)) H) (tCons ta tNil)) (m >>= fun k => pure (if k = true then 1 else 0)) rInt := fun S σ F H p Q g q =>
  h S σ F H p _ g (q.seq fun k p1 v F1 H1 e1 pl1 r1 h1 => .inr ⟨k, by rw [show v = .bl k from r1], h1.now (g.ext e1 pl1).sub pl1 rfl⟩)
/-! ### raise X() -/
theorem el_raise0 {x : Str} {fall : Prop} : El c rr fall Γ (fun _ σ H => tMk0 (He.ga c.K x) σ H fun cls d H' => c.W cls d σ H') (raise ⟨x, .non⟩) := fun S σ F H p D g _ q =>
  q (.ref (He.ga c.K x)) none σ F H g.ent g.pl g.gx ⟨rfl, rfl⟩
/-! ### xs.extend(ys) -/
theorem es_ext {i : Nat} {l : List α} {m : PM (List α)} (hx : nth Γ i = .own (oList r) l) (h : Ev c Γ ta m (rList r)) :
    Es c Γ (tDrop (tBM c.K "list" rExtend (tVar i) (tCons ta tNil))) (m >>= fun a => catL l a) fun l' => put Γ i (.own (oList r) l') := fun S σ F H p D g q => by
  obtain ⟨x, ho, h1, h2, ⟨vs, rfl, k2, k3⟩, hm⟩ := g.sl.own hx
  refine ⟨_, h1, .inl ⟨rfl, _, SqL.of h2⟩, h S σ F H p _ g (q.seqE g fun a p2 y F2 H2 g2 s2 r2 _ h4 => ?_)⟩
  obtain ⟨x', ho', h1', h2', ⟨vs', rfl, k2', k3'⟩, hm'⟩ := g2.sl.own hx
  have ex : x' = x := by rw [h1] at h1'; injection h1' with z; injection z with z; injection z with z; exact z.symm
  subst ex
  obtain ⟨b, zs, rfl, j1, j2, j3⟩ := rList.of r2
  unfold catL guardM at h4
  by_cases hl : l.length + a.length ≤ sizeLine
  · rw [if_pos hl] at h4
    have hl' : vs'.length + zs.length ≤ sizeLine := by rw [k3'.length, j3.length]; exact hl
    exact ⟨x', b, vs', zs, rfl, rfl, h2', g2.sub _ _ j1, hl', h4 σ F2 _ (g2.updo hx h1' ⟨_, rfl, by rw [List.length_append]; exact hl', k3'.append j3⟩)⟩
  · rw [if_neg hl] at h4
    exact h4.elim
/-! ### walks -/
/-- a pair's items -/
theorem ei_pair {m : PM (α × α)} (h : Ev c Γ ta m (rPair c.K r r)) : Ei c Γ (iTup c.K ta) (m >>= fun x => pure [x.1, x.2]) r := fun S σ F H p R g q =>
  h S σ F H p _ g (q.seq fun l p1 v F1 H1 e1 pl1 r1 h1 => by
    obtain ⟨x, a, b, rfl, k1, k2, k3⟩ := r1
    refine ⟨x, rfl, ⟨[a, b], SqT.same e1.sub' k1⟩, h1 (Itt c.K x) F1 H1 (fun H => SqT c.K H x [a, b]) (YAt [a, b]) e1 pl1 (show Walk (Itt c.K x) [a, b].length _ _ from walk_tup (xs := [a, b])) (fun H2 s _ => SqT.same s k1) fun i y F2 H2 H3 hi s2 s3 hy => ?_⟩
    obtain ⟨rfl, hy⟩ := hy
    refine ⟨F2, Ext.refl s3, fun w hw => ?_⟩
    have k : All2 (r.rel F1) [a, b] [l.1, l.2] := .cons k2 (.cons k3 .nil)
    obtain ⟨w', hw', rw_⟩ := k.get hw
    rw [hy] at hw'
    obtain rfl := Option.some.inj hw'
    exact r.mono s2 rw_)
/-- range(i, j, -1) -/
def drange (lo hi : Int) : List Int := (List.range (lo - hi).toNat).map fun (i : Nat) => lo - (i : Int)
def RngD (i j : Int) : Prop := -(2 ^ 30) ≤ i ∧ i < 2 ^ 30 ∧ -(2 ^ 30) ≤ j ∧ j < 2 ^ 30
instance (i j : Int) : Decidable (RngD i j) := inferInstanceAs (Decidable (_ ∧ _))
def rangeD (lo hi : Int) : PM (List Int) := guardM (RngD lo hi) (drange lo hi)
theorem drange_len (lo hi : Int) : (drange lo hi).length = (lo - hi).toNat := by simp [drange]
theorem drange_get {lo hi : Int} {i : Nat} {a : Int} (h : (drange lo hi)[i]? = some a) : a = lo - i := by
  unfold drange at h
  rw [List.getElem?_map, Option.map_eq_some_iff] at h
  obtain ⟨j, h1, h2⟩ := h
  have : j = i := by
    obtain ⟨hlt, h3⟩ := List.getElem?_eq_some_iff.mp h1
    rw [List.getElem_range] at h3
    exact h3.symm
  subst this
  exact h2.symm
theorem PostI.seq' {X : Type} {σ : St} {F H F1 H1 : Hp} {p1 : Pool} {r : Rg X β} {r' : Rl α} {m : PM β} {f : β → PM (List α)} {R : It → Hp → Prop} {Q : X → Hp → Prop} (e1 : Ext c.q F H F1 H1) (pl1 : PoolOk c.q c.s F1 H1 p1) (h : PostI c σ F H r' R ((m >>= f) p1))
    (k : ∀ a p2 v F2 H2, Ext c.q F H F2 H2 → Ext c.q F1 H1 F2 H2 → PoolOk c.q c.s F2 H2 p2 → r.rel F2 v a → PostI c σ F H r' R (f a p2) → Q v H2) : Post c σ F1 H1 r Q (m p1) := by
  rw [run_bind] at h
  rcases e : m p1 with ⟨er | a, p2⟩
  · rw [e] at h
    cases er with
    | stuck => exact h
    | exc ex => exact fun cls d F' H' e' pl k => h cls d F' H' (e1.tr e' pl1) pl k
  · rw [e] at h
    exact fun v F2 H2 e2 pl2 r2 => k a p2 v F2 H2 (e1.tr e2 pl1) e2 pl2 r2 h
theorem ei_r3 {tc : TE} {m m2 : PM Int} (h : Ev c Γ ta m rInt) (h2 : Ev c Γ tb m2 rInt) (h3 : Ev c Γ tc (pure (-1)) rInt) : Ei c Γ (iRng3 (tCons ta (tCons tb (tCons tc tNil)))) (m >>= fun i => m2 >>= fun n => rangeD i n) rInt := fun S σ F H p R g q =>
  h S σ F H p _ g (q.seq fun i p1 v F1 H1 e1 pl1 r1 h1 => h2 S σ F1 H1 p1 _ (g.ext e1 pl1) (PostI.seq' e1 pl1 h1 fun n p2 w F2 H2 e2 e2' pl2 r2 q2 => h3 S σ F2 H2 p2 _ ((g.ext e1 pl1).ext e2' pl2) fun z F3 H3 e3 pl3 r3 => by
    unfold rangeD guardM at q2
    by_cases hb : RngD i n
    · rw [if_pos hb] at q2
      refine ⟨i, n, -1, (i - n).toNat, by rw [show v = .int i from r1, show w = .int n from r2, show z = .int (-1) from r3], RgC.neg (by have := hb.1; omega) (by have := hb.2.1; omega) (by have := hb.2.2.1; omega) (by have := hb.2.2.2; omega), ?_⟩
      refine q2 (Itc i (-1) (i - n).toNat) F3 H3 (fun _ => True) (YFn fun k => .int (i + (k : Nat) * (-1))) (e2.tr e3 pl2) pl3 (by rw [drange_len]; exact walk_rangeC) (fun _ _ _ => trivial) fun k y F4 H4 H5 _ s2 s3 hy => ?_
      obtain ⟨rfl, rfl⟩ := hy
      refine ⟨F4, Ext.refl s3, fun a ha => ?_⟩
      rw [drange_get ha]
      show V.int _ = V.int _
      congr 1
      omega
    · rw [if_neg hb] at q2; exact q2.elim))
/-- zip -/
theorem zip_get {l : List α} {m : List β} {i : Nat} {x : α × β} (h : (l.zip m)[i]? = some x) : l[i]? = some x.1 ∧ m[i]? = some x.2 := by
  rw [List.getElem?_zip_eq_some] at h
  exact h
theorem ei_zipL {m : PM (List α)} {m2 : PM (List β)} (h : Ev c Γ ta m (rList r)) (h2 : Ev c Γ tb m2 (rList u)) : Ei c Γ (RZ.iZipA c.K (tCons ta (tCons tb tNil))) (m >>= fun l => m2 >>= fun k => pure (l.zip k)) (rPair c.K r u) := fun S σ F H p R g q =>
  h S σ F H p _ g (q.seq fun l p1 v F1 H1 e1 pl1 r1 h1 => h2 S σ F1 H1 p1 _ (g.ext e1 pl1) (PostI.seq' e1 pl1 h1 fun k p2 w F2 H2 e2 e2' pl2 r2 q2 => by
    obtain ⟨x, vs, rfl, k1, k2, k3⟩ := rList.of ((rList r).mono e2'.sub r1)
    obtain ⟨y, ws, rfl, j1, j2, j3⟩ := rList.of r2
    have sb := ((g.ext e1 pl1).ext e2' pl2).sub
    refine ⟨x, y, vs, ws, rfl, .inl ⟨SqL.of (sb _ _ k1), SqL.of (sb _ _ j1), q2 (Itz c.K x y) F2 H2 (fun H => SqL c.K H x vs ∧ SqL c.K H y ws) _ e2 pl2 (walk_zip (by rw [List.length_zip, k3.length, j3.length])) (fun H2 s _ => ⟨SqL.of (s _ _ k1), SqL.of (s _ _ j1)⟩) fun i z F3 H3 H4 hi s2 s3 hy => ?_⟩⟩
    obtain ⟨T, v1, v2, rfl, hT, rfl, e3, e4⟩ := hy
    refine ⟨upd F3 T (.tup [v1, v2]), Ext.new' s3 hT, fun a ha => ?_⟩
    obtain ⟨a1, a2⟩ := zip_get ha
    obtain ⟨w1, hw1, rw1⟩ := k3.get a1
    obtain ⟨w2, hw2, rw2⟩ := j3.get a2
    have ev1 : v1 = w1 := Option.some.inj ((show vs[i]? = some v1 from e3).symm.trans hw1)
    have ev2 : v2 = w2 := Option.some.inj ((show ws[i]? = some v2 from e4).symm.trans hw2)
    subst ev1 ev2
    have sm : Same F2 (upd F3 T (.tup [v1, v2])) := s2.trans (same_upd (Same.none s3 hT))
    exact ⟨T, _, _, rfl, SqT.of upd_same, r.mono sm rw1, u.mono sm rw2⟩))
theorem walk_zipT {K : PySem.W.Frag} {a b : Addr} {xs ys : List V} {n : Nat} (hn : n = min xs.length ys.length) : Walk (RZ.ItzT K a b) n (fun H => SqT K H a xs ∧ SqT K H b ys) (YPair (fun i => xs[i]?) (fun i => ys[i]?)) := by
  subst hn
  refine ⟨fun i _ hi q => ?_, fun _ q => ⟨xs, ys, q.1, q.2, by omega⟩, fun i H v H' _ q y => ?_⟩
  · have h1 : i < xs.length := by omega
    have h2 : i < ys.length := by omega
    exact ⟨xs, ys, xs[i], ys[i], q.1, q.2, by simp [h1], by simp [h2]⟩
  · obtain ⟨T, x, z, h1, h2, h3, h4, h5⟩ := y
    exact ⟨T, x, z, h1, h2, h3, h4 xs q.1, h5 ys q.2⟩
theorem ei_zipT {m : PM (List α)} {m2 : PM (List β)} (h : Ev c Γ ta m (rTup c.K r)) (h2 : Ev c Γ tb m2 (rTup c.K u)) : Ei c Γ (RZ.iZipA c.K (tCons ta (tCons tb tNil))) (m >>= fun l => m2 >>= fun k => pure (l.zip k)) (rPair c.K r u) := fun S σ F H p R g q =>
  h S σ F H p _ g (q.seq fun l p1 v F1 H1 e1 pl1 r1 h1 => h2 S σ F1 H1 p1 _ (g.ext e1 pl1) (PostI.seq' e1 pl1 h1 fun k p2 w F2 H2 e2 e2' pl2 r2 q2 => by
    obtain ⟨x, vs, rfl, k1, k2, k3⟩ := (rTup c.K r).mono e2'.sub r1
    obtain ⟨y, ws, rfl, j1, j2, j3⟩ := r2
    have sb := ((g.ext e1 pl1).ext e2' pl2).sub
    refine ⟨x, y, vs, ws, rfl, .inr ⟨SqT.same sb k1, SqT.same sb j1, q2 (RZ.ItzT c.K x y) F2 H2 (fun H => SqT c.K H x vs ∧ SqT c.K H y ws) _ e2 pl2 (walk_zipT (by rw [List.length_zip, k3.length, j3.length])) (fun H2 s _ => ⟨SqT.same s k1, SqT.same s j1⟩) fun i z F3 H3 H4 hi s2 s3 hy => ?_⟩⟩
    obtain ⟨T, v1, v2, rfl, hT, rfl, e3, e4⟩ := hy
    refine ⟨upd F3 T (.tup [v1, v2]), Ext.new' s3 hT, fun a ha => ?_⟩
    obtain ⟨a1, a2⟩ := zip_get ha
    obtain ⟨w1, hw1, rw1⟩ := k3.get a1
    obtain ⟨w2, hw2, rw2⟩ := j3.get a2
    have ev1 : v1 = w1 := Option.some.inj ((show vs[i]? = some v1 from e3).symm.trans hw1)
    have ev2 : v2 = w2 := Option.some.inj ((show ws[i]? = some v2 from e4).symm.trans hw2)
    subst ev1 ev2
    have sm : Same F2 (upd F3 T (.tup [v1, v2])) := s2.trans (same_upd (Same.none s3 hT))
    exact ⟨T, _, _, rfl, SqT.of upd_same, r.mono sm rw1, u.mono sm rw2⟩))
end
section
variable {X : Cx} {CX : CXT} {k : Nat} {g C : Addr} {fd : FuncData} {ps : List Str} {sp : Sp} {mc : Value} {E : St → XK} {mt : Str} {o e : Expr} {es : List Expr} {ta : TE} {t : TA} {pos apos : Pos}
/-- C.m(..), m a static method of fixed arguments -/
theorem pe_smethN {pl : Sem Bool} (he : PE X o ta) (c : SMet X.K C mc mt g) (F : FnOk X.prog X.w X.K X.mg X.base CX k g fd ps sp) (hr : Room k X.A) (hb : Binds X.K fd ps []) (hx : ∀ σ, PassesAt CX X σ (E σ)) (ha : PA X (e :: es) t)
    (hst : starEach (e :: es) X.env = (false, eval e X.env) :: starEach es X.env := by rfl) (hpl : (backTo pos (starEach es X.env)).any (·.1) = false := by rfl)
    (ht : eval (.Call (.Attribute o mt apos) (e :: es) [] pos) X.env = (do
      let self ← eval o X.env
      standAt apos.atName
      let (g, first) ← holding [self] (getMethod self mt pl)
      callWith pos g first (backTo pos (starEach (e :: es) X.env)) (backToKw pos (keywordEach [] X.env))) := by rfl) :
    PE X (.Call (.Attribute o mt apos) (e :: es) [] pos) (tSMeth C sp E ta t) := ⟨fun pins s σ H Q I h =>
  PySem.W.methodCall_KW (pl := pl) (thn (he.run pins s σ H _ I h) fun u s1 ⟨x, H1, I1, rx, ex, q⟩ => by
    subst ex
    have eu : u = Value.ref C := rx
    subst eu
    exact getsm_ok I1 c fun s2 I2 => PySem.W.callWith_K (h₀ := X.base) (first := []) I.ok.mod.kin c.kp (thn (ha.run pos pins s2 σ H1 _ I2 q) fun us s3 ⟨vs, H2, I3, r, q2⟩ => ⟨I3.kIn, run_fnSD (dvs := []) (ds := []) F hr hb .nil (hx σ) I3 r q2⟩) hst hpl) ht⟩
end
end Kf
namespace Kf
open PySem PySem.Spec L2
open PyProof.Rows hiding St
theorem op_inDK {X : Cx} {K : PySem.W.Frag} (hu : X.A.units + 65 < cLine) (e : X.K = K := by rfl) : OpR X (compareOp .In) (rInD K) := e ▸ op_inD hu
theorem op_notInDK {X : Cx} {K : PySem.W.Frag} (hu : X.A.units + 65 < cLine) (e : X.K = K := by rfl) : OpR X (compareOp .NotIn) (rNotInD K) := e ▸ op_notInD hu
theorem op_inDTK {X : Cx} {K : PySem.W.Frag} (hu : X.A.units + 65 < cLine) (e : X.K = K := by rfl) : OpR X (compareOp .In) (rInDT K false) := e ▸ op_inDT hu
theorem op_notInDTK {X : Cx} {K : PySem.W.Frag} (hu : X.A.units + 65 < cLine) (e : X.K = K := by rfl) : OpR X (compareOp .NotIn) (rInDT K true) := e ▸ op_notInDT hu
theorem huR5 {k : Nat} {A : Around} (r : Room k A) : A.units + 65 < cLine := by have := r.un; omega
theorem pi_zipK {X : Cx} {K : PySem.W.Frag} {e e2 : Expr} {ta : TA} {p pos tpos : Pos} {elts : List Expr} {kk : Nat} (eK : X.K = K) (hg : Gl X "zip") (hm : X.mg "zip" = none) (ha : PA X [e, e2] ta)
    (hs : starEach [e, e2] X.env = (false, eval e X.env) :: starEach [e2] X.env := by rfl) (hpl : (backTo pos (starEach [e2] X.env)).any (·.1) = false := by rfl) :
    PI X (.Tuple elts kk tpos) (.Call (.Name "zip" p) [e, e2] [] pos) (RZ.iZipA K ta) := by subst eK; exact RZ.pi_zipA hg hm ha hs hpl
end Kf

set_option maxHeartbeats 4000000
/-! Kf: values that may be None, told apart; f-strings; lists turned around; d.get(k, x) -/
namespace Kf
open PySem PySem.Spec L2
open PyProof.Rows hiding St
theorem Good.narrow {S : Hp × Hp} {q : Option Addr} {sc : SG} {Γ : List Sl} {σ : St} {F H : Hp} {p : Pool} {α : Type} {r : Rl α} {a : α} {i : Nat} (g : Good S q sc Γ σ F H p) (hi : nth Γ i = .val (rOpt r) (some a)) (hG : fre sc.G i = true) : Good S q sc (put Γ i (.val r a)) σ F H p := by
  obtain ⟨v, h1, h2⟩ := g.sl.val hi
  have h2 : r.rel F v a := h2
  have g2 := g.setv i hG h2
  have e : σ.set i (some v) = σ := by
    have hlt := (List.getElem?_eq_some_iff.mp h1).1
    have h3 := (List.getElem?_eq_some_iff.mp h1).2
    conv => rhs; rw [← List.set_getElem_self hlt]
    rw [h3]
  rw [e] at g2
  exact g2
abbrev tIsN (i : Nat) : TE := tOp (fun x y H Q => y = .non ∧ Q (.bl (decide (x = .non))) H) (tVar i) (tC .non)
abbrev tNotN (i : Nat) : TE := tOp (fun x y H Q => y = .non ∧ Q (.bl (!decide (x = .non))) H) (tVar i) (tC .non)
section
variable {c : Cf} {Γ : List Sl} {α β γ ρ : Type} {rr : Rr ρ} {r : Rl α} {i : Nat} {o : Option α}
/-- what the test tells -/
theorem isN_run {S : Hp × Hp} {σ : St} {F H : Hp} {p : Pool} {Q : Bool → Hp → Prop} (nn : NN r) (g : Good S c.q c.s Γ σ F H p) (hi : nth Γ i = .val (rOpt r) o) (h : Q o.isNone H) : tTest (tIsN i) σ H Q := by
  obtain ⟨v, h1, h2⟩ := g.sl.val hi
  refine ⟨v, h1, rfl, _, rfl, ?_⟩
  cases o with
  | none => rw [show v = .non from h2]; exact h
  | some a =>
    have : decide (v = V.non) = false := decide_eq_false (nn.ne (show r.rel F v a from h2))
    rw [this]
    exact h
theorem notN_run {S : Hp × Hp} {σ : St} {F H : Hp} {p : Pool} {Q : Bool → Hp → Prop} (nn : NN r) (g : Good S c.q c.s Γ σ F H p) (hi : nth Γ i = .val (rOpt r) o) (h : Q o.isSome H) : tTest (tNotN i) σ H Q := by
  obtain ⟨v, h1, h2⟩ := g.sl.val hi
  refine ⟨v, h1, rfl, _, rfl, ?_⟩
  cases o with
  | none => rw [show v = .non from h2]; exact h
  | some a =>
    have : decide (v = V.non) = false := decide_eq_false (nn.ne (show r.rel F v a from h2))
    rw [this]
    exact h
/-- if x is None: .. (that leaves); what follows knows better -/
theorem el_optG {t u : TS} {m1 : PM ρ} {m2 : α → PM ρ} {fall : Prop} (nn : NN r) (hi : nth Γ i = .val (rOpt r) o) (hG : fre c.s.G i = true) (h1 : El c rr False Γ t m1) (h2 : ∀ a, El c rr fall (put Γ i (.val r a)) u (m2 a)) :
    El c rr fall Γ (tSeq (tIfS (tTest (tIsN i)) t tNext) u) (o.elim (m1) fun a => m2 a) := fun S σ F H p D g hf q => by
  refine isN_run nn g hi ?_
  cases o with
  | none => exact h1 S σ F H p _ g (fun z => z.elim) q
  | some a => exact h2 a S σ F H p D (g.narrow hi hG) hf q
/-- if x is not None: .. (that leaves) -/
theorem el_optR {t u : TS} {m1 : α → PM ρ} {m2 : PM ρ} {fall : Prop} (nn : NN r) (hi : nth Γ i = .val (rOpt r) o) (hG : fre c.s.G i = true) (h1 : ∀ a, El c rr False (put Γ i (.val r a)) t (m1 a)) (h2 : El c rr fall Γ u m2) :
    El c rr fall Γ (tSeq (tIfS (tTest (tNotN i)) t tNext) u) (o.elim (m2) fun a => m1 a) := fun S σ F H p D g hf q => by
  refine notN_run nn g hi ?_
  cases o with
  | none => exact h2 S σ F H p D g hf q
  | some a => exact h1 a S σ F H p _ (g.narrow hi hG) (fun z => z.elim) q
/-- x is None or .., x is not None and .. -/
theorem et_orN {t2 : TT} {m2 : α → PM Bool} (nn : NN r) (hi : nth Γ i = .val (rOpt r) o) (hG : fre c.s.G i = true) (h2 : ∀ a, Et c (put Γ i (.val r a)) t2 (m2 a)) : Et c Γ (tOr (tTest (tIsN i)) t2) (o.elim (pure true) fun a => m2 a) := fun S σ F H p Q g q => by
  refine isN_run nn g hi ?_
  cases o with
  | none => exact q (.bl true) F H (Ext.refl g.sub) g.pl rfl true rfl
  | some a => exact h2 a S σ F H p Q (g.narrow hi hG) q
theorem et_andN {t2 : TT} {m2 : α → PM Bool} (nn : NN r) (hi : nth Γ i = .val (rOpt r) o) (hG : fre c.s.G i = true) (h2 : ∀ a, Et c (put Γ i (.val r a)) t2 (m2 a)) : Et c Γ (tAnd (tTest (tNotN i)) t2) (o.elim (pure false) fun a => m2 a) := fun S σ F H p Q g q => by
  refine notN_run nn g hi ?_
  cases o with
  | none => exact q (.bl false) F H (Ext.refl g.sub) g.pl rfl false rfl
  | some a => exact h2 a S σ F H p Q (g.narrow hi hG) q
theorem ev_orN {tb : TE} {m2 : α → PM Bool} (nn : NN r) (hi : nth Γ i = .val (rOpt r) o) (hG : fre c.s.G i = true) (h2 : ∀ a, Ev c (put Γ i (.val r a)) tb (m2 a) rBool) : Ev c Γ (tOrV (tIsN i) tb) (o.elim (pure true) fun a => m2 a) rBool := fun S σ F H p Q g q => by
  obtain ⟨v, h1, h2'⟩ := g.sl.val hi
  refine ⟨v, h1, rfl, _, rfl, ?_⟩
  cases o with
  | none =>
    rw [show v = .non from h2', if_pos (by simp)]
    exact q.now g.sub g.pl rfl
  | some a =>
    rw [decide_eq_false (nn.ne (show r.rel F v a from h2')), if_neg Bool.false_ne_true]
    exact h2 a S σ F H p Q (g.narrow hi hG) q
theorem ev_andN {tb : TE} {m2 : α → PM Bool} (nn : NN r) (hi : nth Γ i = .val (rOpt r) o) (hG : fre c.s.G i = true) (h2 : ∀ a, Ev c (put Γ i (.val r a)) tb (m2 a) rBool) : Ev c Γ (tAndV (tNotN i) tb) (o.elim (pure false) fun a => m2 a) rBool := fun S σ F H p Q g q => by
  obtain ⟨v, h1, h2'⟩ := g.sl.val hi
  refine ⟨v, h1, rfl, _, rfl, ?_⟩
  cases o with
  | none =>
    rw [show v = .non from h2']
    rw [if_neg (by simp)]
    exact q.now g.sub g.pl rfl
  | some a =>
    rw [decide_eq_false (nn.ne (show r.rel F v a from h2')), if_pos (by simp)]
    exact h2 a S σ F H p Q (g.narrow hi hG) q
/-! ### xs[::-1] -/
theorem en_revL {ta : TE} {m : PM (List α)} (h : Ev c Γ ta m (rList r)) : En c Γ (tRevL c.K ta) (m >>= fun l => pure l.reverse) (oList r) := fun S σ F H p Q g q =>
  h S σ F H p _ g (q.seq fun l p1 v F1 H1 e1 pl1 r1 h1 => by
    obtain ⟨x, vs, rfl, k1, k2, k3⟩ := rList.of r1
    exact ⟨x, vs, rfl, SqL.of ((g.ext e1 pl1).sub _ _ k1), fun y hy => h1.now (g.ext e1 pl1).sub pl1 hy ⟨_, rfl, by rw [List.length_reverse]; exact k2, k3.reverse⟩⟩)
theorem pe_revLK {X : Cx} {K : PySem.W.Frag} {e : Expr} {te : TE} {k : Nat} {p1 p2 p3 pos : Pos} (he : PE X e te) (eK : X.K = K := by rfl) : PE X (.Subscript e (.Slice none none (some (.UnaryOp .USub (.Constant (.int 1) k p1) p2)) p3) pos) (tRevL K te) := eK ▸ pe_revL he
/-- xs[::-1] of an own list -/
theorem en_revO {l : List α} (hx : nth Γ i = .own (oList r) l) : En c Γ (tRevL c.K (tVar i)) (pure l.reverse) (oList r) := fun S σ F H p Q g q => by
  obtain ⟨x, ho, h1, h2, ⟨vs, rfl, k2, k3⟩, hm⟩ := g.sl.own hx
  exact ⟨_, h1, x, vs, rfl, SqL.of h2, fun y hy => q.now g.sub g.pl hy ⟨_, rfl, by rw [List.length_reverse]; exact k2, k3.reverse⟩⟩
/-! ### d.get(k, x) -/
theorem ev_dget2 {ta tb tc : TE} {ma : PM (List (Str × α))} {mb : PM Str} {mc : PM α} (ha : Ev c Γ ta ma (rDic r)) (hb : Ev c Γ tb mb rStr) (hc : Ev c Γ tc mc r) : Ev c Γ (tDGet2 ta tb tc) (ma >>= fun l => mb >>= fun k => mc >>= fun z => pure ((l.lookup k).getD z)) r := fun S σ F H p Q g q =>
  ha S σ F H p _ g (q.seq fun l p1 v F1 H1 e1 pl1 r1 h1 => by
    obtain ⟨a, ho, rfl, k1, ⟨kvs, rfl, _, k3⟩, _⟩ := id r1
    refine ⟨a, rfl, .inl ⟨kvs, .inl ((g.ext e1 pl1).sub _ _ k1)⟩, hb S σ F1 H1 p1 _ (g.ext e1 pl1) (h1.seq fun k p2 w F2 H2 e2 pl2 r2 h2 => hc S σ F2 H2 p2 _ ((g.ext e1 pl1).ext e2 pl2) (h2.seq fun z p3 u F3 H3 e3 pl3 r3 h3 => ?_))⟩
    have hl := dk_lookup (k3.imp fun _ _ z => ⟨z.1, z.2.1, r.mono (e2.sub.trans e3.sub) z.2.2⟩) k
    refine ⟨valV kvs (Sum.inr k), ?_, ?_⟩
    · rw [r2.1]
      exact DGet.k (k := Sum.inr k) ((((g.ext e1 pl1).ext e2 pl2).ext e3 pl3).sub _ _ (e3.sub _ _ (e2.sub _ _ k1)))
    · have gs := (((g.ext e1 pl1).ext e2 pl2).ext e3 pl3).sub
      cases e : l.lookup k with
      | none =>
        rw [e] at h3 hl
        rw [hl]
        exact h3.now gs pl3 r3
      | some x =>
        rw [e] at h3 hl
        obtain ⟨y, hu, ru⟩ := hl
        rw [hu]
        exact h3.now gs pl3 ru)
end
/-! ### f'..' -/
def Ej (c : Cf) (Γ : List Sl) (ts : List TE) (m : Str → PM Str) : Prop :=
  ∀ (acc : Str) (S : Hp × Hp) (σ : St) (F H : Hp) (p : Pool) (Q : V → Hp → Prop), Good S c.q c.s Γ σ F H p → acc.length ≤ sizeLine → Post c σ F H rStr Q (m acc p) → tJs ts acc σ H fun out H1 => Q (.str out) H1
section
variable {c : Cf} {Γ : List Sl} {ts : List TE} {ta : TE}
theorem ej_nil : Ej c Γ [] (fun acc => pure acc) := fun acc S σ F H p Q g hl q => q.now g.sub g.pl ⟨rfl, hl⟩
theorem ej_cons {ma : PM Str} {m : Str → PM Str} (ha : Ev c Γ ta ma rStr) (h : Ej c Γ ts m) : Ej c Γ (ta :: ts) (fun acc => ma >>= fun x => catS acc x >>= fun z => m z) := fun acc S σ F H p Q g hl q =>
  ha S σ F H p _ g (q.seq fun x p1 v F1 H1 e1 pl1 r1 h1 => by
    obtain ⟨rfl, hx⟩ := r1
    unfold catS guardM at h1
    by_cases k : acc.length + x.length ≤ sizeLine
    · rw [if_pos k] at h1
      refine ⟨x, rfl, by rw [length_app]; exact k, h (acc ++ x) S σ F1 H1 p1 Q (g.ext e1 pl1) (by rw [length_app]; exact k) h1⟩
    · rw [if_neg k] at h1
      exact h1.elim)
theorem ev_joined {m : Str → PM Str} (h : Ej c Γ ts m) : Ev c Γ (fun σ H Q => tJs ts Str.empty σ H fun out H1 => Q (.str out) H1) (m Str.empty) rStr := fun S σ F H p Q g q => h Str.empty S σ F H p Q g (Nat.zero_le _) q
theorem ev_fmt {ma : PM Str} (ha : Ev c Γ ta ma rStr) : Ev c Γ (tFmt ta) ma rStr := fun S σ F H p Q g q =>
  ha S σ F H p _ g (by
    have q' : Post c σ F H rStr Q ((ma >>= fun x => pure x) p) := by rw [bind_pure]; exact q
    exact q'.seq fun x p1 v F1 H1 e1 pl1 r1 h1 => .inl ⟨x, r1.1, r1.2, h1.now (g.ext e1 pl1).sub pl1 ⟨rfl, r1.2⟩⟩)
theorem ev_fmtI {ma : PM Int} (ha : Ev c Γ ta ma rInt) : Ev c Γ (tFmt ta) (ma >>= fun i => strM i) rStr := fun S σ F H p Q g q =>
  ha S σ F H p _ g (q.seq fun i p1 v F1 H1 e1 pl1 r1 h1 => by
    unfold strM guardM at h1
    split at h1
    · rename_i k
      exact .inr ⟨i, r1, k.1, h1.now (g.ext e1 pl1).sub pl1 ⟨rfl, k.2⟩⟩
    · exact h1.elim)
end
end Kf
namespace Kf
open PySem PySem.Spec L2
open PyProof.Rows hiding St
section
variable {c : Cf} {Γ : List Sl} {α β γ ρ : Type} {rr : Rr ρ} {r : Rl α} {i : Nat} {o : Option α} {ta tb : TE}
/-- a value that may be None, by cases, ahead of a block -/
theorem el_caseO {t : TS} {m1 : PM ρ} {m2 : α → PM ρ} {fall : Prop} (hi : nth Γ i = .val (rOpt r) o) (hG : fre c.s.G i = true) (h1 : El c rr fall (put Γ i (.val rNone ())) t m1) (h2 : ∀ a, El c rr fall (put Γ i (.val r a)) t (m2 a)) :
    El c rr fall Γ t (o.elim (m1) fun a => m2 a) := fun S σ F H p D g hf q => by
  cases o with
  | none =>
    obtain ⟨v, e1, e2⟩ := g.sl.val hi
    have g2 := g.setv i hG (r := rNone) (a := ()) (show rNone.rel F v () from e2)
    have e : σ.set i (some v) = σ := by
      have hlt := (List.getElem?_eq_some_iff.mp e1).1
      have h3 := (List.getElem?_eq_some_iff.mp e1).2
      conv => rhs; rw [← List.set_getElem_self hlt]
      rw [h3]
    rw [e] at g2
    exact h1 S σ F H p D g2 hf q
  | some a => exact h2 a S σ F H p D (g.narrow hi hG) hf q
theorem et_eq {t : TT} {m m' : PM Bool} (h : Et c Γ t m) (e : m = m') : Et c Γ t m' := e ▸ h
theorem ev_eqm {m m' : PM α} (h : Ev c Γ ta m r) (e : m = m') : Ev c Γ ta m' r := e ▸ h
theorem ev_isNN {m : PM Unit} (h : Ev c Γ ta m rNone) : Ev c Γ (tOp (fun x y H Q => y = .non ∧ Q (.bl (decide (x = .non))) H) ta (tC .non)) (m >>= fun _ => pure true) rBool := fun S σ F H p Q g q =>
  h S σ F H p _ g (q.seq fun a p1 v F1 H1 e1 pl1 r1 h1 => ⟨rfl, by rw [show v = .non from r1]; exact h1.now (g.ext e1 pl1).sub pl1 rfl⟩)
theorem ev_notNN {m : PM Unit} (h : Ev c Γ ta m rNone) : Ev c Γ (tOp (fun x y H Q => y = .non ∧ Q (.bl (!decide (x = .non))) H) ta (tC .non)) (m >>= fun _ => pure false) rBool := fun S σ F H p Q g q =>
  h S σ F H p _ g (q.seq fun a p1 v F1 H1 e1 pl1 r1 h1 => ⟨rfl, by rw [show v = .non from r1]; exact h1.now (g.ext e1 pl1).sub pl1 rfl⟩)
theorem ev_isNS (nn : NN r) {m : PM α} (h : Ev c Γ ta m r) : Ev c Γ (tOp (fun x y H Q => y = .non ∧ Q (.bl (decide (x = .non))) H) ta (tC .non)) (m >>= fun _ => pure false) rBool := fun S σ F H p Q g q =>
  h S σ F H p _ g (q.seq fun a p1 v F1 H1 e1 pl1 r1 h1 => ⟨rfl, by rw [decide_eq_false (nn.ne r1)]; exact h1.now (g.ext e1 pl1).sub pl1 rfl⟩)
theorem ev_notNS (nn : NN r) {m : PM α} (h : Ev c Γ ta m r) : Ev c Γ (tOp (fun x y H Q => y = .non ∧ Q (.bl (!decide (x = .non))) H) ta (tC .non)) (m >>= fun _ => pure true) rBool := fun S σ F H p Q g q =>
  h S σ F H p _ g (q.seq fun a p1 v F1 H1 e1 pl1 r1 h1 => ⟨rfl, by rw [decide_eq_false (nn.ne r1)]; exact h1.now (g.ext e1 pl1).sub pl1 rfl⟩)
/-! tests whose answer is known -/
theorem el_guardT {tt : TT} {t u : TS} {m1 : PM ρ} {fall : Prop} (ht : Et c Γ tt (pure true)) (h1 : El c rr False Γ t m1) : El c rr fall Γ (tSeq (tIfS tt t tNext) u) m1 := fun S σ F H p D g hf q =>
  ht S σ F H p _ g fun v F1 H1 e1 pl1 r1 b eb => by
    have : b = true := by rw [show v = .bl true from r1] at eb; injection eb with z; exact z.symm
    subst this
    exact h1 S σ F1 H1 p _ (g.ext e1 pl1) (fun z => z.elim) q
theorem el_guardF {tt : TT} {t u : TS} {m2 : PM ρ} {fall : Prop} (ht : Et c Γ tt (pure false)) (h2 : El c rr fall Γ u m2) : El c rr fall Γ (tSeq (tIfS tt t tNext) u) m2 := fun S σ F H p D g hf q =>
  ht S σ F H p _ g fun v F1 H1 e1 pl1 r1 b eb => by
    have : b = false := by rw [show v = .bl false from r1] at eb; injection eb with z; exact z.symm
    subst this
    exact h2 S σ F1 H1 p _ (g.ext e1 pl1) hf q
theorem et_orT {t1 t2 : TT} (h : Et c Γ t1 (pure true)) : Et c Γ (tOr t1 t2) (pure true) := fun S σ F H p Q g q => h S σ F H p _ g fun v F1 H1 e1 pl1 r1 b eb => by
  have : b = true := by rw [show v = .bl true from r1] at eb; injection eb with z; exact z.symm
  subst this
  exact q (.bl true) F1 H1 e1 pl1 rfl true rfl
theorem et_andF {t1 t2 : TT} (h : Et c Γ t1 (pure false)) : Et c Γ (tAnd t1 t2) (pure false) := fun S σ F H p Q g q => h S σ F H p _ g fun v F1 H1 e1 pl1 r1 b eb => by
  have : b = false := by rw [show v = .bl false from r1] at eb; injection eb with z; exact z.symm
  subst this
  exact q (.bl false) F1 H1 e1 pl1 rfl false rfl
theorem et_orF {t1 t2 : TT} {m : PM Bool} (h : Et c Γ t1 (pure false)) (h2 : Et c Γ t2 m) : Et c Γ (tOr t1 t2) m := by
  have := et_or h h2
  simp only [pure_bind, Bool.false_eq_true, if_false] at this
  exact this
theorem et_andT {t1 t2 : TT} {m : PM Bool} (h : Et c Γ t1 (pure true)) (h2 : Et c Γ t2 m) : Et c Γ (tAnd t1 t2) m := by
  have := et_and h h2
  simp only [pure_bind, if_true] at this
  exact this
theorem ev_orF {m : PM Bool} (h : Ev c Γ ta (pure false) rBool) (h2 : Ev c Γ tb m rBool) : Ev c Γ (tOrV ta tb) m rBool := by
  have := ev_or h h2
  simp only [pure_bind, Bool.false_eq_true, if_false] at this
  exact this
theorem ev_andT {m : PM Bool} (h : Ev c Γ ta (pure true) rBool) (h2 : Ev c Γ tb m rBool) : Ev c Γ (tAndV ta tb) m rBool := by
  have := ev_and h h2
  simp only [pure_bind, if_true] at this
  exact this
theorem ev_orT (h : Ev c Γ ta (pure true) rBool) : Ev c Γ (tOrV ta tb) (pure true) rBool := fun S σ F H p Q g q => h S σ F H p _ g fun v F1 H1 e1 pl1 r1 => ⟨true, r1, by rw [if_pos rfl]; exact q (.bl true) F1 H1 e1 pl1 rfl⟩
theorem ev_andF (h : Ev c Γ ta (pure false) rBool) : Ev c Γ (tAndV ta tb) (pure false) rBool := fun S σ F H p Q g q => h S σ F H p _ g fun v F1 H1 e1 pl1 r1 => ⟨false, r1, by rw [if_neg Bool.false_ne_true]; exact q (.bl false) F1 H1 e1 pl1 rfl⟩
end
end Kf

set_option maxHeartbeats 4000000
namespace Kf
open PySem PySem.Spec L2
open PyProof.Rows hiding St
/-! ### lists within a list that stands still: the inner ones are own -/
/-- one of these objects -/
def rNth (ps : List Addr) : Rl Nat := ⟨fun _ v k => ∃ a, ps[k]? = some a ∧ v = .ref a, fun _ h => h⟩
def inn {α : Type} (r : Ro α) (F H : Hp) (ps : List Addr) (l : List α) : Prop := All2 (fun a x => ∃ ho, H a = some ho ∧ r.rel F ho x) ps l
theorem inn.ext {α : Type} {r : Ro α} {F H F' H' : Hp} (s : Same F F') : ∀ {ps : List Addr} {l : List α}, (∀ a ∈ ps, ∀ x, H a = some x → H' a = some x) → inn r F H ps l → inn r F' H' ps l
  | _, _, _, .nil => .nil
  | _, _, k, .cons ⟨ho, h1, h2⟩ t => .cons ⟨ho, k _ List.mem_cons_self _ h1, r.mono s h2⟩ (inn.ext s (fun a ha => k a (List.mem_cons_of_mem _ ha)) t)
theorem inn.at {α : Type} {r : Ro α} {F H : Hp} : ∀ {ps : List Addr} {l : List α}, inn r F H ps l → ∀ a ∈ ps, ∃ x, H a = some x
  | _, _, .cons ⟨ho, h1, _⟩ t, a, ha => by
    rcases List.mem_cons.mp ha with e | e
    · exact ⟨ho, by rw [e]; exact h1⟩
    · exact inn.at t a e
  | _, _, .nil, a, ha => nomatch ha
def nst {α : Type} (r : Ro α) (ps : List Addr) (l : List α) : Rs where
  A := ps
  ok := fun F H o => (∃ pa, o = some (.ref pa) ∧ F pa = some (.lst (ps.map V.ref))) ∧ ps.length ≤ sizeLine ∧ inn r F H ps l
  ext := fun s k h => by
    obtain ⟨⟨pa, e, h1⟩, h2, h3⟩ := h
    exact ⟨⟨pa, e, s _ _ h1⟩, h2, h3.ext s k⟩
  at' := fun h => h.2.2.at
theorem nth_lt : ∀ {Γ : List Sl} {i : Nat}, nth Γ i ≠ .any → i < Γ.length
  | [], i, h => absurd (by cases i <;> rfl) h
  | _ :: _, 0, _ => by simp
  | _ :: Γ, i + 1, h => by simpa using nth_lt (Γ := Γ) (i := i) h
theorem own_memR : ∀ {Γ : List Sl} {σ : St} {i : Nat} {R : Rs}, nth Γ i = .res R → i < σ.length → ∀ a ∈ R.A, a ∈ ownA Γ σ
  | s :: Γ, o :: σ, 0, R, h1, _, a, ha => by
    have e : s = .res R := h1
    subst e
    exact List.mem_append_left _ ha
  | s :: Γ, o :: σ, i + 1, R, h1, h2, a, ha => by
    have ih := own_memR (Γ := Γ) (σ := σ) (i := i) (R := R) h1 (by simpa using h2) a ha
    cases s with
    | any => exact ih
    | val _ _ => exact ih
    | res R => exact List.mem_append_right _ ih
    | own _ _ =>
      cases o with
      | none => exact ih
      | some v => cases v with
        | ref q => exact List.mem_cons_of_mem _ ih
        | _ => exact ih
  | [], _, i, _, h1, _, _, _ => by cases i <;> cases h1
  | _ :: _, [], i, _, _, h2, _, _ => by simp at h2
theorem SlsOk.res {F H : Hp} {Γ : List Sl} {σ : St} {i : Nat} {R : Rs} (h : SlsOk F H Γ σ) (e : nth Γ i = .res R) : ∃ o, σ[i]? = some o ∧ R.ok F H o ∧ ∀ a ∈ R.A, a ∈ ownA Γ σ := by
  obtain ⟨o, h1, h2⟩ := h.at (i := i) (by rw [e]; intro z; cases z)
  rw [e] at h2
  exact ⟨o, h1, h2, own_memR e (List.getElem?_eq_some_iff.mp h1).1⟩
theorem own_put_res : ∀ {Γ : List Sl} {σ : St} {i : Nat} {o : Option V} {R : Rs}, R.A.Nodup → (∀ a ∈ R.A, a ∉ ownA Γ σ) → (ownA Γ σ).Nodup →
    (ownA (put Γ i (.res R)) (σ.set i o)).Nodup ∧ ∀ x ∈ ownA (put Γ i (.res R)) (σ.set i o), x ∈ R.A ∨ x ∈ ownA Γ σ
  | [], σ, i, o, R, _, _, h => by cases i <;> cases σ <;> exact ⟨h, fun x hx => nomatch hx⟩
  | s :: Γ, [], i, o, R, _, _, h => by cases i <;> cases s <;> exact ⟨h, fun x hx => nomatch hx⟩
  | s :: Γ, y :: σ, 0, o, R, hR, hp, h => by
    have sub : (ownA Γ σ).Sublist (ownA (s :: Γ) (y :: σ)) := by
      cases s with
      | any => exact List.Sublist.refl _
      | val _ _ => exact List.Sublist.refl _
      | res R => exact List.sublist_append_right _ _
      | own _ _ =>
        cases y with
        | none => exact List.Sublist.refl _
        | some v => cases v with
          | ref q => exact List.sublist_cons_self _ _
          | _ => exact List.Sublist.refl _
    exact ⟨List.nodup_append.mpr ⟨hR, h.sublist sub, fun x hx z hz e => hp x hx (by rw [e]; exact sub.subset hz)⟩, fun x hx => (List.mem_append.mp hx).imp id fun z => sub.subset z⟩
  | s :: Γ, y :: σ, i + 1, o, R, hR, hp, h => by
    cases s with
    | any => exact own_put_res (Γ := Γ) (σ := σ) (i := i) hR hp h
    | val _ _ => exact own_put_res (Γ := Γ) (σ := σ) (i := i) hR hp h
    | res R2 =>
      have hp' : ∀ a ∈ R.A, a ∉ R2.A ++ ownA Γ σ := hp
      have h' : (R2.A ++ ownA Γ σ).Nodup := h
      obtain ⟨n0, n2, n3⟩ := List.nodup_append.mp h'
      obtain ⟨k1, k2⟩ := own_put_res (Γ := Γ) (σ := σ) (i := i) (o := o) hR (fun a ha z => hp' a ha (List.mem_append_right _ z)) n2
      refine ⟨List.nodup_append.mpr ⟨n0, k1, fun x hx y hy e => ?_⟩, fun x hx => ?_⟩
      · subst e
        rcases k2 x hy with e | e
        · exact hp' x e (List.mem_append_left _ hx)
        · exact n3 x hx x e rfl
      · rcases List.mem_append.mp hx with e | e
        · exact .inr (List.mem_append_left _ e)
        · exact (k2 x e).imp id fun z => List.mem_append_right _ z
    | own r' a' =>
      cases y with
      | none => exact own_put_res (Γ := Γ) (σ := σ) (i := i) hR hp h
      | some v => cases v with
        | ref q =>
          have hp' : ∀ a ∈ R.A, a ∉ q :: ownA Γ σ := hp
          have h' : (q :: ownA Γ σ).Nodup := h
          obtain ⟨n1, n2⟩ := List.nodup_cons.mp h'
          obtain ⟨k1, k2⟩ := own_put_res (Γ := Γ) (σ := σ) (i := i) (o := o) hR (fun a ha z => hp' a ha (List.mem_cons_of_mem _ z)) n2
          refine ⟨List.nodup_cons.mpr ⟨fun z => ?_, k1⟩, fun x hx => ?_⟩
          · rcases k2 q z with e | e
            · exact hp' q e List.mem_cons_self
            · exact n1 e
          · rcases List.mem_cons.mp hx with e | e
            · exact .inr (by rw [e]; exact List.mem_cons_self)
            · exact (k2 x e).imp id fun z => List.mem_cons_of_mem _ z
        | _ => exact own_put_res (Γ := Γ) (σ := σ) (i := i) hR hp h
theorem sls_updR {F H : Hp} {x : Addr} {ho' : HO} {R R' : Rs} (hA : R'.A = R.A) (hx : x ∈ R.A) (hok : ∀ o, R.ok F H o → R'.ok F (upd H x ho') o) : ∀ {Γ : List Sl} {σ : St} {i : Nat}, SlsOk F H Γ σ → (ownA Γ σ).Nodup → nth Γ i = .res R →
    SlsOk F (upd H x ho') (put Γ i (.res R')) σ ∧ ownA (put Γ i (.res R')) σ = ownA Γ σ
  | _, _, i, .nil, _, h => by cases i <;> cases h
  | s :: Γ, o :: σ, 0, .cons h t, nd, e => by
    have e3 : s = .res R := e
    subst e3
    have nd' : (R.A ++ ownA Γ σ).Nodup := nd
    refine ⟨.cons (hok _ h) (t.ext (Same.refl _) fun b hb o ho => ?_), congrArg (· ++ ownA Γ σ) hA⟩
    rw [upd_ne (fun z => (List.nodup_append.mp nd').2.2 x hx b hb z.symm)]
    exact ho
  | s :: Γ, o :: σ, i + 1, .cons h t, nd, e => by
    have hi : i < σ.length := by
      rw [t.len]
      exact nth_lt (by rw [show nth Γ i = .res R from e]; intro z; cases z)
    have hm := own_memR (Γ := Γ) (σ := σ) (i := i) (R := R) e hi x hx
    have ih := fun n => sls_updR (Γ := Γ) (σ := σ) (i := i) hA hx hok t n e
    cases s with
    | any => exact ⟨.cons trivial (ih nd).1, (ih nd).2⟩
    | val _ _ => exact ⟨.cons h (ih nd).1, (ih nd).2⟩
    | res R2 =>
      have nd' : (R2.A ++ ownA Γ σ).Nodup := nd
      obtain ⟨n0, n2, n3⟩ := List.nodup_append.mp nd'
      refine ⟨.cons (R2.ext (Same.refl _) (fun b hb o ho => ?_) h) (ih n2).1, congrArg (R2.A ++ ·) (ih n2).2⟩
      rw [upd_ne (fun z => n3 b hb x hm z)]
      exact ho
    | own r2 a2 =>
      obtain ⟨y, hy, rfl, k1, k2⟩ := h
      have nd' : (y :: ownA Γ σ).Nodup := nd
      obtain ⟨n1, n2⟩ := List.nodup_cons.mp nd'
      refine ⟨.cons ⟨y, hy, rfl, ?_, k2⟩ (ih n2).1, congrArg (y :: ·) (ih n2).2⟩
      rw [upd_ne (fun z => n1 (by rw [z]; exact hm))]
      exact k1
theorem own_put_valR : ∀ {Γ : List Sl} {σ : St} {i : Nat} {α : Type} {r : Rl α} {a : α} {R : Rs}, (ownA Γ σ).Nodup → nth Γ i = .res R → i < σ.length → (ownA (put Γ i (.val r a)) σ).Sublist (ownA Γ σ) ∧ ∀ x ∈ R.A, x ∉ ownA (put Γ i (.val r a)) σ
  | [], _, i, _, _, _, _, _, h, _ => by cases i <;> cases h
  | _ :: _, [], i, _, _, _, _, _, _, h => by simp at h
  | s :: Γ, o :: σ, 0, α, r, a, R, nd, e, _ => by
    have e3 : s = .res R := e
    subst e3
    exact ⟨List.sublist_append_right _ _, fun x hx z => (List.nodup_append.mp (show (R.A ++ ownA Γ σ).Nodup from nd)).2.2 x hx x z rfl⟩
  | s :: Γ, o :: σ, i + 1, α, r, a, R, nd, e, hi => by
    have hi' : i < σ.length := by simpa using hi
    have hm := own_memR (Γ := Γ) (σ := σ) (i := i) (R := R) e hi'
    have ih := fun n => own_put_valR (Γ := Γ) (σ := σ) (i := i) (r := r) (a := a) (R := R) n e hi'
    cases s with
    | any => exact ih nd
    | val _ _ => exact ih nd
    | res R2 =>
      have nd' : (R2.A ++ ownA Γ σ).Nodup := nd
      obtain ⟨n0, n2, n3⟩ := List.nodup_append.mp nd'
      obtain ⟨k1, k2⟩ := ih n2
      exact ⟨k1.append_left _, fun x hx z => (List.mem_append.mp z).elim (fun e => n3 x e x (hm x hx) rfl) (k2 x hx)⟩
    | own r2 a2 =>
      cases o with
      | none => exact ih nd
      | some v => cases v with
        | ref y =>
          have nd' : (y :: ownA Γ σ).Nodup := nd
          obtain ⟨n1, n2⟩ := List.nodup_cons.mp nd'
          obtain ⟨k1, k2⟩ := ih n2
          exact ⟨k1.cons_cons _, fun x hx z => (List.mem_cons.mp z).elim (fun e => n1 (by rw [← e]; exact hm x hx)) (k2 x hx)⟩
        | _ => exact ih nd
theorem SlsOk.putV {F F' H : Hp} (s : Same F F') {s' : Sl} : ∀ {Γ : List Sl} {σ : St} {i : Nat}, SlsOk F H Γ σ → (∀ o, σ[i]? = some o → SlOk F' H s' o) → SlsOk F' H (put Γ i s') σ
  | _, _, i, .nil, _ => by cases i <;> exact .nil
  | x :: Γ, o :: σ, 0, .cons h t, k => .cons (k o rfl) (t.ext s fun _ _ _ h => h)
  | x :: Γ, o :: σ, i + 1, .cons h t, k => by
    refine .cons ?_ (SlsOk.putV s t fun o ho => k o (by simpa using ho))
    cases x with
    | any => trivial
    | val r' a' => obtain ⟨v, e, h⟩ := h; exact ⟨v, e, r'.mono s h⟩
    | res R => exact R.ext s (fun _ _ _ h => h) h
    | own r' a' => obtain ⟨y, hy, e, h1, h2⟩ := h; exact ⟨y, hy, e, h1, r'.mono s h2⟩
section
variable {S : Hp × Hp} {q : Option Addr} {sc : SG} {Γ : List Sl} {σ : St} {F H : Hp} {p : Pool} {α β : Type}
/-- a slot gets a list of new objects -/
theorem Good.setr (g : Good S q sc Γ σ F H p) (i : Nat) (hG : fre sc.G i = true) {R : Rs} {v : V} (hok : R.ok F H (some v)) (nd : R.A.Nodup) (hF : ∀ a ∈ R.A, F a = none) (hS : ∀ a ∈ R.A, S.2 a = none) (hq : ∀ a ∈ R.A, q ≠ some a) (hx : ∀ a ∈ R.A, a ∉ ownA Γ σ) :
    Good S q sc (put Γ i (.res R)) (σ.set i (some v)) F H p := by
  obtain ⟨n1, n2⟩ := own_put_res (Γ := Γ) (σ := σ) (i := i) (o := some v) nd hx g.nd
  refine ⟨g.sub, SlsOk.putS (s := .res R) (o := some v) hok i g.sl, n1, fun b hb => ?_, fun b hb => ?_, fun b hb => ?_, g.ent, g.pl, g.gx.set hG, g.ln⟩
  · exact (n2 b hb).elim (hF b) (g.of b)
  · exact (n2 b hb).elim (hq b) (g.oq b)
  · exact (n2 b hb).elim (hS b) (g.os b)
/-- one of the inner objects is changed -/
theorem Good.updr (g : Good S q sc Γ σ F H p) {i : Nat} {R R' : Rs} {x : Addr} {ho' : HO} (e : nth Γ i = .res R) (hA : R'.A = R.A) (hx : x ∈ R.A) (hok : ∀ o, R.ok F H o → R'.ok F (upd H x ho') o) : Good S q sc (put Γ i (.res R')) σ F (L2.upd H x ho') p := by
  obtain ⟨o, h1, h2, h3⟩ := g.sl.res e
  have hm := h3 x hx
  obtain ⟨k1, k2⟩ := sls_updR (ho' := ho') hA hx hok g.sl g.nd e
  have nF := g.of x hm
  have nS := g.os x hm
  have nq := g.oq x hm
  have sF : Same F (L2.upd H x ho') := fun b o h => by
    rw [upd_ne (fun z => by rw [z, nF] at h; cases h)]
    exact g.sub b o h
  refine ⟨sF, k1, by rw [k2]; exact g.nd, by rw [k2]; exact g.of, by rw [k2]; exact g.oq, by rw [k2]; exact g.os, ⟨g.ent.sub, sF, fun b o h n => ?_, g.ent.new⟩, ?_, g.gx, g.ln⟩
  · rw [upd_ne (fun z => by rw [z, nS] at h; cases h)]
    exact g.ent.keep b o h n
  · have pl := g.pl
    cases q with
    | none => trivial
    | some y =>
      obtain ⟨h1, h2, h3⟩ := pl
      exact ⟨h1, by rw [upd_ne (fun z => nq (by rw [z]))]; exact h2, h3⟩
theorem inn.upd {r : Ro α} {x : Addr} {ho' : HO} {y : α} (hr : r.rel F ho' y) : ∀ {ps : List Addr} {l : List α} {k : Nat}, inn r F H ps l → ps.Nodup → ps[k]? = some x → inn r F (L2.upd H x ho') ps (l.set k y)
  | _, _, k, .nil, _, h => by simp at h
  | a :: ps, b :: l, 0, .cons ⟨ho, h1, h2⟩ t, nd, e => by
    have e : a = x := by simpa using e
    subst e
    refine .cons ⟨ho', upd_same, hr⟩ (inn.ext (Same.refl _) (fun b hb o ho => ?_) t)
    rw [upd_ne (fun z => (List.nodup_cons.mp nd).1 (by rw [← z]; exact hb))]
    exact ho
  | a :: ps, b :: l, k + 1, .cons ⟨ho, h1, h2⟩ t, nd, e => by
    have e : ps[k]? = some x := by simpa using e
    refine .cons ⟨ho, ?_, h2⟩ (inn.upd hr t (List.nodup_cons.mp nd).2 e)
    rw [upd_ne (fun z => (List.nodup_cons.mp nd).1 (by rw [z]; exact List.mem_of_getElem? e))]
    exact h1
theorem inn.get {r : Ro α} {ps : List Addr} {l : List α} {k : Nat} {a : Addr} (h : inn r F H ps l) (e : ps[k]? = some a) : ∃ x, l[k]? = some x ∧ ∃ ho, H a = some ho ∧ r.rel F ho x := All2.get' h e
/-- the inner object at hand -/
theorem Good.atn (g : Good S q sc Γ σ F H p) {i : Nat} {r : Ro α} {ps : List Addr} {l : List α} {k : Nat} {a : Addr} (e : nth Γ i = .res (nst r ps l)) (hk : ps[k]? = some a) :
    ∃ x ho, l[k]? = some x ∧ H a = some ho ∧ r.rel F ho x ∧ q ≠ some a ∧ ∀ ho' y, r.rel F ho' y → Good S q sc (put Γ i (.res (nst r ps (l.set k y)))) σ F (L2.upd H a ho') p := by
  obtain ⟨o, h1, h2, h3⟩ := g.sl.res e
  obtain ⟨⟨pa, e1, e2⟩, h4, h5⟩ := h2
  obtain ⟨x, k1, ho, k2, k3⟩ := h5.get hk
  have ha : a ∈ (nst r ps l).A := List.mem_of_getElem? hk
  refine ⟨x, ho, k1, k2, k3, g.oq a (h3 a ha), fun ho' y hy => g.updr e rfl ha fun o ⟨⟨pb, z1, z2⟩, z3, z4⟩ => ⟨⟨pb, z1, z2⟩, z3, z4.upd hy ?_ hk⟩⟩
  have : (ownA Γ σ).Nodup := g.nd
  have key : ∀ {Γ : List Sl} {σ : St} {i : Nat}, (ownA Γ σ).Nodup → nth Γ i = .res (nst r ps l) → i < σ.length → ps.Nodup := by
    intro Γ
    induction Γ with
    | nil => intro σ i _ h; cases i <;> cases h
    | cons s Γ ih =>
      intro σ i nd h hi
      cases σ with
      | nil => simp at hi
      | cons o σ =>
        cases i with
        | zero =>
          have e3 : s = .res (nst r ps l) := h
          subst e3
          exact (List.nodup_append.mp (show (ps ++ ownA Γ σ).Nodup from nd)).1
        | succ i =>
          refine ih (σ := σ) (i := i) ?_ h (by simpa using hi)
          cases s with
          | any => exact nd
          | val _ _ => exact nd
          | res R => exact (List.nodup_append.mp (show (R.A ++ ownA Γ σ).Nodup from nd)).2.1
          | own _ _ =>
            cases o with
            | none => exact nd
            | some v => cases v with
              | ref y => exact (List.nodup_cons.mp (show (y :: ownA Γ σ).Nodup from nd)).2
              | _ => exact nd
  exact key g.nd e (List.getElem?_eq_some_iff.mp h1).1
/-- the inner lists stand still from here on -/
theorem inn.fz {r : Ro α} : ∀ {ps : List Addr} {l : List α}, inn r F H ps l → ∀ F', Same F F' → (∀ a ∈ ps, F' a = H a) → All2 ((Kf.fz r).rel F') (ps.map V.ref) l
  | _, _, .nil, _, _, _ => .nil
  | a :: ps, _, .cons ⟨ho, h1, h2⟩ t, F', s, k => .cons ⟨a, ho, rfl, by rw [k a List.mem_cons_self]; exact h1, r.mono s h2⟩ (inn.fz t F' s fun b hb => k b (List.mem_cons_of_mem _ hb))
theorem Good.fzr (g : Good S q sc Γ σ F H p) {i : Nat} {r : Ro α} {ps : List Addr} {l : List α} (e : nth Γ i = .res (nst r ps l)) : ∃ F', Same F F' ∧ Good S q sc (put Γ i (.val (rList (Kf.fz r)) l)) σ F' H p := by
  classical
  obtain ⟨o, h1, h2, h3⟩ := g.sl.res e
  obtain ⟨⟨pa, e1, e2⟩, h4, h5⟩ := h2
  have hA : ∀ a ∈ ps, a ∈ ownA Γ σ := h3
  have nF : ∀ a ∈ ps, F a = none := fun a ha => g.of a (hA a ha)
  let F' : Hp := fun b => if b ∈ ps then H b else F b
  have s : Same F F' := fun b o z => by
    show (if b ∈ ps then H b else F b) = some o
    rw [if_neg fun w => by rw [nF b w] at z; cases z]; exact z
  have kk : ∀ a ∈ ps, F' a = H a := fun a ha => if_pos ha
  have s2 : Same F' H := fun b o z => by
    have z' : (if b ∈ ps then H b else F b) = some o := z
    by_cases hb : b ∈ ps
    · rw [if_pos hb] at z'; exact z'
    · rw [if_neg hb] at z'; exact g.sub _ _ z'
  obtain ⟨o1, o2⟩ := own_put_valR (r := rList (Kf.fz r)) (a := l) g.nd e (List.getElem?_eq_some_iff.mp h1).1
  refine ⟨F', s, ⟨s2, g.sl.putV s fun o ho => ?_, g.nd.sublist o1, fun b hb => ?_, fun b hb => g.oq b (o1.subset hb), fun b hb => g.os b (o1.subset hb), ⟨g.ent.sub.trans s, s2, g.ent.keep, fun b o z => ?_⟩, ?_, g.gx.mono s, g.ln⟩⟩
  · rw [h1] at ho
    obtain rfl := Option.some.inj ho
    subst e1
    exact ⟨_, rfl, rList.mk (s _ _ e2) (by rw [List.length_map]; exact h4) (h5.fz F' s kk)⟩
  · exact (if_neg (show ¬ b ∈ ps from fun w => o2 b w hb)).trans <| by exact g.of b (o1.subset hb)
  · have z' : (if b ∈ ps then H b else F b) = some o := z
    by_cases hb : b ∈ ps
    · exact .inr (g.os b (hA b hb))
    · rw [if_neg hb] at z'; exact g.ent.new b o z'
  · have pl := g.pl
    cases q with
    | none => trivial
    | some y =>
      obtain ⟨k1, k2, k3, k4⟩ := pl
      have ny : y ∉ ps := fun w => g.oq y (hA y w) rfl
      exact ⟨by show (if y ∈ ps then H y else F y) = none; rw [if_neg ny]; exact k1, k2, s _ _ k3, k4⟩
end
/-! ### such a list is made -/
structure Inn {α : Type} (q : Option Addr) (H0 F H : Hp) (r : Ro α) (ps : List Addr) (l : List α) : Prop where
  nd : ps.Nodup
  h0 : ∀ a ∈ ps, H0 a = none
  hf : ∀ a ∈ ps, F a = none
  hq : ∀ a ∈ ps, q ≠ some a
  al : inn r F H ps l
theorem Inn.nil {α : Type} {q : Option Addr} {H0 F H : Hp} {r : Ro α} : Inn q H0 F H r [] [] := ⟨List.nodup_nil, fun _ h => (nomatch h), fun _ h => (nomatch h), fun _ h => (nomatch h), .nil⟩
theorem Inn.ext {α : Type} {q : Option Addr} {H0 F H F' H' : Hp} {r : Ro α} {ps : List Addr} {l : List α} (h : Inn q H0 F H r ps l) (e : Ext q F H F' H') : Inn q H0 F' H' r ps l where
  nd := h.nd
  h0 := h.h0
  hf := fun a ha => by
    cases z : F' a with
    | none => rfl
    | some o =>
      obtain ⟨x, hx⟩ := h.al.at a ha
      rcases e.new a o z with y | y
      · rw [h.hf a ha] at y; cases y
      · rw [hx] at y; cases y
  hq := h.hq
  al := h.al.ext e.sub fun a ha x hx => e.keep a x hx (h.hq a ha)
theorem Inn.snoc {α : Type} {q : Option Addr} {H0 F H : Hp} {r : Ro α} {ps : List Addr} {l : List α} {p : Addr} {ho : HO} {a : α} (h : Inn q H0 F H r ps l) (h0 : H0 p = none) (hf : F p = none) (hq : q ≠ some p) (hp : p ∉ ps) (hh : H p = some ho) (hr : r.rel F ho a) : Inn q H0 F H r (ps ++ [p]) (l ++ [a]) where
  nd := List.nodup_append.mpr ⟨h.nd, List.nodup_cons.mpr ⟨List.not_mem_nil, List.nodup_nil⟩, fun x hx y hy e => hp (by rw [List.mem_singleton.mp hy] at e; rw [← e]; exact hx)⟩
  h0 := fun b hb => (List.mem_append.mp hb).elim (h.h0 b) fun z => by rw [List.mem_singleton.mp z]; exact h0
  hf := fun b hb => (List.mem_append.mp hb).elim (h.hf b) fun z => by rw [List.mem_singleton.mp z]; exact hf
  hq := fun b hb => (List.mem_append.mp hb).elim (h.hq b) fun z => by rw [List.mem_singleton.mp z]; exact hq
  al := All2.append h.al (.cons ⟨ho, hh, hr⟩ .nil)
theorem Inn.cons {α : Type} {q : Option Addr} {H0 F H : Hp} {r : Ro α} {ps : List Addr} {l : List α} {p : Addr} {ho : HO} {a : α} (h : Inn q H0 F H r ps l) (h0 : H0 p = none) (hf : F p = none) (hq : q ≠ some p) (hp : p ∉ ps) (hh : H p = some ho) (hr : r.rel F ho a) : Inn q H0 F H r (p :: ps) (a :: l) where
  nd := List.nodup_cons.mpr ⟨hp, h.nd⟩
  h0 := fun b hb => (List.mem_cons.mp hb).elim (fun z => by rw [z]; exact h0) (h.h0 b)
  hf := fun b hb => (List.mem_cons.mp hb).elim (fun z => by rw [z]; exact hf) (h.hf b)
  hq := fun b hb => (List.mem_cons.mp hb).elim (fun z => by rw [z]; exact hq) (h.hq b)
  al := .cons ⟨ho, hh, hr⟩ h.al
theorem noX_ok {α : Type} {m : PM α} {p p' : Pool} {a : α} (h : noX m p = (.ok a, p')) : m p = (.ok a, p') := by
  unfold noX at h
  rcases e : m p with ⟨er | b, p2⟩
  · rw [e] at h; cases er <;> cases h
  · rw [e] at h; exact h
def PostM {α : Type} (c : Cf) (σ : St) (F H : Hp) (r : Ro α) (Q : VK) : Except Er (List α) × Pool → Prop
  | (.ok l, p') => ∀ pa ps F' H', Ext c.q F H F' H' → PoolOk c.q c.s F' H' p' → F' pa = some (.lst (ps.map V.ref)) → ps.length ≤ sizeLine → Inn c.q H F' H' r ps l → Q (.ref pa) H'
  | (.error (.exc e), p') => ∀ cls d F' H', Ext c.q F H F' H' → PoolOk c.q c.s F' H' p' → ExR c.K F' e cls d → c.W cls d σ H'
  | (.error .stuck, _) => False
def Em {α : Type} (c : Cf) (Γ : List Sl) (t : TE) (m : PM (List α)) (r : Ro α) : Prop :=
  ∀ (S : Hp × Hp) (σ : St) (F H : Hp) (p : Pool) (Q : VK), Good S c.q c.s Γ σ F H p → PostM c σ F H r Q (m p) → t σ H Q
/-- the outer one, made at last -/
theorem PostM.now {α : Type} {c : Cf} {σ : St} {F H F' H' : Hp} {p : Pool} {r : Ro α} {Q : VK} {l : List α} {ps : List Addr} {D : Addr} (h : PostM c σ F H r Q (.ok l, p)) (e : Ext c.q F H F' H') (pl : PoolOk c.q c.s F' H' p) (nH : H D = none) (nF : F' D = none) (hD : H' D = some (.lst (ps.map V.ref))) (hq : c.q ≠ some D) (hl : ps.length ≤ sizeLine) (hi : Inn c.q H F' H' r ps l) (hn : D ∉ ps) : Q (.ref D) H' := by
  refine h D ps (upd F' D (.lst (ps.map V.ref))) H' ⟨e.sub.trans (same_upd nF), fun b o z => ?_, e.keep, fun b o z => ?_⟩ ?_ upd_same hl ⟨hi.nd, hi.h0, fun a ha => ?_, hi.hq, hi.al.ext (same_upd nF) fun _ _ _ h => h⟩
  · by_cases hb : b = D
    · subst hb; rw [upd_same] at z; rw [← z]; exact hD
    · rw [upd_ne hb] at z; exact e.sub' b o z
  · by_cases hb : b = D
    · subst hb; exact .inr nH
    · rw [upd_ne hb] at z; exact e.new b o z
  · cases cq : c.q with
    | none => trivial
    | some a0 =>
      rw [cq] at pl
      obtain ⟨h1, h2, h3⟩ := pl
      have ne : a0 ≠ D := fun z => hq (by rw [cq, z])
      exact ⟨by rw [upd_ne ne]; exact h1, h2, same_upd nF _ _ h3.1, h3.2⟩
  · rw [upd_ne (fun z => hn (by rw [← z]; exact ha))]
    exact hi.hf a ha
/-- a display of new objects -/
def PostMA {α : Type} (c : Cf) (σ : St) (F H : Hp) (r : Ro α) (n : Nat) (Q : List V → Hp → Prop) : Except Er (List α) × Pool → Prop
  | (.ok l, p') => ∀ ps F' H', Ext c.q F H F' H' → PoolOk c.q c.s F' H' p' → ps.length = n → Inn c.q H F' H' r ps l → Q (ps.map V.ref) H'
  | (.error (.exc e), p') => ∀ cls d F' H', Ext c.q F H F' H' → PoolOk c.q c.s F' H' p' → ExR c.K F' e cls d → c.W cls d σ H'
  | (.error .stuck, _) => False
def Ema {α : Type} (c : Cf) (Γ : List Sl) (t : TA) (m : PM (List α)) (n : Nat) (r : Ro α) : Prop :=
  ∀ (S : Hp × Hp) (σ : St) (F H : Hp) (p : Pool) (Q : List V → Hp → Prop), Good S c.q c.s Γ σ F H p → PostMA c σ F H r n Q (m p) → t σ H Q
section
variable {c : Cf} {Γ : List Sl} {ta tb tc : TE} {α β ρ : Type} {rr : Rr ρ}
theorem em_nil {r : Ro α} : Ema c Γ tNil (pure []) 0 r := fun S σ F H p Q g q => q [] F H (Ext.refl g.sub) g.pl rfl Inn.nil
theorem em_cons {r : Ro α} {n : Nat} {t : TA} {ma : PM α} {mr : PM (List α)} (ha : En c Γ ta ma r) (hr : Ema c Γ t mr n r) : Ema c Γ (tCons ta t) (ma >>= fun a => mr >>= fun as => pure (a :: as)) (n + 1) r := fun S σ F H p Q g q =>
  ha S σ F H p _ g (by
    rw [run_bind] at q
    rcases e : ma p with ⟨er | a, p1⟩
    · rw [e] at q; cases er <;> exact q
    · rw [e] at q
      intro x ho F1 H1 e1 pl1 hn hf hh hq rel
      refine hr S σ F1 H1 p1 _ (g.ext e1 pl1) ?_
      have q : PostMA c σ F H r (n + 1) Q ((mr >>= fun as => pure (a :: as)) p1) := q
      rw [run_bind] at q
      rcases e2 : mr p1 with ⟨er | as, p2⟩
      · rw [e2] at q
        cases er with
        | stuck => exact q
        | exc ex => exact fun cls d F' H' e' pl k => q cls d F' H' (e1.tr e' pl1) pl k
      · rw [e2] at q
        intro ps F2 H2 e3 pl2 hl hi
        have h0 : ∀ a ∈ ps, H a = none := fun b hb => by
          cases z : H b with
          | none => rfl
          | some o =>
            have := hi.h0 b hb
            rw [e1.keep b o z (hi.hq b hb)] at this
            cases this
        have hp : x ∉ ps := fun w => by rw [hi.h0 x w] at hh; cases hh
        have hx2 : H2 x = some ho := e3.keep x ho hh hq
        have hf2 : F2 x = none := by
          cases z : F2 x with
          | none => rfl
          | some o =>
            rcases e3.new x o z with y | y
            · rw [hf] at y; cases y
            · rw [hh] at y; cases y
        exact q (x :: ps) F2 H2 (e1.tr e3 pl1) pl2 (by simp [hl]) (Inn.cons ⟨hi.nd, h0, hi.hf, hi.hq, hi.al⟩ hn hf2 hq hp hx2 (r.mono e3.sub rel)))
theorem em_lst {r : Ro α} {n : Nat} {t : TA} {m : PM (List α)} (h : Ema c Γ t m n r) (hn : n ≤ sizeLine := by decide) : Em c Γ (tLst t) m r := fun S σ F H p Q g q =>
  h S σ F H p _ g (by
    rcases e : m p with ⟨er | l, p1⟩
    · rw [e] at q; cases er <;> exact q
    · rw [e] at q
      intro ps F1 H1 e1 pl1 hl hi
      refine ⟨by rw [List.length_map, hl]; exact hn, fun D nD => ?_⟩
      have qD : c.q ≠ some D := fun z => pl1.there D z nD
      have nF : F1 D = none := Same.none e1.sub' nD
      have nH : H D = none := by
        cases z : H D with
        | none => rfl
        | some o => rw [e1.keep D o z qD] at nD; cases nD
      have e2 : Ext c.q F1 H1 F1 (upd H1 D (.lst (ps.map V.ref))) := Ext.loose e1.sub' nD
      exact q.now (e1.tr e2 pl1) (pl1.up (Ext.loose e1.sub' nD)) nH nF upd_same qD (by omega) (hi.ext e2) fun w => by
        obtain ⟨x, hx⟩ := hi.al.at D w
        rw [nD] at hx; cases hx)
/-- a comprehension whose items are new objects -/
theorem em_lc {w : TI} {g : TG} {te : TE} {vs ws : List Nat} {ru : Rl α} {r : Ro β} {mi : PM (List α)} {e : α → PM β} {Γt : α → List Sl} (hi : Ei c Γ w mi ru) (hg : Eg c.nox (wipeΓ Γ vs) g ru Γt ws) (hw : ∀ i ∈ ws, i ∈ vs)
    (he : ∀ x, En c.nox (Γt x) te (e x) r) : Em c Γ (tLc w g tYes te vs) (mi >>= fun l => sized (compE e l)) r := by
  have key : Em c Γ (tLc w g tYes te vs) (mi >>= fun l => sized (compF (fun _ => pure true) e l)) r := fun S σ F H p Q gd q =>
    hi S σ F H p _ gd (by
      rw [run_bind] at q
      rcases e0 : mi p with ⟨er | l, p1⟩
      · rw [e0] at q
        cases er <;> exact q
      · rw [e0] at q
        intro J F1 H1 G Y e1 pl1 wk hG hY D nD
        have g1 := gd.ext e1 pl1
        have qD : c.q ≠ some D := fun z => pl1.there D z nD
        have nF1 : F1 D = none := Same.none g1.sub nD
        have nH : H D = none := by
          cases z : H D with
          | none => rfl
          | some o => rw [e1.keep D o z qD] at nD; cases nD
        refine lc_it wk (fun i H' => ∃ F2 p2 ps acc, Ext c.q F1 H1 F2 H' ∧ PoolOk c.q c.s F2 H' p2 ∧ F2 D = none ∧ H' D = some (.lst (ps.map V.ref)) ∧ ps.length ≤ sizeLine ∧ D ∉ ps ∧ Inn c.q H F2 H' r ps acc ∧
            PostM c σ F H r Q ((compF (fun _ => pure true) e (l.drop i) >>= fun rest => guardM ((acc ++ rest).length ≤ sizeLine) (acc ++ rest)) p2)) ?_ ?_ ?_ ?_
        · exact ⟨F1, p1, [], [], Ext.loose g1.sub nD, pl1.up (Ext.loose g1.sub nD), nF1, upd_same, Nat.zero_le _, List.not_mem_nil, Inn.nil, q⟩
        · rintro i H' _ ⟨F2, p2, vs2, acc, e2, pl2, _⟩
          exact hG H' (e2.sub.trans e2.sub') (g1.ext e2 pl2).lh
        · rintro i x H2 H3 hlt ⟨F2, p2, ps, acc, e2, pl2, nF2, hD, hl2, nps, k2, q2⟩ hy
          obtain ⟨F3, e3, hr⟩ := hY i x F2 H2 H3 hlt e2.sub e2.sub' hy
          have ha : l[i]? = some l[i] := List.getElem?_eq_getElem hlt
          have g3 := ((gd.ext e1 pl1).ext e2 pl2).ext e3.widen (pl2.up e3)
          have pl3 := pl2.up e3
          have hD3 : H3 D = some (.lst (ps.map V.ref)) := e3.keep D _ hD (by simp)
          have nF3 : F3 D = none := by
            cases z : F3 D with
            | none => rfl
            | some o =>
              rcases e3.new D o z with y | y
              · rw [nF2] at y; cases y
              · rw [hD] at y; cases y
          have e13 : Ext c.q F1 H1 F3 H3 := e2.tr e3.widen pl2
          have k3 := k2.ext e3.widen
          rw [drop_cons ha] at q2
          refine hg l[i] x S (wipe σ vs) F3 H3 p2 _ (g3.nox.wipe rfl vs) (hr _ ha) fun σ4 g4 w4 => ⟨by rw [w4 vs hw, wipe_idem], et_yes S σ4 F3 H3 p2 _ g4 (Post.ofT ?_)⟩
          have q3 : PostM c σ F H r Q ((noX (e l[i]) >>= fun y => (compF (fun _ => pure true) e (l.drop (i + 1)) >>= fun rr => pure (y :: rr)) >>= fun rest => guardM ((acc ++ rest).length ≤ sizeLine) (acc ++ rest)) p2) := by
            have z : (noX (e l[i]) >>= fun y => (compF (fun _ => pure true) e (l.drop (i + 1)) >>= fun rr => pure (y :: rr)) >>= fun rest => guardM ((acc ++ rest).length ≤ sizeLine) (acc ++ rest)) = (compF (fun _ => pure true) e (l[i] :: l.drop (i + 1)) >>= fun rest => guardM ((acc ++ rest).length ≤ sizeLine) (acc ++ rest)) := by
              conv => rhs; unfold compF
              rw [noX_pure, pure_bind, if_pos rfl]
              simp only [bind_assoc]
            rw [z]
            exact q2
          show match noX (pure true) p2 with | (.ok b, p') => _ | _ => False
          rw [noX_pure]
          intro F4 H4 e4 pl4
          rw [if_pos rfl]
          have hD4 : H4 D = some (.lst (ps.map V.ref)) := e4.keep D _ hD3 qD
          have e14 : Ext c.q F1 H1 F4 H4 := e13.tr e4 pl3
          have nF4 : F4 D = none := by
            cases z : F4 D with
            | none => rfl
            | some o =>
              rcases e4.new D o z with y | y
              · rw [nF3] at y; cases y
              · rw [hD3] at y; cases y
          have k4 := k3.ext e4
          refine he l[i] S σ4 F4 H4 p2 _ (g4.ext e4 pl4) ?_
          rw [run_bind] at q3
          rcases h5 : noX (e l[i]) p2 with ⟨er | y, p5⟩
          · rw [h5] at q3
            cases er with
            | stuck => exact q3.elim
            | exc ex => exact (noX_ne h5).elim
          · rw [h5] at q3
            have h5' : e l[i] p2 = (.ok y, p5) := noX_ok h5
            rw [h5']
            intro v ho F5 H5 e5 pl5 hn hf hh hq rel
            have hD5 : H5 D = some (.lst (ps.map V.ref)) := e5.keep D _ hD4 qD
            have nF5 : F5 D = none := by
              cases z : F5 D with
              | none => rfl
              | some o =>
                rcases e5.new D o z with y | y
                · rw [nF4] at y; cases y
                · rw [hD4] at y; cases y
            have e15 : Ext c.q F1 H1 F5 H5 := e14.tr e5 pl4
            have k5 := k4.ext e5
            have vD : v ≠ D := fun z => by rw [z, hD4] at hn; cases hn
            have vps : v ∉ ps := fun w => by
              obtain ⟨x, hx⟩ := k4.al.at v w
              rw [hn] at hx; cases hx
            have v0 : H v = none := by
              cases z : H v with
              | none => rfl
              | some o => rw [(e1.tr e14 pl1).keep v o z hq] at hn; cases hn
            have k6 := k5.snoc v0 hf hq vps hh rel
            have q4 : PostM c σ F H r Q ((compF (fun _ => pure true) e (l.drop (i + 1)) >>= fun rr => guardM ((acc ++ (y :: rr)).length ≤ sizeLine) (acc ++ (y :: rr))) p5) := by
              have z : (compF (fun _ => pure true) e (l.drop (i + 1)) >>= fun rr => guardM ((acc ++ (y :: rr)).length ≤ sizeLine) (acc ++ (y :: rr))) = ((compF (fun _ => pure true) e (l.drop (i + 1)) >>= fun rr => pure (y :: rr)) >>= fun rest => guardM ((acc ++ rest).length ≤ sizeLine) (acc ++ rest)) := by
                rw [bind_assoc]
                rfl
              rw [z]
              exact q3
            have hl : ps.length < sizeLine := by
              rw [All2.length k2.al]
              rw [run_bind] at q4
              rcases h6 : compF (fun _ => pure true) e (l.drop (i + 1)) p5 with ⟨er | rest, p6⟩
              · rw [h6] at q4
                cases er with
                | stuck => exact q4.elim
                | exc ex => exact (compF_ne h6).elim
              · rw [h6] at q4
                have q5 : PostM c σ F H r Q (guardM ((acc ++ (y :: rest)).length ≤ sizeLine) (acc ++ (y :: rest)) p6) := q4
                unfold guardM at q5
                by_cases hh : (acc ++ (y :: rest)).length ≤ sizeLine
                · rw [List.length_append, List.length_cons] at hh
                  omega
                · rw [if_neg hh] at q5
                  exact q5.elim
            have eD : Ext c.q F5 H5 F5 (upd H5 D (.lst ((ps ++ [v]).map V.ref))) → False ∨ True := fun _ => .inr trivial
            refine ⟨ps.map V.ref, hD5, by rw [List.length_map]; exact hl, F5, p5, ps ++ [v], acc ++ [y], ⟨e15.sub, fun b o z => ?_, fun b o z n => ?_, e15.new⟩, ?_, nF5, by rw [List.map_append]; exact upd_same, by rw [List.length_append]; exact hl, ?_, ⟨k6.nd, k6.h0, k6.hf, k6.hq, k6.al.ext (Same.refl _) fun b hb x hx => ?_⟩, ?_⟩
            · rw [upd_ne (fun y => by rw [y, nF5] at z; cases z)]
              exact e15.sub' b o z
            · rw [upd_ne (fun y => by rw [y, nD] at z; cases z)]
              exact e15.keep b o z n
            · cases cq : c.q with
              | none => trivial
              | some a0 =>
                have pl5' : PoolOk c.q c.s F5 H5 p5 := pl5
                rw [cq] at pl5' qD
                obtain ⟨z1, z2, z3⟩ := pl5'
                exact ⟨z1, by rw [upd_ne (fun y => qD (by rw [y]))]; exact z2, z3⟩
            · intro w
              rcases List.mem_append.mp w with w | w
              · exact nps w
              · exact vD (List.mem_singleton.mp w).symm
            · rw [upd_ne (fun z => by
                rcases List.mem_append.mp hb with w | w
                · exact nps (by rw [← z]; exact w)
                · exact vD (by rw [← z]; exact (List.mem_singleton.mp w).symm))]
              exact hx
            · have z : (fun rest => guardM ((acc ++ [y] ++ rest).length ≤ sizeLine) (acc ++ [y] ++ rest)) = fun rest => guardM ((acc ++ (y :: rest)).length ≤ sizeLine) (acc ++ (y :: rest)) := by
                funext rest
                rw [List.append_assoc]
                rfl
              rw [z]
              exact q4
        · rintro H' ⟨F2, p2, ps, acc, e2, pl2, nF2, hD, hl2, nps, k2, q2⟩
          rw [List.drop_length] at q2
          unfold compF at q2
          rw [pure_bind, List.append_nil] at q2
          unfold guardM at q2
          by_cases hh : acc.length ≤ sizeLine
          · rw [if_pos hh] at q2
            exact PostM.now q2 (e1.tr e2 pl1) pl2 nH nF2 hD qD hl2 k2 nps
          · rw [if_neg hh] at q2
            exact q2.elim)
  simp only [compE_eq] at key
  exact key
end
end Kf

set_option maxHeartbeats 4000000
namespace Kf
open PySem PySem.Spec L2
open PyProof.Rows hiding St
def row {α : Type} (l : List (List α)) (k : Nat) : List α := l.getD k []
theorem row_of {α : Type} {l : List (List α)} {k : Nat} {x : List α} (h : l[k]? = some x) : row l k = x := by
  unfold row
  rw [List.getD_eq_getElem?_getD, h]; rfl
section
variable {c : Cf} {Γ : List Sl} {ta tb te : TE} {α β ρ : Type} {rr : Rr ρ}
theorem inn.range {r : Ro α} {F H : Hp} {ps : List Addr} {l : List α} (h : inn r F H ps l) {F' : Hp} : All2 ((rNth ps).rel F') (ps.map V.ref) (List.range l.length) := by
  refine all2_of (by rw [List.length_map, List.length_range]; exact All2.length h) fun i a b ha hb => ?_
  rw [List.getElem?_map] at ha
  rcases e : ps[i]? with _ | z
  · rw [e] at ha; cases ha
  · rw [e] at ha
    have hb' : b = i := by
      have := (List.getElem?_eq_some_iff.mp hb)
      obtain ⟨_, hh⟩ := this
      simpa using hh.symm
    subst hb'
    exact ⟨z, e, (Option.some.inj ha).symm⟩
/-- the outer list: the inner ones by their places -/
theorem ev_nst (i : Nat) {r : Ro α} {ps : List Addr} {l : List α} (h : nth Γ i = .res (nst r ps l)) : Ev c Γ (tVar i) (pure (List.range l.length)) (rList (rNth ps)) := fun S σ F H p Q g q => by
  obtain ⟨o, h1, ⟨⟨pa, e1, e2⟩, h4, h5⟩, _⟩ := g.sl.res h
  subst e1
  exact ⟨_, h1, q.now g.sub g.pl (rList.mk e2 (by rw [List.length_map]; exact h4) h5.range)⟩
theorem ev_nix (s : Nat) {r : Rl α} {ps : List Addr} {l : List (List α)} {mk : PM Nat} {mi : PM Int} (h : nth Γ s = .res (nst (oList r) ps l)) (hk : Ev c Γ te mk (rNth ps)) (hi : Ev c Γ tb mi rInt) :
    Ev c Γ (tOp (rIxL c.K) te tb) (mk >>= fun k => mi >>= fun i => getM (row l k) i) r := fun S σ F H p Q g q =>
  hk S σ F H p _ g (q.seq fun k p1 v F1 H1 e1 pl1 r1 h1 => by
    have g1 := g.ext e1 pl1
    refine hi S σ F1 H1 p1 _ g1 (h1.seq fun i p2 w F2 H2 e2 pl2 r2 h2 => ?_)
    have g2 := g1.ext e2 pl2
    obtain ⟨a, ha, rfl⟩ := r1
    obtain ⟨x, ho, k1, k2, ⟨vs, rfl, k3, k4⟩, _, _⟩ := g2.atn h ha
    rw [row_of k1] at h2
    unfold getM at h2
    cases e : atI x i with
    | none => rw [e] at h2; exact h2.elim
    | some y =>
      rw [e] at h2
      obtain ⟨u, hu, ru⟩ := All2.atI k4 e
      exact ⟨a, vs, i, u, rfl, r2, SqL.of k2, hu, h2.now g2.sub pl2 ru⟩)
theorem ev_nlen (s : Nat) {r : Rl α} {ps : List Addr} {l : List (List α)} {mk : PM Nat} (h : nth Γ s = .res (nst (oList r) ps l)) (hk : Ev c Γ te mk (rNth ps)) :
    Ev c Γ (tCB (rLenQ c.K) (tCons te tNil)) (mk >>= fun k => pure ((row l k).length : Int)) rInt := fun S σ F H p Q g q =>
  hk S σ F H p _ g (q.seq fun k p1 v F1 H1 e1 pl1 r1 h1 => by
    have g1 := g.ext e1 pl1
    obtain ⟨a, ha, rfl⟩ := r1
    obtain ⟨x, ho, k1, k2, ⟨vs, rfl, k3, k4⟩, _, _⟩ := g1.atn h ha
    rw [row_of k1] at h1
    refine ⟨a, vs, rfl, .inl (SqL.of k2), h1.now g1.sub pl1 ?_⟩
    show V.int _ = V.int _
    rw [k4.length])
/-- an inner list, to look at -/
theorem evL_n (s : Nat) {r : Rl α} {ps : List Addr} {l : List (List α)} {mk : PM Nat} (h : nth Γ s = .res (nst (oList r) ps l)) (hk : Ev c Γ te mk (rNth ps)) :
    EvL c Γ te (mk >>= fun k => pure (row l k)) r := fun S σ F H p Q g q =>
  hk S σ F H p _ g (q.seq fun k p1 v F1 H1 e1 pl1 r1 h1 => by
    have g1 := g.ext e1 pl1
    obtain ⟨a, ha, rfl⟩ := r1
    obtain ⟨x, ho, k1, k2, ⟨vs, rfl, k3, k4⟩, hq, _⟩ := g1.atn h ha
    rw [row_of k1] at h1
    exact h1 (.ref a) F1 H1 (Ext.refl g1.sub) pl1 ⟨a, vs, rfl, noq_some k2 hq, k3, k4⟩)
/-! ### statements -/
def onN (l : List (List α)) (k : Nat) (m : PM (List α)) : PM (List (List α)) := m >>= fun x => pure (l.set k x)
theorem es_appN (s : Nat) {r : Rl α} {ps : List Addr} {l : List (List α)} {mk : PM Nat} {m : PM α} (hx : nth Γ s = .res (nst (oList r) ps l)) (hk : Ev c Γ te mk (rNth ps)) (h : Ev c Γ ta m r) :
    Es c Γ (tDrop (tBM c.K "list" rAppend te (tCons ta tNil))) (mk >>= fun k => m >>= fun a => onN l k (appM (row l k) a)) fun l' => put Γ s (.res (nst (oList r) ps l')) := fun S σ F H p D g q =>
  hk S σ F H p _ g (q.seqE g fun k p1 v F1 H1 g1 _ r1 _ h1 => by
    obtain ⟨a, ha, rfl⟩ := r1
    obtain ⟨_, _, _, k2, ⟨_, rfl, _⟩, _⟩ := g1.atn hx ha
    refine ⟨.inl ⟨rfl, _, SqL.of k2⟩, h S σ F1 H1 p1 _ g1 (h1.seqE g1 fun y p2 w F2 H2 g2 s2 r2 _ h3 => ?_)⟩
    obtain ⟨x, ho, k1, k2, ⟨vs, rfl, k3, k4⟩, _, up⟩ := g2.atn hx ha
    rw [row_of k1] at h3
    unfold onN appM guardM at h3
    by_cases hl : x.length < sizeLine
    · rw [if_pos hl, pure_bind] at h3
      have hl' : vs.length < sizeLine := by rw [k4.length]; exact hl
      exact ⟨a, vs, w, rfl, rfl, k2, hl', h3 σ F2 _ (up _ _ ⟨_, rfl, by rw [List.length_append]; exact hl', k4.append (.cons r2 .nil)⟩)⟩
    · rw [if_neg hl] at h3
      exact h3.elim)
theorem es_insN (s : Nat) {r : Rl α} {ps : List Addr} {l : List (List α)} {mk : PM Nat} {mi : PM Int} {m : PM α} (hx : nth Γ s = .res (nst (oList r) ps l)) (hk : Ev c Γ te mk (rNth ps)) (hi : Ev c Γ tb mi rInt) (h : Ev c Γ ta m r) :
    Es c Γ (tDrop (tBM c.K "list" rIns3 te (tCons tb (tCons ta tNil)))) (mk >>= fun k => mi >>= fun i => m >>= fun a => onN l k (insM (row l k) i a)) fun l' => put Γ s (.res (nst (oList r) ps l')) := fun S σ F H p D g q =>
  hk S σ F H p _ g (q.seqE g fun k p1 v F1 H1 g1 _ r1 _ h1 => by
    obtain ⟨a, ha, rfl⟩ := r1
    obtain ⟨_, _, _, k2, ⟨_, rfl, _⟩, _⟩ := g1.atn hx ha
    refine ⟨.inl ⟨rfl, _, SqL.of k2⟩, hi S σ F1 H1 p1 _ g1 (h1.seqE g1 fun i p2 w F2 H2 g2 s2 r2 _ h3 => h S σ F2 H2 p2 _ g2 (h3.seqE g2 fun y p3 u F3 H3 g3 s3 r3 _ h4 => ?_))⟩
    obtain ⟨x, ho, k1, k2, ⟨vs, rfl, k3, k4⟩, _, up⟩ := g3.atn hx ha
    rw [row_of k1] at h4
    unfold onN insM guardM at h4
    by_cases hl : x.length < sizeLine ∧ 0 ≤ i ∧ i < 2 ^ 63
    · rw [if_pos hl, pure_bind] at h4
      have hl' : vs.length < sizeLine := by rw [k4.length]; exact hl.1
      refine ⟨a, vs, i, u, rfl, by rw [show w = .int i from r2], k2, hl', hl.2.1, hl.2.2, h4 σ F3 _ (up _ _ ⟨_, rfl, ?_, ((k4.take _).append (.cons r3 .nil)).append (k4.drop _)⟩)⟩
      simp only [List.length_append, List.length_take, List.length_drop, List.length_cons, List.length_nil]
      omega
    · rw [if_neg hl] at h4
      exact h4.elim)
theorem es_setN (s : Nat) {r : Rl α} {ps : List Addr} {l : List (List α)} {mk : PM Nat} {mi : PM Int} {m : PM α} (hx : nth Γ s = .res (nst (oList r) ps l)) (h : Ev c Γ ta m r) (hk : Ev c Γ te mk (rNth ps)) (hi : Ev c Γ tb mi rInt) :
    Es c Γ (tAsg ta (gSub te tb rSetL)) (m >>= fun a => mk >>= fun k => mi >>= fun i => onN l k (setM (row l k) i a)) fun l' => put Γ s (.res (nst (oList r) ps l')) := fun S σ F H p D g q =>
  h S σ F H p _ g (q.seqE g fun y p1 u F1 H1 g1 s1 r1 _ h1 =>
    hk S σ F1 H1 p1 _ g1 (h1.seqE g1 fun k p2 v F2 H2 g2 s2 r2 _ h2 =>
      hi S σ F2 H2 p2 _ g2 (h2.seqE g2 fun i p3 w F3 H3 g3 s3 r3 _ h3 => by
        obtain ⟨a, ha, rfl⟩ := r2
        obtain ⟨x, ho, k1, k2, ⟨vs, rfl, k3, k4⟩, _, up⟩ := g3.atn hx ha
        rw [row_of k1] at h3
        unfold onN setM at h3
        cases e : ixN x.length i with
        | none => rw [e] at h3; exact h3.elim
        | some j =>
          rw [e] at h3
          refine ⟨a, vs, i, j, rfl, by rw [show w = .int i from r3], k2, by rw [k4.length]; exact e, ?_⟩
          exact h3 σ F3 _ (up _ _ ⟨_, rfl, by rw [List.length_set]; exact k3, k4.setAt (r.mono (s2.trans s3) r1)⟩))))
theorem es_revN (s : Nat) {r : Rl α} {ps : List Addr} {l : List (List α)} {mk : PM Nat} (hx : nth Γ s = .res (nst (oList r) ps l)) (hk : Ev c Γ te mk (rNth ps)) :
    Es c Γ (tDrop (tBM0 c.K "list" rReverse te)) (mk >>= fun k => pure (l.set k (row l k).reverse)) fun l' => put Γ s (.res (nst (oList r) ps l')) := fun S σ F H p D g q =>
  hk S σ F H p _ g (q.seqE g fun k p1 v F1 H1 g1 _ r1 _ h1 => by
    obtain ⟨a, ha, rfl⟩ := r1
    obtain ⟨x, ho, k1, k2, ⟨vs, rfl, k3, k4⟩, _, up⟩ := g1.atn hx ha
    rw [row_of k1] at h1
    exact ⟨.inl ⟨rfl, _, SqL.of k2⟩, a, vs, rfl, rfl, k2, h1 σ F1 _ (up _ _ ⟨_, rfl, by rw [List.length_reverse]; exact k3, k4.rev⟩)⟩)
theorem es_clearN (s : Nat) {r : Rl α} {ps : List Addr} {l : List (List α)} {mk : PM Nat} (hx : nth Γ s = .res (nst (oList r) ps l)) (hk : Ev c Γ te mk (rNth ps)) :
    Es c Γ (tDrop (tBM0 c.K "list" rClear te)) (mk >>= fun k => pure (l.set k [])) fun l' => put Γ s (.res (nst (oList r) ps l')) := fun S σ F H p D g q =>
  hk S σ F H p _ g (q.seqE g fun k p1 v F1 H1 g1 _ r1 _ h1 => by
    obtain ⟨a, ha, rfl⟩ := r1
    obtain ⟨x, ho, k1, k2, ⟨vs, rfl, k3, k4⟩, _, up⟩ := g1.atn hx ha
    exact ⟨.inl ⟨rfl, _, SqL.of k2⟩, a, vs, rfl, rfl, k2, h1 σ F1 _ (up _ _ ⟨_, rfl, Nat.zero_le _, .nil⟩)⟩)
/-! ### made, and then the rest -/
theorem Good.setm {S : Hp × Hp} {σ : St} {F H F1 H1 : Hp} {p p1 : Pool} {r : Ro α} {ps : List Addr} {l : List α} {pa : Addr} (g : Good S c.q c.s Γ σ F H p) (i : Nat) (hG : fre c.s.G i = true) (e1 : Ext c.q F H F1 H1) (pl1 : PoolOk c.q c.s F1 H1 p1) (hpa : F1 pa = some (.lst (ps.map V.ref))) (hl : ps.length ≤ sizeLine) (hi : Inn c.q H F1 H1 r ps l) :
    Good S c.q c.s (put Γ i (.res (nst r ps l))) (σ.set i (some (.ref pa))) F1 H1 p1 :=
  (g.ext e1 pl1).setr i hG ⟨⟨pa, rfl, hpa⟩, hl, hi.al⟩ hi.nd hi.hf (fun a ha => by
    cases z : S.2 a with
    | none => rfl
    | some o =>
      have := hi.h0 a ha
      rw [g.ent.keep a o z (hi.hq a ha)] at this
      cases this) hi.hq fun a ha hm => by
    obtain ⟨o, ho⟩ := g.sl.ownAt a hm
    rw [hi.h0 a ha] at ho; cases ho
theorem es_seqM {i : Nat} {r : Ro α} {m : PM (List α)} {k : List α → PM β} {u : TS} {Γ' : β → List Sl} (h : Em c Γ ta m r) (h2 : ∀ ps l, Es c (put Γ i (.res (nst r ps l))) u (k l) Γ') (hG : fre c.s.G i = true := by rfl) : Es c Γ (tSeq (tAsg ta (gName i)) u) (m >>= k) Γ' := fun S σ F H p D g q =>
  h S σ F H p _ g (by
    rw [run_bind] at q
    rcases e : m p with ⟨er | l, p1⟩
    · rw [e] at q
      cases er with
      | stuck => exact q
      | exc ex => exact fun cls d F' H' e' pl k => q cls d σ F' H' (g.ent.tr e' g.pl) pl (g.gx.mono e'.sub) k
    · rw [e] at q
      exact fun pa ps F1 H1 e1 pl1 z1 z2 z3 => h2 ps l S _ F1 H1 p1 D (g.setm i hG e1 pl1 z1 z2 z3) q)
theorem ef_seqM {i : Nat} {r : Ro α} {m : PM (List α)} {k : List α → PM (Fl β ρ)} {u : TS} {Γ' : β → List Sl} (h : Em c Γ ta m r) (h2 : ∀ ps l, Ef c rr (put Γ i (.res (nst r ps l))) u (k l) Γ') (hG : fre c.s.G i = true := by rfl) : Ef c rr Γ (tSeq (tAsg ta (gName i)) u) (m >>= k) Γ' := fun S σ F H p D g q =>
  h S σ F H p _ g (by
    rw [run_bind] at q
    rcases e : m p with ⟨er | l, p1⟩
    · rw [e] at q
      cases er with
      | stuck => exact q
      | exc ex => exact fun cls d F' H' e' pl k => q cls d σ F' H' (g.ent.tr e' g.pl) pl (g.gx.mono e'.sub) k
    · rw [e] at q
      exact fun pa ps F1 H1 e1 pl1 z1 z2 z3 => h2 ps l S _ F1 H1 p1 D (g.setm i hG e1 pl1 z1 z2 z3) q)
theorem el_seqM {i : Nat} {r : Ro α} {m : PM (List α)} {k : List α → PM ρ} {u : TS} {fall : Prop} (h : Em c Γ ta m r) (h2 : ∀ ps l, El c rr fall (put Γ i (.res (nst r ps l))) u (k l)) (hG : fre c.s.G i = true := by rfl) : El c rr fall Γ (tSeq (tAsg ta (gName i)) u) (m >>= k) := fun S σ F H p D g hf q =>
  h S σ F H p _ g (by
    rw [run_bind] at q
    rcases e : m p with ⟨er | l, p1⟩
    · rw [e] at q
      cases er with
      | stuck => exact q
      | exc ex => exact fun cls d F' H' e' pl k => q cls d σ F' H' (g.ent.tr e' g.pl) pl (g.gx.mono e'.sub) k
    · rw [e] at q
      exact fun pa ps F1 H1 e1 pl1 z1 z2 z3 => h2 ps l S _ F1 H1 p1 D (g.setm i hG e1 pl1 z1 z2 z3) hf q)
/-! ### it stands still from here on -/
theorem esFzN {i : Nat} {r : Ro α} {ps : List Addr} {l : List α} {t : TS} {m : PM β} {Γ' : β → List Sl} (e : nth Γ i = .res (nst r ps l)) (h : Es c (put Γ i (.val (rList (fz r)) l)) t m Γ') : Es c Γ t m Γ' := fun S σ F H p D g q => by
  obtain ⟨F', _, g'⟩ := g.fzr e
  exact h S σ F' H p D g' q
theorem efFzN {i : Nat} {r : Ro α} {ps : List Addr} {l : List α} {t : TS} {m : PM (Fl β ρ)} {Γ' : β → List Sl} (e : nth Γ i = .res (nst r ps l)) (h : Ef c rr (put Γ i (.val (rList (fz r)) l)) t m Γ') : Ef c rr Γ t m Γ' := fun S σ F H p D g q => by
  obtain ⟨F', _, g'⟩ := g.fzr e
  exact h S σ F' H p D g' q
theorem elFzN {i : Nat} {r : Ro α} {ps : List Addr} {l : List α} {t : TS} {m : PM ρ} {fall : Prop} (e : nth Γ i = .res (nst r ps l)) (h : El c rr fall (put Γ i (.val (rList (fz r)) l)) t m) : El c rr fall Γ t m := fun S σ F H p D g hf q => by
  obtain ⟨F', _, g'⟩ := g.fzr e
  exact h S σ F' H p D g' hf q
theorem ev_borrowN (i : Nat) {ro : Ro α} {ps : List Addr} {l : List α} {rf : Rl β} {t : TE} {m : PM β} (e : nth Γ i = .res (nst ro ps l)) (fl : rf.Flat) (h : Ev c (put Γ i (.val (rList (fz ro)) l)) t m rf) :
    Ev c Γ t (noX m) rf := fun S σ F H p Q g q => by
  obtain ⟨F', s, g'⟩ := g.fzr e
  refine h S σ F' H p Q g' ?_
  unfold noX at q
  rcases em : m p with ⟨er | b, p'⟩
  · rw [em] at q
    cases er with
    | stuck => exact q
    | exc ex => exact (show False from q).elim
  · rw [em] at q
    exact fun v F2 H2 e2 pl2 k => q v F H2 ⟨Same.refl _, (s.trans e2.sub).trans e2.sub', e2.keep, fun _ _ z => .inl z⟩ (by
        have pl := g.pl
        have pl2' := pl2
        cases cq : c.q with
        | none => trivial
        | some y =>
          rw [cq] at pl pl2'
          obtain ⟨z1, z2, z3, z4⟩ := pl
          obtain ⟨w1, w2, w3, w4⟩ := pl2'
          refine ⟨z1, w2, ?_, w4⟩
          have z5 := s _ _ z3
          have z6 := e2.sub _ _ z5
          rw [w3] at z6
          rw [z3, z6]) (fl _ _ _ _ k)
end
end Kf

set_option maxHeartbeats 4000000
namespace Kf
open PySem PySem.Spec L2
open PyProof.Rows hiding St
section
variable {c : Cf} {Γ : List Sl} {ta tb te : TE} {α β ρ : Type} {rr : Rr ρ}
theorem sl_tupAK {X : Cx} {K : PySem.W.Frag} (e : X.K = K := by rfl) : SlR X (rSlA K) := e ▸ sl_tupA
theorem atEn (c : Cf) (Γ : List Sl) {t : TE} {m : PM α} {r : Ro α} (h : En c Γ t m r) : En c Γ t m r := h
theorem cutV_all {vs : List V} {lo hi : Option Int} (h : HT.sIx vs.length 0 lo = 0 ∧ HT.sIx vs.length vs.length hi = vs.length) : cutV vs lo hi = vs := by
  unfold cutV
  rw [h.1, h.2]
  simp
theorem ev_slT {r : Rl α} {tl th : TO} {ma : PM (List α)} {ml mh : PM (Option Int)} (ha : Ev c Γ ta ma (rTup c.K r)) (hl : Eo c Γ tl ml) (hh : Eo c Γ th mh) : Ev c Γ (tSl (rSlA c.K) ta tl th) (ma >>= fun x => ml >>= fun l => mh >>= fun h => pure (cutL x l h)) (rTup c.K r) := fun S σ F H p Q g q =>
  ha S σ F H p _ g (q.seq fun a p1 v F1 H1 e1 pl1 r1 h1 => hl S σ F1 H1 p1 _ (g.ext e1 pl1) (h1.seq fun l p2 lv F2 H2 e2 pl2 r2 h2 => hh S σ F2 H2 p2 _ ((g.ext e1 pl1).ext e2 pl2) (h2.seq fun h p3 hv F3 H3 e3 pl3 r3 h3 => by
    obtain ⟨x, vs, rfl, k1, k2, k3⟩ := (rTup c.K r).mono (e2.sub.trans e3.sub) r1
    subst r2 r3
    have gs := (((g.ext e1 pl1).ext e2 pl2).ext e3 pl3).sub
    refine ⟨x, vs, rfl, SqT.same gs k1, fun w => ?_, fun w y hy => ?_⟩
    · exact h3.now gs pl3 ⟨x, vs, rfl, k1, k2, by have := k3.cut lv hv; rw [cutV_all w] at this; exact this⟩
    · exact h3.tup gs pl3 hy ⟨y, _, rfl, SqT.of upd_same, Nat.le_trans (cutV_length vs lv hv) k2, (k3.cut lv hv).imp fun _ _ => r.mono (same_upd (Same.none gs hy))⟩)))
/-- l.pop() for its effect -/
def popM (l : List α) : PM (List α) := guardM (l ≠ [] ∨ 0 < l.length) l.dropLast
theorem All2.dropLast {R : V → α → Prop} {vs : List V} {l : List α} (h : All2 R vs l) : All2 R vs.dropLast l.dropLast := by
  rw [List.dropLast_eq_take, List.dropLast_eq_take, h.length]
  exact h.take _
theorem es_pop (i : Nat) {r : Rl α} {l : List α} (hx : nth Γ i = .own (oList r) l) :
    Es c Γ (tDrop (tBM0 c.K "list" rPop (tVar i))) (guardM (0 < l.length) l.dropLast) fun l' => put Γ i (.own (oList r) l') := fun S σ F H p D g q => by
  obtain ⟨x, ho, h1, h2, ⟨vs, rfl, k2, k3⟩, hm⟩ := g.sl.own hx
  unfold guardM at q
  by_cases hl : 0 < l.length
  · rw [if_pos hl] at q
    have hv : vs.length - 1 < vs.length := by rw [k3.length]; omega
    exact ⟨_, h1, .inl ⟨rfl, _, SqL.of h2⟩, x, vs, _, rfl, rfl, h2, List.getElem?_eq_getElem hv, q σ F _ (g.updo hx h1 ⟨_, rfl, by rw [List.length_dropLast]; omega, k3.dropLast⟩)⟩
  · rw [if_neg hl] at q
    exact q.elim
theorem es_popN (s : Nat) {r : Rl α} {ps : List Addr} {l : List (List α)} {mk : PM Nat} (hx : nth Γ s = .res (nst (oList r) ps l)) (hk : Ev c Γ te mk (rNth ps)) :
    Es c Γ (tDrop (tBM0 c.K "list" rPop te)) (mk >>= fun k => onN l k (guardM (0 < (row l k).length) (row l k).dropLast)) fun l' => put Γ s (.res (nst (oList r) ps l')) := fun S σ F H p D g q =>
  hk S σ F H p _ g (q.seqE g fun k p1 v F1 H1 g1 _ r1 _ h1 => by
    obtain ⟨a, ha, rfl⟩ := r1
    obtain ⟨x, ho, k1, k2, ⟨vs, rfl, k3, k4⟩, _, up⟩ := g1.atn hx ha
    rw [row_of k1] at h1
    unfold onN guardM at h1
    by_cases hl : 0 < x.length
    · rw [if_pos hl, pure_bind] at h1
      have hv : vs.length - 1 < vs.length := by rw [k4.length]; omega
      exact ⟨.inl ⟨rfl, _, SqL.of k2⟩, a, vs, _, rfl, rfl, k2, List.getElem?_eq_getElem hv, h1 σ F1 _ (up _ _ ⟨_, rfl, by rw [List.length_dropLast]; omega, k4.dropLast⟩)⟩
    · rw [if_neg hl] at h1
      exact h1.elim)
theorem ev_lenP {r : Rl α} {u : Rl β} {ma : PM (α × β)} (ha : Ev c Γ ta ma (rPair c.K r u)) : Ev c Γ (tCB (rLenQ c.K) (tCons ta tNil)) (ma >>= fun _ => pure (2 : Int)) rInt := fun S σ F H p Q g q =>
  ha S σ F H p _ g (q.seq fun a p1 v F1 H1 e1 pl1 r1 h1 => by
    obtain ⟨x, y, z, rfl, k1, _, _⟩ := r1
    have gs := (g.ext e1 pl1).sub
    exact ⟨x, [y, z], rfl, .inr (SqT.same gs k1), h1.now gs pl1 rfl⟩)
theorem ev_lenTr {γ : Type} {r : Rl α} {u : Rl β} {w : Rl γ} {ma : PM (α × β × γ)} (ha : Ev c Γ ta ma (rTrip c.K r u w)) : Ev c Γ (tCB (rLenQ c.K) (tCons ta tNil)) (ma >>= fun _ => pure (3 : Int)) rInt := fun S σ F H p Q g q =>
  ha S σ F H p _ g (q.seq fun a p1 v F1 H1 e1 pl1 r1 h1 => by
    obtain ⟨x, y, z, z2, rfl, k1, _, _, _⟩ := r1
    have gs := (g.ext e1 pl1).sub
    exact ⟨x, [y, z, z2], rfl, .inr (SqT.same gs k1), h1.now gs pl1 rfl⟩)
/-- a tuple of items of several kinds -/
def rTupN {A : Type} (K : PySem.W.Frag) (ra : Ra A) : Rl A := ⟨fun F v x => ∃ p vs, v = .ref p ∧ SqT K F p vs ∧ vs.length ≤ sizeLine ∧ ra.rel F vs x,
  fun s h => by
    obtain ⟨p, vs, e, h1, h2, h3⟩ := h
    exact ⟨p, vs, e, SqT.same s h1, h2, ra.mono s h3⟩⟩
/-- the item at a place -/
def RaAt {A : Type} (ra : Ra A) (k : Nat) (r : Rl α) (f : A → α) : Prop := ∀ F vs x, ra.rel F vs x → ∃ v, vs[k]? = some v ∧ r.rel F v (f x)
theorem raZ {A : Type} {r : Rl α} {ra : Ra A} : RaAt (aCons r ra) 0 r (fun x => x.1) := fun F vs x h => by
  obtain ⟨v, ws, rfl, h1, _⟩ := h
  exact ⟨v, rfl, h1⟩
theorem raS {A B : Type} {u : Rl B} {r : Rl α} {ra : Ra A} {k : Nat} {f : A → α} (h : RaAt ra k r f) : RaAt (aCons u ra) (k + 1) r (fun x => f x.2) := fun F vs x z => by
  obtain ⟨v, ws, rfl, _, h2⟩ := z
  obtain ⟨y, h3, h4⟩ := h F ws x.2 h2
  exact ⟨y, by simpa using h3, h4⟩
/-- as many items -/
def RaLen {A : Type} (ra : Ra A) (n : Nat) : Prop := ∀ F vs x, ra.rel F vs x → vs.length = n
theorem rlZ : RaLen aNil 0 := fun F vs x h => by rw [show vs = [] from h]; rfl
theorem rlS {A : Type} {r : Rl α} {ra : Ra A} {n : Nat} (h : RaLen ra n) : RaLen (aCons r ra) (n + 1) := fun F vs x z => by
  obtain ⟨v, ws, rfl, _, h2⟩ := z
  rw [List.length_cons, h F ws x.2 h2]
theorem ev_tupR {A : Type} {ra : Ra A} {n : Nat} {t : TA} {m : PM A} (h : Ea c Γ t m ra) (hl : RaLen ra n) (hn : n ≤ sizeLine := by decide) : Ev c Γ (tTup t) m (rTupN c.K ra) := fun S σ F H p Q g q =>
  h S σ F H p _ g (by
    have q' : Post c σ F H (rTupN c.K ra) Q ((m >>= fun l => pure l) p) := by rw [bind_pure]; exact q
    exact q'.seq fun a p1 v F1 H1 e1 pl1 r1 h1 => by
      have hv : v.length ≤ sizeLine := by rw [hl _ _ _ r1]; exact hn
      exact ⟨hv, fun x hx => h1.tup (g.ext e1 pl1).sub pl1 hx ⟨x, v, rfl, SqT.of upd_same, hv, ra.mono (same_upd (Same.none (g.ext e1 pl1).sub hx)) r1⟩⟩)
theorem ev_tupAt {A : Type} {ra : Ra A} {k : Nat} {r : Rl α} {f : A → α} {ma : PM A} (hk : RaAt ra k r f) (ha : Ev c Γ ta ma (rTupN c.K ra)) : Ev c Γ (tOp (rIxT c.K) ta (tC (.int (k : Int)))) (ma >>= fun x => pure (f x)) r := fun S σ F H p Q g q =>
  ha S σ F H p _ g (q.seq fun a p1 v F1 H1 e1 pl1 r1 h1 => by
    obtain ⟨x, vs, rfl, k1, k2, k3⟩ := r1
    have gs := (g.ext e1 pl1).sub
    obtain ⟨y, h2, h3⟩ := hk _ _ _ k3
    have hlt : k < vs.length := (List.getElem?_eq_some_iff.mp h2).1
    exact ⟨x, vs, (k : Int), y, rfl, rfl, SqT.same gs k1, atI_ofNat h2, h1.now gs pl1 h3⟩)
end
end Kf

set_option maxHeartbeats 4000000
namespace Kf
open PySem PySem.Spec L2
open PyProof.Rows hiding St
/-! ### displays with stars -/
section
variable {c : Cf} {Γ : List Sl} {ta tb te : TE} {α β ρ : Type}
def aStr (r : Rl α) : Ra (List α) := ⟨fun F vs l => All2 (r.rel F) vs l, fun s h => h.imp fun _ _ => r.mono s⟩
theorem ea_s0 {r : Rl α} : Ea c Γ tNil (pure []) (aStr r) := fun S σ F H p Q g q => q.now g.sub g.pl .nil
theorem ea_sC {r : Rl α} {t : TA} {ma : PM α} {mr : PM (List α)} (ha : Ev c Γ ta ma r) (hr : Ea c Γ t mr (aStr r)) : Ea c Γ (tCons ta t) (ma >>= fun a => mr >>= fun as => pure (a :: as)) (aStr r) := fun S σ F H p Q g q =>
  ha S σ F H p _ g (q.seq fun a p1 v F1 H1 e1 pl1 r1 h1 => hr S σ F1 H1 p1 _ (g.ext e1 pl1) (h1.seq fun b p2 ws F2 H2 e2 pl2 r2 h2 => h2.now ((g.ext e1 pl1).ext e2 pl2).sub pl2 (.cons (r.mono e2.sub r1) r2)))
theorem ea_sT {r : Rl α} {t : TA} {ma : PM (List α)} {mr : PM (List α)} (ha : Ev c Γ ta ma (rTup c.K r)) (hr : Ea c Γ t mr (aStr r)) : Ea c Γ (StX.tStar c.K ta t) (ma >>= fun a => mr >>= fun as => pure (a ++ as)) (aStr r) := fun S σ F H p Q g q =>
  ha S σ F H p _ g (q.seq fun a p1 v F1 H1 e1 pl1 r1 h1 => by
    obtain ⟨x, vs, rfl, k1, k2, k3⟩ := r1
    exact ⟨x, vs, rfl, .inl (SqT.same (g.ext e1 pl1).sub k1), hr S σ F1 H1 p1 _ (g.ext e1 pl1) (h1.seq fun b p2 ws F2 H2 e2 pl2 r2 h2 => h2.now ((g.ext e1 pl1).ext e2 pl2).sub pl2 ((k3.imp fun _ _ => r.mono e2.sub).append r2))⟩)
theorem ea_sL {r : Rl α} {t : TA} {ma : PM (List α)} {mr : PM (List α)} (ha : Ev c Γ ta ma (rList r)) (hr : Ea c Γ t mr (aStr r)) : Ea c Γ (StX.tStar c.K ta t) (ma >>= fun a => mr >>= fun as => pure (a ++ as)) (aStr r) := fun S σ F H p Q g q =>
  ha S σ F H p _ g (q.seq fun a p1 v F1 H1 e1 pl1 r1 h1 => by
    obtain ⟨x, vs, rfl, k1, k2, k3⟩ := rList.of r1
    exact ⟨x, vs, rfl, .inr (SqL.of ((g.ext e1 pl1).sub _ _ k1)), hr S σ F1 H1 p1 _ (g.ext e1 pl1) (h1.seq fun b p2 ws F2 H2 e2 pl2 r2 h2 => h2.now ((g.ext e1 pl1).ext e2 pl2).sub pl2 ((k3.imp fun _ _ => r.mono e2.sub).append r2))⟩)
theorem ea_sV {r : Rl α} {t : TA} {ma : PM (List α)} {mr : PM (List α)} (ha : EvL c Γ ta ma r) (hr : Ea c Γ t mr (aStr r)) : Ea c Γ (StX.tStar c.K ta t) (ma >>= fun a => mr >>= fun as => pure (a ++ as)) (aStr r) := fun S σ F H p Q g q =>
  ha S σ F H p _ g (q.seqH fun a p1 v F1 H1 e1 pl1 r1 h1 => by
    obtain ⟨x, vs, rfl, k1, k2, k3⟩ := lent_at r1
    exact ⟨x, vs, rfl, .inr (SqL.of k1), hr S σ F1 H1 p1 _ (g.ext e1 pl1) (h1.seq fun b p2 ws F2 H2 e2 pl2 r2 h2 => h2.now ((g.ext e1 pl1).ext e2 pl2).sub pl2 ((k3.imp fun _ _ => r.mono e2.sub).append r2))⟩)
theorem en_lstS {r : Rl α} {t : TA} {m : PM (List α)} (h : Ea c Γ t m (aStr r)) : En c Γ (tLst t) (sized m) (oList r) := fun S σ F H p Q g q =>
  h S σ F H p _ g (q.seq fun l p1 vs F1 H1 e1 pl1 r1 h1 => by
    have h1 : PostN c σ F1 H1 (oList r) Q (guardM (l.length ≤ sizeLine) l p1) := h1
    unfold guardM at h1
    by_cases hl : l.length ≤ sizeLine
    · rw [if_pos hl] at h1
      have gs := (g.ext e1 pl1).sub
      have hv : vs.length ≤ sizeLine := by rw [All2.length r1]; exact hl
      exact ⟨hv, fun x hx => h1.now gs pl1 hx ⟨vs, rfl, hv, r1⟩⟩
    · rw [if_neg hl] at h1
      exact h1.elim)
theorem ev_neD {ma mb : PM PyData} (ha : Ev c Γ ta ma (rD c.K)) (hb : Ev c Γ tb mb (rD c.K)) : Ev c Γ (tOp rNe ta tb) (ma >>= fun a => mb >>= fun b => eqD a b >>= fun k => pure (!k)) rBool :=
  ev_op ha hb fun a b S σ F H p x y Q gd hx hy q => by
    have hx' : Dq c.K F x a := hx
    have hy' : Dq c.K F y b := hy
    cases hx' with
    | bl a => cases hy' with
      | bl b => exact ⟨rfl, by rw [dec_V (f := V.bl) (fun _ _ => scBool.inj)]; exact q.now gd.sub gd.pl rfl⟩
      | _ => exact q.elim
    | int a => cases hy' with
      | int b => exact ⟨rfl, by rw [dec_V (f := V.int) (fun _ _ => scInt.inj)]; exact q.now gd.sub gd.pl rfl⟩
      | _ => exact q.elim
    | str a _ => cases hy' with
      | str b _ => exact ⟨rfl, by rw [dec_V (f := V.str) (fun _ _ => scStr.inj)]; exact q.now gd.sub gd.pl rfl⟩
      | _ => exact q.elim
    | non => exact q.elim
    | lst _ _ _ => exact q.elim
    | tup _ _ _ => exact q.elim
/-- a new list, or None -/
theorem el_newO {rr : Ro ρ} {fall : Prop} {m : PM ρ} (h : En c Γ ta m rr) : El c (Rr.fz (rOpt (fz rr))) fall Γ (tRet ta) (m >>= fun a => pure (some a)) := el_ret (ev_some (ev_fz h))
end
end Kf

namespace GBO
open PySem
open PySem.Sem (wp)
open PyProof.Rows
theorem bool_in {prog : Program} {w : World} {x : Addr} : MeetsIn prog w (Builtin.«bool.__new__» ⟨[.type "bool", .ref x], []⟩) (fun A R s => wpAny (model prog w) A.in1 (truthy (.ref x)) (fun b s' => R (.ok (.ret (.bool b))) s') (fun e s' => R (.error e) s') s) :=
  .of_wp fun A R s hs => by
    have f1 := F.conv_sub_bool
    unfold Builtin.«bool.__new__»
    wp_walk using (wpAny_mono hs)
    · exact fun _ _ h => wpAny_pure ⟨_, rfl, h⟩
    · exact fun _ _ h => h
end GBO
set_option maxHeartbeats 4000000
namespace Kf
open PySem PySem.Spec L2
open PyProof.Rows hiding St
section
variable {X : Cx} {CX : CXT} {k : Nat} {f C : Addr} {fd : FuncData} {ps : List Str} {sp : Sp} {E : St → XK} {p pos : Pos} {o : Expr} {to : TE}
/-- bool(o), o an instance with __bool__ -/
def tBoolO (C : Addr) (sp : Sp) (E : St → XK) (to : TE) : TE := fun σ H Q => tCons to tNil σ H fun vs H1 => ∃ q dx fs, vs = [.ref q] ∧ H1 q = some (.ins C dx fs) ∧ sp [.ref q] H1 (fun v H2 => ∃ n : Bool, v = .bl n ∧ Q v H2) (E σ)
theorem pe_boolO (F : FnOk X.prog X.w X.K X.mg X.base CX k f fd ps sp) (hr : Room (k + 2) X.A) (hb : Binds X.K fd ps []) (hx : ∀ σ, PassesAt CX X σ (E σ)) (hm : Meth X.K C "__bool__" f) (hg : Gl X "bool") (hmg : X.mg "bool" = none) (hv : bootBuiltins "bool" = some (.type "bool")) (ha : PA X [o] (tCons to tNil))
    (he : starEach [o] X.env = (false, eval o X.env) :: starEach [] X.env := by rfl) (hpl : (backTo pos (starEach [] X.env)).any (·.1) = false := by rfl) :
    PE X (.Call (.Name "bool" p) [o] [] pos) (tBoolO C sp E to) := ⟨fun pins s σ H Q I h =>
  wpAny_Call_Name_kw (ld_blt I hg hmg hv (PyProof.Rows.callWith_type1 (thn (ha.run pos pins s σ H _ I h) fun us s1 ⟨vs, H1, I1, r1, q, dx, fs, ev, ea, q2⟩ => by
    subst ev
    obtain rfl := Vals.ref1 r1
    obtain ⟨ox, od, J⟩ := ins_at I1 ea
    obtain ⟨m, hF⟩ := I1.fr
    refine callType_newIn PySem.F.called_bool PySem.F.newNe_bool (PySem.F.typeCall_bool_1 _) (PySem.F.newCall_bool_1 _) (fun obj => PySem.F.args_object_init_2 obj _) PySem.F.entry_bool_new GBO.bool_in ?_
    refine PySem.W.truthy_K hF I1.ok.mod.kin J hm.at_ hm.fn (wpAny_mono (run_fnA (us := [.ref q]) (vs := [.ref q]) (dvs := []) (ds := []) F hr.in1.in1 rfl hb .nil (hx σ) I1 (.cons rfl .nil) q2) (fun v s' hv => ?_) fun _ _ z => z)
    obtain ⟨z, H2, I2, rz, n, rfl, hq⟩ := hv
    obtain rfl : v = Value.bool n := rz
    exact ⟨rfl, .bl n, H2, I2, rfl, hq⟩) he hpl))⟩
end
section
variable {c : Cf} {Γ : List Sl} {ta : TE} {α : Type} {x : Str} {fl : α → List FV}
theorem ev_boolI {f : α × Unit → PM Bool} {m : PM α} (h : Ev c Γ ta m (rIns c.K x fl)) :
    Ev c Γ (tBoolO (He.ga c.K x) (spF c.K (aCons (rIns c.K x fl) aNil) f rBool) (WE c.W) ta) (m >>= fun o => frame (f (o, ()))) rBool := fun S σ F H p Q g q =>
  h S σ F H p _ g (q.seq fun o p1 v F1 H1 e1 pl1 r1 h1 => by
    obtain ⟨y, dx, fs, rfl, k1, k2⟩ := rIns.of r1
    refine ⟨y, dx, fs, rfl, (g.ext e1 pl1).sub _ _ k1, F1, (o, ()), p1, (g.ext e1 pl1).sub, ⟨.ref y, [], rfl, r1, rfl⟩, ?_⟩
    have := Post.boolF (u := fun k => k) (Q := Q) pl1 (by rw [bind_pure]; exact h1)
    rcases e : f (o, ()) p1 with ⟨er | n, p2⟩
    · rw [e] at this; cases er <;> exact this
    · rw [e] at this
      intro v F' H' e' pl k
      obtain ⟨k2, e2, e3⟩ := this v F' H' e' pl k
      subst e2
      exact ⟨k2, rfl, e3⟩)
end
/-- a name that a loop may have bound to a value -/
def vw {α : Type} (r : Rl α) : Option α → Sl
  | none => .any
  | some a => .val r a
end Kf

namespace Kf
open PySem PySem.Spec L2
open PyProof.Rows hiding St
/-! ### a dict walked under a lock -/
/-- a locked dict that is lent -/
def rLD {α : Type} (L : Hp) (r : Rl α) : Rl (List (Str × α)) := ⟨fun F v l => ∃ d od kvs, v = .ref d ∧ L d = some (.frz od (.dK kvs)) ∧ kvs.length ≤ sizeLine ∧ All2 (dkR F r) kvs l ∧ NodK l,
  fun s ⟨d, od, kvs, e, h1, h2, h3, h4⟩ => ⟨d, od, kvs, e, h1, h2, h3.imp fun _ _ z => ⟨z.1, z.2.1, r.mono s z.2.2⟩, h4⟩⟩
/-- what does not look at the heap -/
def Flat {α : Type} (r : Rl α) : Prop := ∀ F F' v a, r.rel F v a → r.rel F' v a
theorem flat_int : Flat rInt := fun _ _ _ _ h => h
theorem flat_str : Flat rStr := fun _ _ _ _ h => h
theorem flat_bool : Flat rBool := fun _ _ _ _ h => h
inductive Lf : List Sl → List Sl → Prop
  | nil : Lf [] []
  | any {s : Sl} {Γ Γ' : List Sl} : Lf Γ Γ' → Lf (s :: Γ) (.any :: Γ')
  | flat {β : Type} {u : Rl β} {b : β} {Γ Γ' : List Sl} : Flat u → Lf Γ Γ' → Lf (.val u b :: Γ) (.val u b :: Γ')
inductive Lk {α : Type} (r : Rl α) (l : List (Str × α)) : List Sl → (Hp → List Sl) → Prop
  | here {Γ Γ' : List Sl} : Lf Γ Γ' → Lk r l (.val (rDic r) l :: Γ) (fun L => .val (rLD L r) l :: Γ')
  | any {s : Sl} {Γ : List Sl} {G : Hp → List Sl} : Lk r l Γ G → Lk r l (s :: Γ) (fun L => .any :: G L)
  | flat {β : Type} {u : Rl β} {b : β} {Γ : List Sl} {G : Hp → List Sl} : Flat u → Lk r l Γ G → Lk r l (.val u b :: Γ) (fun L => .val u b :: G L)
theorem Lf.ok {Γ Γ' : List Sl} (h : Lf Γ Γ') : ∀ {F H : Hp} {σ : St}, SlsOk F H Γ σ → ∀ F' H', SlsOk F' H' Γ' σ ∧ ownA Γ' σ = [] := by
  induction h with
  | nil => intro F H σ s F' H'; cases s; exact ⟨.nil, rfl⟩
  | any h ih => intro F H σ s F' H'; cases s with | cons s0 s1 => exact ⟨.cons trivial (ih s1 F' H').1, by have := (ih s1 F' H').2; simpa [ownA] using this⟩
  | flat f h ih =>
    intro F H σ s F' H'
    cases s with
    | cons s0 s1 =>
      obtain ⟨v, e, k⟩ := s0
      exact ⟨.cons ⟨v, e, f _ _ _ _ k⟩ (ih s1 F' H').1, by have := (ih s1 F' H').2; simpa [ownA] using this⟩
theorem Lk.ok {α : Type} {r : Rl α} {l : List (Str × α)} {Γ : List Sl} {G : Hp → List Sl} (fr : Flat r) (h : Lk r l Γ G) : ∀ {F H : Hp} {σ : St}, SlsOk F H Γ σ → ∃ d kvs, F d = some (.dK kvs) ∧ ∀ L od F' H', L d = some (.frz od (.dK kvs)) → SlsOk F' H' (G L) σ ∧ ownA (G L) σ = [] := by
  induction h with
  | here h =>
    intro F H σ s
    cases s with
    | cons s0 s1 =>
      obtain ⟨v, e, d, ho, rfl, k1, ⟨kvs, rfl, k2, k3⟩, k4⟩ := s0
      refine ⟨d, kvs, k1, fun L od F' H' hL => ⟨.cons ⟨.ref d, e, d, od, kvs, rfl, hL, k2, k3.imp fun _ _ z => ⟨z.1, z.2.1, fr _ _ _ _ z.2.2⟩, k4⟩ (h.ok s1 F' H').1, by have := (h.ok s1 F' H').2; simpa [ownA] using this⟩⟩
  | any h ih =>
    intro F H σ s
    cases s with
    | cons s0 s1 =>
      obtain ⟨d, kvs, k1, k⟩ := ih s1
      exact ⟨d, kvs, k1, fun L od F' H' hL => ⟨.cons trivial (k L od F' H' hL).1, by have := (k L od F' H' hL).2; simpa [ownA] using this⟩⟩
  | flat f h ih =>
    intro F H σ s
    cases s with
    | cons s0 s1 =>
      obtain ⟨v, e, z⟩ := s0
      obtain ⟨d, kvs, k1, k⟩ := ih s1
      exact ⟨d, kvs, k1, fun L od F' H' hL => ⟨.cons ⟨v, e, f _ _ _ _ z⟩ (k L od F' H' hL).1, by have := (k L od F' H' hL).2; simpa [ownA] using this⟩⟩
section
variable {c : Cf} {Γ : List Sl} {ta tb : TE} {α : Type} {r : Rl α}
/-- within the lock: nothing is raised, the locked dict is lent -/
def Cf.lk (c : Cf) (L : Hp) : Cf := { c with W := fun _ _ _ _ => False, s := ⟨c.s.a, [], L⟩ }
theorem en_lock {β : Type} {l : List (Str × α)} {G : Hp → List Sl} {t : TE} {m : PM β} {o : Ro β} (fr : Flat r) (hl : Lk r l Γ G) (h : ∀ L, En (c.lk L) (G L) t m o) : En c Γ (tLockE t) (noX m) o := fun S σ F H p Q g q => by
  obtain ⟨d, kvs, hd, k⟩ := hl.ok fr g.sl
  have hHd := g.sub d _ hd
  have qd : c.q ≠ some d := fun z => by
    have pl := g.pl
    unfold PoolOk at pl
    rw [z] at pl
    have := pl.1
    rw [hd] at this
    cases this
  refine ⟨d, .dK kvs, hHd, trivial, fun od => ?_⟩
  let L : Hp := fun a => if a = d then some (.frz od (.dK kvs)) else none
  have hL : L d = some (.frz od (.dK kvs)) := by show (if d = d then _ else _) = _; rw [if_pos rfl]
  let F' : Hp := fun a => if a = d then none else F a
  let H' : Hp := upd H d (.frz od (.dK kvs))
  have Fd : F' d = none := by show (if d = d then _ else _) = _; rw [if_pos rfl]
  have Fo : ∀ {a}, a ≠ d → F' a = F a := fun n => by show (if _ = d then _ else _) = _; rw [if_neg n]
  have Hd : H' d = some (.frz od (.dK kvs)) := upd_same
  have Ho : ∀ {a}, a ≠ d → H' a = H a := fun n => upd_ne n
  have sFH : Same F' H' := fun a o h => by
    by_cases e : a = d
    · subst e; rw [Fd] at h; cases h
    · rw [Fo e] at h; rw [Ho e]; exact g.sub a o h
  have plk : ∀ {F1 H1 F2 H2 : Hp} {sc : SG} {L' : Hp} {p : Pool}, (∀ a, a ≠ d → F1 a = F2 a) → (∀ a, a ≠ d → H1 a = H2 a) → F1 sc.a ≠ none ∧ sc.a ≠ d ∨ c.q = none → PoolOk c.q sc F1 H1 p → PoolOk c.q ⟨sc.a, [], L'⟩ F2 H2 p := fun hF hH hs pl => by
    unfold PoolOk at pl ⊢
    cases e : c.q with
    | none => trivial
    | some a =>
      rw [e] at pl
      have na : a ≠ d := fun z => qd (by rw [e, z])
      rcases hs with hs | hs
      · exact ⟨by rw [← hF a na]; exact pl.1, by rw [← hH a na]; exact pl.2.1, by rw [← hF _ hs.2]; exact pl.2.2.1, pl.2.2.2⟩
      · rw [e] at hs; cases hs
  have scd : F c.s.a ≠ none ∧ c.s.a ≠ d ∨ c.q = none := by
    cases e : c.q with
    | none => exact .inr rfl
    | some a =>
      have pl := g.pl
      unfold PoolOk at pl
      rw [e] at pl
      refine .inl ⟨(fun z => by rw [pl.2.2.1] at z; cases z), fun z => ?_⟩
      rw [← z, pl.2.2.1] at hd
      cases hd
  obtain ⟨s1, s2⟩ := k L od F' H' hL
  have good : Good (F', H') (c.lk L).q (c.lk L).s (G L) σ F' H' p := by
    refine ⟨sFH, s1, by rw [s2]; exact List.nodup_nil, by rw [s2]; simp, by rw [s2]; simp, by rw [s2]; simp, Ext.refl sFH, ?_, SlsG.nil, ⟨?_, ?_⟩⟩
    · exact plk (fun a n => (Fo n).symm) (fun a n => (Ho n).symm) scd g.pl
    · intro a o h
      have h : (if a = d then some (HO.frz od (.dK kvs)) else none) = some o := h
      by_cases e : a = d
      · subst e
        rw [if_pos rfl] at h
        rw [← h]; exact Hd
      · rw [if_neg e] at h; cases h
    · intro x hx
      show (if x = d then _ else _) = _
      rw [if_neg fun z => qd (by rw [← z]; exact hx)]
  refine h L (F', H') σ F' H' p _ good ?_
  unfold noX at q
  rcases e : m p with ⟨er | a, p'⟩
  · rw [e] at q
    cases er <;> exact q.elim
  · rw [e] at q
    intro x ho F1 H1 e1 pl1 nx fx hx qx rx
    have e1 : Ext c.q F' H' F1 H1 := e1
    have h1d : H1 d = some (.frz od (.dK kvs)) := e1.keep d _ Hd qd
    refine ⟨h1d, ?_⟩
    have f1d : F1 d = none := by
      cases z : F1 d with
      | none => rfl
      | some o =>
        rcases e1.new d o z with y | y
        · rw [Fd] at y; cases y
        · rw [Hd] at y; cases y
    have xd : x ≠ d := fun z => by rw [z, Hd] at nx; cases nx
    let F2 : Hp := upd F1 d (.dK kvs)
    let H2 : Hp := upd H1 d (.dK kvs)
    have F2d : F2 d = some (.dK kvs) := upd_same
    have F2o : ∀ {a}, a ≠ d → F2 a = F1 a := fun n => upd_ne n
    have H2d : H2 d = some (.dK kvs) := upd_same
    have H2o : ∀ {a}, a ≠ d → H2 a = H1 a := fun n => upd_ne n
    have s12 : Same F1 F2 := fun a o h => by
      by_cases e : a = d
      · subst e; rw [f1d] at h; cases h
      · rw [F2o e]; exact h
    have e2 : Ext c.q F H F2 H2 := by
      refine ⟨fun a o h => ?_, fun a o h => ?_, fun a o h n => ?_, fun a o h => ?_⟩
      · by_cases e : a = d
        · subst e; rw [hd] at h; rw [F2d]; exact h
        · rw [F2o e]; exact e1.sub a o (by rw [Fo e]; exact h)
      · by_cases e : a = d
        · subst e; rw [F2d] at h; rw [H2d]; exact h
        · rw [F2o e] at h; rw [H2o e]; exact e1.sub' a o h
      · by_cases e : a = d
        · subst e; rw [hHd] at h; rw [H2d]; exact h
        · rw [H2o e]; exact e1.keep a o (by rw [Ho e]; exact h) n
      · by_cases e : a = d
        · subst e; rw [F2d] at h; exact .inl (by rw [hd]; exact h)
        · rw [F2o e] at h
          rcases e1.new a o h with y | y
          · exact .inl (by rw [← Fo e]; exact y)
          · exact .inr (by rw [← Ho e]; exact y)
    have pl2 : PoolOk c.q c.s F2 H2 p' := by
      have pl1 : PoolOk c.q ⟨c.s.a, [], L⟩ F1 H1 p' := pl1
      have scd2 : F1 c.s.a ≠ none ∧ c.s.a ≠ d ∨ c.q = none := by
        rcases scd with y | y
        · refine .inl ⟨fun z => ?_, y.2⟩
          cases w : F c.s.a with
          | none => exact y.1 w
          | some o =>
            have := e1.sub _ o (by rw [Fo y.2]; exact w)
            rw [z] at this; cases this
        · exact .inr y
      have := plk (sc := ⟨c.s.a, [], L⟩) (L' := c.s.L) (fun a n => (F2o n).symm) (fun a n => (H2o n).symm) scd2 pl1
      exact this
    exact q x ho F2 H2 e2 pl2 (by rw [← Ho xd]; exact nx) (by rw [F2o xd]; exact fx) (by rw [H2o xd]; exact hx) qx (o.mono s12 rx)
/-- the keys, one by one -/
theorem ei_keysL (i : Nat) {l : List (Str × α)} (hi : nth Γ i = .val (rLD c.s.L r) l) : Ei c Γ (iKeys (tVar i)) (pure (l.map Prod.fst)) rStr := fun S σ F H p R g q => by
  obtain ⟨v, h1, d, od, kvs, rfl, h2, h3, h4, h5⟩ := g.sl.val hi
  have hs := g.lh _ _ h2
  have hlen : kvs.length = (l.map Prod.fst).length := by rw [List.length_map]; exact h4.length
  refine ⟨_, h1, d, od, rfl, .inl ⟨kvs, hs, q (Itk d od kvs) F H _ _ (Ext.refl g.sub) g.pl (by rw [← hlen]; exact walk_keys) (fun H2 _ s => s _ _ h2) fun j x F2 H2 H3 hj s2 s3 hy => ?_⟩⟩
  obtain ⟨rfl, k, w, hk, rfl⟩ := hy
  refine ⟨F2, Ext.refl s3, fun a ha => ?_⟩
  rw [List.getElem?_map] at ha
  cases e : l[j]? with
  | none => rw [e] at ha; cases ha
  | some b =>
    rw [e] at ha
    obtain rfl := Option.some.inj ha
    obtain ⟨u, hu, ru⟩ := h4.get e
    rw [hk] at hu
    obtain rfl := Option.some.inj hu
    have hk1 : k = .inr b.1 := ru.1
    rw [hk1]
    exact ⟨rfl, ru.2.1⟩
theorem ev_dgetL (i : Nat) {l : List (Str × α)} {mb : PM Str} (hi : nth Γ i = .val (rLD c.s.L r) l) (hb : Ev c Γ tb mb rStr) : Ev c Γ (tDGet (tVar i) tb) (mb >>= fun k => getK l k) r := fun S σ F H p Q g q => by
  obtain ⟨v, h1, d, od, kvs, rfl, h2, h3, h4, h5⟩ := g.sl.val hi
  refine ⟨_, h1, hb S σ F H p _ g (q.seq fun k p2 w F2 H2 e2 pl2 r2 h2' => ?_)⟩
  have g2 := g.ext e2 pl2
  have hs := g2.lh _ _ h2
  have hl := dk_lookup h4 k
  unfold getK at h2'
  cases e : l.lookup k with
  | none => rw [e] at h2'; exact h2'.elim
  | some a =>
    rw [e] at h2' hl
    obtain ⟨u, hu, ru⟩ := hl
    rw [r2.1]
    refine ⟨d, u, rfl, ?_, h2'.now g2.sub pl2 (r.mono e2.sub ru)⟩
    rw [← hu]
    exact .inl ⟨kvs, Sum.inr k, .inr ⟨od, hs⟩, rfl, rfl⟩
/-- x.upper() -/
def upM (x : Str) : PM Str := guardM (x.length ≤ 5592405 ∧ (Txt.upper x).length ≤ sizeLine) (Txt.upper x)
theorem ev_upper {ma : PM Str} (ha : Ev c Γ ta ma rStr) : Ev c Γ (tM0 (fun x xs H Q => ∃ a, x = V.str a ∧ xs = [] ∧ a.length ≤ 5592405 ∧ Q (V.str (Txt.upper a)) H) ta) (ma >>= fun x => upM x) rStr := fun S σ F H p Q g q =>
  ha S σ F H p _ g (q.seq fun x p1 v F1 H1 e1 pl1 r1 h1 => by
    obtain ⟨rfl, hx⟩ := r1
    unfold upM guardM at h1
    split at h1
    · rename_i hc
      exact ⟨⟨x, rfl⟩, x, rfl, rfl, hc.1, h1.now (g.ext e1 pl1).sub pl1 ⟨rfl, hc.2⟩⟩
    · exact h1.elim)
end
end Kf

namespace Kf
open PySem PySem.Spec L2
open PyProof.Rows hiding St
/-! ### properties; tuples of the top -/
def prB (K : PySem.W.Frag) (x m : Str) : Bool := match PySem.W.findIn K (.ref (He.ga K x)) m with
  | some (some (.ref p)) => He.eqO (PySem.W.specialIn K (.ref p) "__get__") (some (some (.builtin "property.__get__"))) && (decide (PySem.W.takesIn K (.ref p) = some true) && (match PySem.W.recIn K p "property" with | some (.ref _ :: _) => true | _ => false))
  | _ => false
theorem prB_ok {K : PySem.W.Frag} {x m : Str} (h : prB K x m = true) : PropOf K (He.ga K x) m (He.ma K (He.ga K x) m) (He5.wf K (He.ga K x) "property" m) := by
  unfold prB at h
  split at h
  · rename_i p e
    simp only [Bool.and_eq_true, decide_eq_true_eq] at h
    obtain ⟨h1, h2, h3⟩ := h
    have ep : He.ma K (He.ga K x) m = p := by unfold He.ma; rw [e]
    split at h3
    · rename_i g rest er
      have eg : He5.wf K (He.ga K x) "property" m = g := by unfold He5.wf; rw [ep, er]
      rw [ep, eg]
      exact ⟨e, He.eqO_ok h1, h2, ⟨rest, er⟩⟩
    · cases h3
  · cases h
section
variable {c : Cf} {Γ : List Sl} {ta : TE} {α γ : Type} {x : Str} {fl : α → List FV}
/-- nothing raised leaves -/
def XF : XK := fun _ _ _ => False
theorem pass_F {P : Program} {w : World} {X : Cx} : Passes (L2N.CX P w) X XF := fun pins σ H s e s' I h => by
  obtain ⟨_, _, _, _, _, _, _, _, _, _, _, _, h⟩ := h
  exact h.elim
theorem ev_prop {f : α × Unit → PM γ} {r : Rl γ} {m : PM α} (h : Ev c Γ ta m (rIns c.K x fl)) :
    Ev c Γ (tProp (He.ga c.K x) (spF c.K (aCons (rIns c.K x fl) aNil) f r) [] XF ta) (m >>= fun o => noX (frame (f (o, ())))) r := fun S σ F H p Q g q =>
  h S σ F H p _ g (q.seq fun o p1 v F1 H1 e1 pl1 r1 h1 => by
    obtain ⟨y, dx, fs, rfl, k1, k2⟩ := rIns.of r1
    refine ⟨y, dx, fs, rfl, (g.ext e1 pl1).sub _ _ k1, F1, (o, ()), p1, (g.ext e1 pl1).sub, ⟨.ref y, [], rfl, r1, rfl⟩, ?_⟩
    have h2 : Post c.nox σ F1 H1 r Q (frame (f (o, ())) p1) := Post.nox h1
    have pl2 : PoolOk c.nox.q c.nox.s F1 H1 p1 := by
      have := pl1
      unfold PoolOk at this ⊢
      exact this
    exact Post.frameL (c := c.nox) (L := fun _ => none) pl2 h2)
theorem ev_gtup {β : Type} {a : Addr} {vs : List V} {r : Rl β} {l : List β} (h : ∀ H, SqT c.K H a vs) (hl : vs.length ≤ sizeLine) (hr : ∀ F, All2 (r.rel F) vs l) : Ev c Γ (tC (.ref a)) (pure l) (rTup c.K r) := fun S σ F H p Q g q => by
  exact q.now g.sub g.pl ⟨a, vs, rfl, h F, hl, hr F⟩
end
end Kf

/-! plain mathematics over the mirror monad -/
namespace Kf
open PySem PySem.Spec L2
open PyProof.Rows hiding St
/-- m goes well from every pool whose place is no less than nought, and its result is as Q says -/
def Dr {α : Type} (m : PM α) (Q : α → Prop) : Prop := ∀ p : Pool, 0 ≤ p.pos → ∃ a p', m p = (.ok a, p') ∧ 0 ≤ p'.pos ∧ Q a
theorem Dr.pure {α : Type} {Q : α → Prop} {a : α} (h : Q a) : Dr (pure a : PM α) Q := fun p hp => ⟨a, p, rfl, hp, h⟩
theorem Dr.bind {α β : Type} {m : PM α} {f : α → PM β} {Q : α → Prop} {R : β → Prop} (h : Dr m Q) (k : ∀ a, Q a → Dr (f a) R) : Dr (m >>= f) R := fun p hp => by
  obtain ⟨a, p', e, hp', q⟩ := h p hp
  obtain ⟨b, p2, e2, hp2, r⟩ := k a q p' hp'
  exact ⟨b, p2, by rw [run_bind, e]; exact e2, hp2, r⟩
theorem Dr.imp {α : Type} {m : PM α} {Q R : α → Prop} (h : Dr m Q) (k : ∀ a, Q a → R a) : Dr m R := fun p hp => by
  obtain ⟨a, p', e, hp', q⟩ := h p hp
  exact ⟨a, p', e, hp', k a q⟩
theorem Dr.ite {α : Type} {c : Prop} [Decidable c] {m n : PM α} {Q : α → Prop} (h : c → Dr m Q) (k : ¬ c → Dr n Q) : Dr (if c then m else n) Q := by
  split
  · exact h ‹_›
  · exact k ‹_›
theorem Dr.eq {α : Type} {m n : PM α} {Q : α → Prop} (e : m = n) (h : Dr n Q) : Dr m Q := e ▸ h
theorem Dr.guard {α : Type} {C : Prop} [Decidable C] {a : α} {Q : α → Prop} (h : C) (q : Q a) : Dr (guardM C a) Q := by
  rw [guardM_pos h]; exact .pure q
theorem Dr.frame {α : Type} {m : PM α} {Q : α → Prop} (h : Dr m Q) : Dr (Kf.frame m) Q := fun p hp => by
  obtain ⟨a, p', e, hp', q⟩ := h p hp
  exact ⟨a, p, by unfold Kf.frame; rw [e], hp, q⟩
theorem Dr.poolGet (k : Nat) : Dr (Kf.poolGet k) (fun v => k = 1 → 0 ≤ v) := fun p hp => ⟨_, p, rfl, hp, by rintro rfl; exact hp⟩
theorem Dr.poolSet (k : Nat) {v : Int} (h : k = 1 → 0 ≤ v) : Dr (Kf.poolSet k v) (fun _ => True) := fun p hp => ⟨(), _, rfl, by
  match k, h with
  | 0, _ => exact hp
  | 1, h => exact h rfl
  | 2, _ => exact hp
  | 3, _ => exact hp
  | _ + 4, _ => exact hp, trivial⟩
theorem Dr.forA {α β : Type} {f : α → β → PM β} {I : β → Prop} : ∀ {l : List α} {b : β}, I b → (∀ a ∈ l, ∀ b, I b → Dr (f a b) I) → Dr (Kf.forA f l b) I
  | [], b, h, _ => .pure h
  | a :: l, b, h, k => .bind (k a (by simp) b h) fun b' hb => Dr.forA hb fun a ha => k a (by simp [ha])
/-- with the walked part at hand -/
theorem Dr.forAn {α β : Type} {f : α → β → PM β} {I : Nat → β → Prop} {n : Nat} : ∀ {l : List α} {b : β} {k : Nat}, l.length + k = n → I k b → (∀ a ∈ l, ∀ j b, j < n → I j b → Dr (f a b) (I (j + 1))) → Dr (Kf.forA f l b) (I n)
  | [], b, k, e, h, _ => .pure (by simp at e; subst e; exact h)
  | a :: l, b, k, e, h, g => .bind (g a (by simp) k b (by simp at e; omega) h) fun b' hb => Dr.forAn (k := k + 1) (by simp at e; omega) hb fun a ha => g a (by simp [ha])
theorem forA_pure {α β : Type} {f : α → β → PM β} {g : β → α → β} : ∀ {l : List α} {b : β}, (∀ a ∈ l, ∀ b, f a b = pure (g b a)) → forA f l b = pure (l.foldl g b)
  | [], b, _ => rfl
  | a :: l, b, h => by
    show (f a b >>= fun b' => forA f l b') = _
    rw [h a (by simp), pure_bind]
    exact forA_pure fun a ha => h a (by simp [ha])
theorem forF_nx {α β ρ : Type} {f : α → β → PM (Fl β ρ)} {b : β} : ∀ {l : List α}, (∀ a ∈ l, f a b = pure (.nx b)) → forF f l b = pure (.nx b)
  | [], _ => rfl
  | a :: l, h => by
    show (f a b >>= andThen fun b' => forF f l b') = _
    rw [h a (by simp), pure_bind]
    exact forF_nx fun a ha => h a (by simp [ha])
/-- a walk that leaves with r at the first that fails -/
theorem forF_all {α ρ : Type} {f : α → Unit → PM (Fl Unit ρ)} {t : α → Bool} {r : ρ} : ∀ {l : List α}, (∀ a ∈ l, f a () = pure (if t a = true then .nx () else .rt r)) → forF f l () = pure (if l.all t = true then .nx () else .rt r)
  | [], _ => rfl
  | a :: l, h => by
    show (f a () >>= andThen fun b' => forF f l b') = _
    rw [h a (by simp), pure_bind]
    cases e : t a with
    | false => simp [e, andThen]
    | true =>
      rw [if_pos rfl]
      show forF f l () = _
      rw [forF_all fun a ha => h a (by simp [ha])]
      simp [e]
theorem Dr.forF {α β ρ : Type} {f : α → β → PM (Fl β ρ)} {I : β → Prop} : ∀ {l : List α} {b : β}, I b → (∀ a ∈ l, ∀ b, I b → Dr (f a b) (fun x => ∃ b', x = .nx b' ∧ I b')) → Dr (Kf.forF f l b) (fun x => ∃ b', x = .nx b' ∧ I b')
  | [], b, h, _ => .pure ⟨b, rfl, h⟩
  | a :: l, b, h, k => .bind (k a (by simp) b h) fun x hx => by
    obtain ⟨b', rfl, hb⟩ := hx
    exact Dr.forF hb fun a ha => k a (by simp [ha])
theorem compE_pure {α β : Type} {e : α → PM β} {g : α → β} : ∀ {l : List α}, (∀ a ∈ l, e a = pure (g a)) → compE e l = pure (l.map g)
  | [], _ => rfl
  | a :: l, h => by
    unfold compE
    rw [h a (by simp), noX_pure, pure_bind, compE_pure fun a ha => h a (by simp [ha])]
    rfl
theorem compF_pure {α β : Type} {t : α → PM Bool} {e : α → PM β} {u : α → Bool} {g : α → β} : ∀ {l : List α}, (∀ a ∈ l, t a = pure (u a)) → (∀ a ∈ l, u a = true → e a = pure (g a)) → compF t e l = pure ((l.filter u).map g)
  | [], _, _ => rfl
  | a :: l, h, k => by
    unfold compF
    rw [h a (by simp), noX_pure, pure_bind, compF_pure (fun a ha => h a (by simp [ha])) fun a ha => k a (by simp [ha])]
    cases hu : u a with
    | false => simp [hu]
    | true =>
      rw [if_pos rfl, k a (by simp) hu, noX_pure, pure_bind, pure_bind]
      simp [hu]
theorem sized_pure {α : Type} {l : List α} (h : l.length ≤ sizeLine) : sized (pure l : PM (List α)) = pure l := by
  unfold sized
  rw [pure_bind, guardM_pos h]
theorem Dr.run {α : Type} {m : PM α} {a : α} (h : Dr m (fun x => x = a)) {p : Pool} (hp : 0 ≤ p.pos) : ∃ p', m p = (.ok a, p') := by
  obtain ⟨b, p', e, _, rfl⟩ := h p hp
  exact ⟨p', e⟩
/-! ### texts, as lists of signs -/
abbrev sl : Nat := sizeLine
theorem sizeLine_val : sizeLine = 16777216 := by decide
def tx (x : Str) : List Nat := x.cps.toList
theorem tx_inj {x y : Str} (h : tx x = tx y) : x = y := by
  obtain ⟨a⟩ := x; obtain ⟨b⟩ := y
  congr 1
  exact Array.toList_inj.mp h
theorem len_tx (x : Str) : x.length = (tx x).length := by
  show x.cps.size = x.cps.toList.length
  simp
theorem tx_app (x y : Str) : tx (x ++ y) = tx x ++ tx y := by
  show (x.cps ++ y.cps).toList = _
  simp [tx]
def chr1 (c : Nat) : Str := ⟨#[c]⟩
theorem tx_chr1 (c : Nat) : tx (chr1 c) = [c] := rfl
theorem len_chr1 (c : Nat) : (chr1 c).length = 1 := rfl
theorem getS_in {x : Str} {i : Int} (h0 : 0 ≤ i) (h1 : i < x.length) : ∃ c, (tx x)[i.toNat]? = some c ∧ getS x i = pure (chr1 c) := by
  have hl : i.toNat < (tx x).length := by rw [← len_tx]; omega
  refine ⟨_, List.getElem?_eq_getElem hl, ?_⟩
  unfold getS atI ixN
  have e : x.cps.toList.length = (tx x).length := rfl
  rw [if_pos h0, if_pos (by rw [e, ← len_tx]; exact h1)]
  show (match x.cps.toList[i.toNat]? with | some ch => _ | none => _) = _
  rw [show x.cps.toList[i.toNat]? = some ((tx x)[i.toNat]) from List.getElem?_eq_getElem hl]
  rfl
theorem inSign_chr (c : Nat) (z : Str) : inSign (chr1 c) z = pure (decide (c ∈ tx z)) := rfl
theorem signsL_eq (x : Str) : signsL x = (tx x).map chr1 := rfl
theorem catS_ok {x y : Str} (h : x.length + y.length ≤ 16777216) : catS x y = pure (x ++ y) := guardM_pos (by rw [sizeLine_val]; exact h)
theorem modM_ok {a b : Int} (h : 0 < b) : modM a b = pure (a % b) := guardM_pos h
theorem divM_okW {a b : Int} (h : 0 < b) (h2 : b.natAbs.log2 < 9000) : divM a b = pure (a / b) := guardM_pos ⟨h, h2⟩
theorem log2_small {b : Int} (h : 0 < b) (h2 : b < 1073741824) : b.natAbs.log2 < 9000 := by
  have : b.natAbs.log2 < 30 := (Nat.log2_lt (by omega)).mpr (by omega)
  omega
theorem divM_ok {a b : Int} (h : 0 < b) (h2 : b < 1073741824) : divM a b = pure (a / b) := divM_okW h (log2_small h h2)
theorem mulM_l {a b : Int} (h : -(2 ^ 64) < a) (h2 : a < 2 ^ 64) : mulM a b = pure (a * b) := guardM_pos (.inl ⟨h, h2⟩)
theorem mulM_r {a b : Int} (h : -(2 ^ 64) < b) (h2 : b < 2 ^ 64) : mulM a b = pure (a * b) := guardM_pos (.inr ⟨h, h2⟩)
theorem rangeM_ok {a b : Int} (h1 : -(2 ^ 62) ≤ a) (h2 : a < 2 ^ 62) (h3 : -(2 ^ 62) ≤ b) (h4 : b < 2 ^ 62) : rangeM a b = pure (irange a b) := guardM_pos ⟨h1, h2, h3, h4⟩
theorem irange_length (a b : Int) : (irange a b).length = (b - a).toNat := by simp [irange]
theorem mem_irange {a b i : Int} : i ∈ irange a b ↔ a ≤ i ∧ i < b := by
  simp only [irange, List.mem_map, List.mem_range]
  constructor
  · rintro ⟨n, hn, rfl⟩; omega
  · rintro ⟨h, k⟩; exact ⟨(i - a).toNat, by omega, by omega⟩
theorem getM_in {α : Type} {l : List α} {i : Int} (h0 : 0 ≤ i) (h1 : i < l.length) : ∃ a, l[i.toNat]? = some a ∧ getM l i = pure a := by
  have hl : i.toNat < l.length := by omega
  refine ⟨_, List.getElem?_eq_getElem hl, ?_⟩
  unfold getM atI ixN
  rw [if_pos h0, if_pos h1]
  show (match l[i.toNat]? with | some a => _ | none => _) = _
  rw [List.getElem?_eq_getElem hl]
theorem appM_ok {α : Type} {l : List α} {a : α} (h : l.length < 16777216) : appM l a = pure (l ++ [a]) := guardM_pos (by rw [sizeLine_val]; exact h)
theorem catL_ok {α : Type} {a b : List α} (h : a.length + b.length ≤ 16777216) : catL a b = pure (a ++ b) := guardM_pos (by rw [sizeLine_val]; exact h)
theorem tx_cutS (x : Str) (lo hi : Option Int) : tx (cutS x lo hi) = ((tx x).drop (HT.sIx x.length 0 lo)).take (HT.sIx x.length x.length hi - HT.sIx x.length 0 lo) := by
  unfold cutS
  simp [tx]
theorem Dr.item {α : Type} {Q : α → Prop} {A : PM α} {K : Int → PM α} (hA : Dr A Q) (hK : ∀ v, Dr (K v) Q) : Dr (Kf.poolGet 1 >>= fun x => poolScr >>= fun x1 => if decide ((x1.length : Int) ≤ x) = true then A else poolScr >>= fun y => Kf.poolGet 1 >>= fun z => getM y z >>= K) Q := fun p hp => by
  show ∃ a p', (if decide ((p.scr.length : Int) ≤ p.pos) = true then A else poolScr >>= fun y => Kf.poolGet 1 >>= fun z => getM y z >>= K) p = (.ok a, p') ∧ _
  by_cases h : (p.scr.length : Int) ≤ p.pos
  · rw [if_pos (decide_eq_true h)]
    exact hA p hp
  · rw [if_neg (by simpa using h)]
    obtain ⟨a, _, e⟩ := getM_in (l := p.scr) (i := p.pos) hp (by omega)
    show ∃ a p', (getM p.scr p.pos >>= K) p = (.ok a, p') ∧ _
    rw [e]
    exact hK a p hp
theorem powM_ok {a b : Int} (h : 0 ≤ b ∧ b ≤ 1000000 ∧ a.natAbs < 2 ^ 64) : powM a b = pure (a ^ b.toNat) := guardM_pos h
theorem len_app (x y : Str) : (x ++ y).length = x.length + y.length := length_app x y
theorem Dr.catS {x y : Str} {m n : Nat} (hx : x.length ≤ m) (hy : y.length ≤ n) (h : m + n ≤ 16777216) : Dr (Kf.catS x y) (fun z => z.length ≤ m + n) := by
  rw [catS_ok (by omega)]
  exact .pure (by rw [len_app]; omega)
theorem len_cut {x : Str} {m : Nat} {lo hi : Option Int} (h : x.length ≤ m) : (cutS x lo hi).length ≤ m := by
  rw [len_tx, tx_cutS, List.length_take, List.length_drop, ← len_tx]
  omega
theorem Dr.catL {α : Type} {x y : List α} {m n : Nat} (hx : x.length ≤ m) (hy : y.length ≤ n) (h : m + n ≤ 16777216) : Dr (Kf.catL x y) (fun z => z.length ≤ m + n) := by
  rw [catL_ok (by omega)]
  exact .pure (by rw [List.length_append]; omega)
theorem Dr.appM {α : Type} {x : List α} {a : α} {m : Nat} (hx : x.length ≤ m) (h : m < 16777216) : Dr (Kf.appM x a) (fun z => z.length ≤ m + 1) := by
  rw [appM_ok (by omega)]
  exact .pure (by rw [List.length_append]; simp; omega)
theorem irange0 (b : Int) : irange 0 b = (List.range b.toNat).map fun (i : Nat) => (i : Int) := by
  unfold irange
  simp
end Kf

/-! plain mathematics: paths, the closure of a table -/
namespace Kf
open PySem PySem.Spec L2
open PyProof.Rows hiding St
/-- a way along R -/
inductive Pth {α : Type} (R : α → α → Prop) : α → α → Prop where
  | refl (a : α) : Pth R a a
  | step {a b c : α} : R a b → Pth R b c → Pth R a c
theorem Pth.one {α : Type} {R : α → α → Prop} {a b : α} (h : R a b) : Pth R a b := .step h (.refl b)
theorem Pth.trans {α : Type} {R : α → α → Prop} {a b c : α} (h : Pth R a b) (k : Pth R b c) : Pth R a c := by
  induction h with
  | refl a => exact k
  | step r _ ih => exact .step r (ih k)
theorem Pth.imp {α : Type} {R S : α → α → Prop} (h : ∀ a b, R a b → S a b) {a b : α} (p : Pth R a b) : Pth S a b := by
  induction p with
  | refl a => exact .refl a
  | step r _ ih => exact .step (h _ _ r) ih
theorem Pth.map {α β : Type} {R : α → α → Prop} {S : β → β → Prop} (f : α → β) (h : ∀ a b, R a b → S (f a) (f b)) {a b : α} (p : Pth R a b) : Pth S (f a) (f b) := by
  induction p with
  | refl a => exact .refl _
  | step r _ ih => exact .step (h _ _ r) ih
/-- what is closed under R and holds at the start -/
theorem Pth.inv {α : Type} {R : α → α → Prop} {P : α → Prop} (h : ∀ a b, P a → R a b → P b) {a b : α} (p : Pth R a b) (ha : P a) : P b := by
  induction p with
  | refl a => exact ha
  | step r _ ih => exact ih (h _ _ ha r)
/-! ### tables -/
structure Sq (n : Nat) (rows : List (List Bool)) : Prop where
  len : rows.length = n
  row : ∀ i, i < n → (rows.getD i []).length = n
theorem getRC_set {n : Nat} {rows : List (List Bool)} (s : Sq n rows) {a b x y : Nat} (ha : a < n) (hb : b < n) : getRC (setRC rows a b) x y = if x = a ∧ y = b then true else getRC rows x y := by
  unfold getRC setRC
  rw [getD_set _ _ _ _ _ (by rw [s.len]; exact ha)]
  by_cases h : x = a
  · subst h
    rw [if_pos rfl, getD_set _ _ _ _ _ (by rw [s.row x ha]; exact hb)]
    by_cases k : y = b
    · rw [if_pos k, if_pos ⟨rfl, k⟩]
    · rw [if_neg k, if_neg fun z => k z.2]
  · rw [if_neg h, if_neg fun z => h z.1]
theorem Sq.set {n : Nat} {rows : List (List Bool)} (s : Sq n rows) {a b : Nat} (ha : a < n) : Sq n (setRC rows a b) := by
  refine ⟨by rw [setRC_len, s.len], fun i hi => ?_⟩
  unfold setRC
  rw [getD_set _ _ _ _ _ (by rw [s.len]; exact ha)]
  by_cases e : i = a
  · subst e; rw [if_pos rfl, List.length_set]; exact s.row i hi
  · rw [if_neg e]; exact s.row i hi
theorem sq_rows0 (n : Nat) : Sq n (rows0 n) := ⟨by simp [rows0], fun i hi => by rw [rows0_getD hi]; simp⟩
theorem getRC_rows0 {n a b : Nat} (ha : a < n) (hb : b < n) : getRC (rows0 n) a b = decide (a = b) := by
  unfold getRC
  rw [rows0_getD ha, getD_at (by simp; exact hb)]
  simp
theorem war3_spec {n mid low : Nat} (hm : mid < n) (hl : low < n) : ∀ (k : Nat) (rows : List (List Bool)), k ≤ n → Sq n rows →
    Sq n ((List.range k).foldl (fun rows high => if getRC rows mid high = true then setRC rows low high else rows) rows) ∧
    ∀ x y, getRC ((List.range k).foldl (fun rows high => if getRC rows mid high = true then setRC rows low high else rows) rows) x y = (getRC rows x y || (decide (x = low) && decide (y < k) && getRC rows mid y))
  | 0, rows, _, s => ⟨s, fun x y => by simp⟩
  | k + 1, rows, hk, s => by
    obtain ⟨s1, h1⟩ := war3_spec hm hl k rows (by omega) s
    rw [List.range_succ, List.foldl_append]
    simp only [List.foldl_cons, List.foldl_nil]
    generalize (List.range k).foldl (fun rows high => if getRC rows mid high = true then setRC rows low high else rows) rows = R at s1 h1 ⊢
    have hmk : getRC R mid k = getRC rows mid k := by
      rw [h1]
      simp
    by_cases hb : getRC R mid k = true
    · rw [if_pos hb]
      refine ⟨s1.set hl, fun x y => ?_⟩
      rw [getRC_set s1 hl (by omega), h1]
      rw [hmk] at hb
      by_cases hx : x = low
      · by_cases hy : y = k
        · subst hx hy
          simp [hb]
        · have : (y < k + 1) = (y < k) := by simp; omega
          simp [hx, hy, this]
      · simp [hx]
    · rw [if_neg hb]
      refine ⟨s1, fun x y => ?_⟩
      rw [h1]
      rw [hmk] at hb
      by_cases hy : y = k
      · subst hy
        simp [hb]
      · have : (y < k + 1) = (y < k) := by simp; omega
        simp [this]
theorem war2_spec {n mid : Nat} (hm : mid < n) : ∀ (k : Nat) (rows : List (List Bool)), k ≤ n → Sq n rows →
    Sq n ((List.range k).foldl (fun rows low => if getRC rows low mid = true then war3 n mid low rows else rows) rows) ∧
    ∀ x y, y < n → getRC ((List.range k).foldl (fun rows low => if getRC rows low mid = true then war3 n mid low rows else rows) rows) x y = (getRC rows x y || (decide (x < k) && getRC rows x mid && getRC rows mid y))
  | 0, rows, _, s => ⟨s, fun x y _ => by simp⟩
  | k + 1, rows, hk, s => by
    obtain ⟨s1, h1⟩ := war2_spec hm k rows (by omega) s
    rw [List.range_succ, List.foldl_append]
    simp only [List.foldl_cons, List.foldl_nil]
    generalize (List.range k).foldl (fun rows low => if getRC rows low mid = true then war3 n mid low rows else rows) rows = R at s1 h1 ⊢
    have hc : getRC R k mid = getRC rows k mid := by
      rw [h1 k mid hm]
      cases getRC rows k mid <;> simp
    have hr : ∀ y, y < n → getRC R mid y = getRC rows mid y := fun y hy => by
      rw [h1 mid y hy]
      cases getRC rows mid y <;> simp
    by_cases hb : getRC R k mid = true
    · rw [if_pos hb]
      obtain ⟨s2, h2⟩ := war3_spec (low := k) hm (by omega) n R (Nat.le_refl _) s1
      refine ⟨s2, fun x y hy => ?_⟩
      have := h2 x y
      unfold war3
      rw [this, h1 x y hy, hr y hy]
      rw [hc] at hb
      by_cases hx : x = k
      · subst hx
        simp [hy, hb]
      · have e : (x < k + 1) = (x < k) := by simp; omega
        simp [hx, e]
    · rw [if_neg hb]
      refine ⟨s1, fun x y hy => ?_⟩
      rw [h1 x y hy]
      rw [hc] at hb
      by_cases hx : x = k
      · subst hx
        simp [hb]
      · have e : (x < k + 1) = (x < k) := by simp; omega
        simp [e]
/-- the walked part of the closing -/
theorem war_part {n : Nat} {rows : List (List Bool)} (s : Sq n rows) : ∀ k, k ≤ n →
    Sq n ((List.range k).foldl (fun rows mid => war2 n mid rows) rows) ∧
    (∀ x y, y < n → getRC rows x y = true → getRC ((List.range k).foldl (fun rows mid => war2 n mid rows) rows) x y = true) ∧
    (∀ x y, x < n → y < n → getRC ((List.range k).foldl (fun rows mid => war2 n mid rows) rows) x y = true → ∃ z, z < n ∧ getRC rows x z = true ∧ Pth (fun a b => a < n ∧ b < n ∧ getRC rows a b = true) z y) ∧
    (∀ m x y, m < k → x < n → y < n → getRC ((List.range k).foldl (fun rows mid => war2 n mid rows) rows) x m = true → getRC ((List.range k).foldl (fun rows mid => war2 n mid rows) rows) m y = true → getRC ((List.range k).foldl (fun rows mid => war2 n mid rows) rows) x y = true)
  | 0, _ => ⟨s, fun _ _ _ h => h, fun x y hx hy h => ⟨y, hy, h, .refl y⟩, fun m x y hm => by omega⟩
  | k + 1, hk => by
    obtain ⟨s1, mo, so, tr⟩ := war_part s k (by omega)
    rw [List.range_succ, List.foldl_append]
    simp only [List.foldl_cons, List.foldl_nil]
    generalize (List.range k).foldl (fun rows mid => war2 n mid rows) rows = R at s1 mo so tr ⊢
    have hkn : k < n := by omega
    obtain ⟨s2, h2⟩ := war2_spec hkn n R (Nat.le_refl _) s1
    have h3 : ∀ x y, x < n → y < n → (getRC (war2 n k R) x y = true ↔ getRC R x y = true ∨ getRC R x k = true ∧ getRC R k y = true) := fun x y hx hy => by
      show getRC ((List.range n).foldl _ R) x y = true ↔ _
      rw [h2 x y hy]
      simp [hx]
    refine ⟨s2, fun x y hy h => ?_, fun x y hx hy h => ?_, fun m x y hm hx hy ha hb => ?_⟩
    · show getRC ((List.range n).foldl _ R) x y = true
      rw [h2 x y hy, mo x y hy h]
      rfl
    · rcases (h3 x y hx hy).mp h with h | ⟨ha, hb⟩
      · exact so x y hx hy h
      · obtain ⟨z, hz, e, p⟩ := so x k hx hkn ha
        obtain ⟨z2, hz2, e2, p2⟩ := so k y hkn hy hb
        exact ⟨z, hz, e, p.trans (.step ⟨hkn, hz2, e2⟩ p2)⟩
    · have hmn : m < n := by omega
      rw [h3 x m hx hmn] at ha
      rw [h3 m y hmn hy] at hb
      rw [h3 x y hx hy]
      by_cases e : m = k
      · subst e
        have ha : getRC R x m = true := ha.elim id fun z => z.1
        have hb : getRC R m y = true := hb.elim id fun z => z.2
        exact .inr ⟨ha, hb⟩
      · have hm : m < k := by omega
        rcases ha with ha | ⟨ha1, ha2⟩ <;> rcases hb with hb | ⟨hb1, hb2⟩
        · exact .inl (tr m x y hm hx hy ha hb)
        · exact .inr ⟨tr m x k hm hx hkn ha hb1, hb2⟩
        · exact .inr ⟨ha1, tr m k y hm hkn hy ha2 hb⟩
        · exact .inr ⟨ha1, hb2⟩
/-- the closed table: paths -/
theorem war_spec {n : Nat} {rows : List (List Bool)} (s : Sq n rows) : Sq n (war n rows) ∧ ∀ x y, x < n → y < n → (getRC (war n rows) x y = true ↔ ∃ z, z < n ∧ getRC rows x z = true ∧ Pth (fun a b => a < n ∧ b < n ∧ getRC rows a b = true) z y) := by
  obtain ⟨s1, mo, so, tr⟩ := war_part s n (Nat.le_refl n)
  refine ⟨s1, fun x y hx hy => ⟨so x y hx hy, ?_⟩⟩
  rintro ⟨z, hz, e, p⟩
  have h0 : getRC (war n rows) x z = true := mo x z hz e
  have h1 : ∀ a b, (a < n ∧ getRC (war n rows) x a = true) → (a < n ∧ b < n ∧ getRC rows a b = true) → (b < n ∧ getRC (war n rows) x b = true) := fun a b ha hr => ⟨hr.2.1, tr a x b hr.1 hx hr.2.1 ha.2 (mo a b hr.2.1 hr.2.2)⟩
  exact (p.inv (P := fun a => a < n ∧ getRC (war n rows) x a = true) h1 ⟨hz, h0⟩).2
end Kf

/-! plain mathematics: what is told, the closed table as paths; dicts; spreading -/
namespace Kf
open PySem PySem.Spec L2
open PyProof.Rows hiding St
/-! ### the closed table -/
theorem told_sq {n : Nat} : ∀ {ps : List (Int × Int)} {rows : List (List Bool)}, Sq n rows → (∀ p ∈ ps, 0 ≤ p.1 ∧ p.1 < n ∧ 0 ≤ p.2 ∧ p.2 < n) →
    Sq n (ps.foldl (fun rows p => setRC rows p.1.toNat p.2.toNat) rows) ∧ ∀ x y : Nat, (getRC (ps.foldl (fun rows p => setRC rows p.1.toNat p.2.toNat) rows) x y = true ↔ getRC rows x y = true ∨ ((x : Int), (y : Int)) ∈ ps)
  | [], rows, s, _ => ⟨s, fun x y => by simp⟩
  | p :: ps, rows, s, h => by
    obtain ⟨h1, h2, h3, h4⟩ := h p (by simp)
    have ha : p.1.toNat < n := by omega
    have hb : p.2.toNat < n := by omega
    obtain ⟨s1, k⟩ := told_sq (ps := ps) (s.set (b := p.2.toNat) ha) fun q hq => h q (List.mem_cons_of_mem _ hq)
    refine ⟨s1, fun x y => ?_⟩
    show getRC (ps.foldl _ (setRC rows p.1.toNat p.2.toNat)) x y = true ↔ _
    rw [k x y, getRC_set s ha hb]
    obtain ⟨a, b⟩ := p
    have e : (x = a.toNat ∧ y = b.toNat) ↔ ((x : Int), (y : Int)) = (a, b) := by
      rw [Prod.mk.injEq]
      have h1 : 0 ≤ a := h1
      have h3 : 0 ≤ b := h3
      show x = a.toNat ∧ y = b.toNat ↔ (x : Int) = a ∧ (y : Int) = b
      omega
    show (if x = a.toNat ∧ y = b.toNat then true else getRC rows x y) = true ∨ _ ↔ _
    by_cases c : x = a.toNat ∧ y = b.toNat
    · rw [if_pos c]
      simp [e.mp c]
    · rw [if_neg c, List.mem_cons]
      constructor
      · rintro (z | z)
        · exact .inl z
        · exact .inr (.inr z)
      · rintro (z | z | z)
        · exact .inl z
        · exact absurd (e.mpr z) c
        · exact .inr z
theorem above_spec {n : Nat} {ps : List (Int × Int)} (h : ∀ p ∈ ps, 0 ≤ p.1 ∧ p.1 < n ∧ 0 ≤ p.2 ∧ p.2 < n) : Sq n (war n (told n ps)) ∧ ∀ a b : Nat, a < n → b < n → (getRC (war n (told n ps)) a b = true ↔ Pth (fun x y : Nat => ((x : Int), (y : Int)) ∈ ps) a b) := by
  obtain ⟨s, k⟩ := told_sq (sq_rows0 n) h
  obtain ⟨s1, k1⟩ := war_spec s
  change ∀ x y, x < n → y < n → (getRC (war n (told n ps)) x y = true ↔ _) at k1
  change Sq n (war n (told n ps)) at s1
  refine ⟨s1, fun a b ha hb => ?_⟩
  rw [k1 a b ha hb]
  have h0 : ∀ x y, x < n → y < n → (getRC (ps.foldl (fun rows p => setRC rows p.1.toNat p.2.toNat) (rows0 n)) x y = true ↔ x = y ∨ ((x : Int), (y : Int)) ∈ ps) := fun x y hx hy => by
    rw [k x y, getRC_rows0 hx hy]
    simp
  constructor
  · rintro ⟨z, hz, e, p⟩
    have st : ∀ x y, x < n → y < n → getRC (ps.foldl (fun rows p => setRC rows p.1.toNat p.2.toNat) (rows0 n)) x y = true → Pth (fun x y : Nat => ((x : Int), (y : Int)) ∈ ps) x y := fun x y hx hy g => by
      rcases (h0 x y hx hy).mp g with rfl | g
      · exact .refl x
      · exact .one g
    refine (st a z ha hz e).trans ?_
    clear e
    induction p with
    | refl c => exact .refl c
    | step r q ih => exact (st _ _ r.1 r.2.1 r.2.2).trans (ih hb r.2.1)
  · intro p
    refine ⟨a, ha, (h0 a a ha ha).mpr (.inl rfl), p.imp fun x y r => ?_⟩
    obtain ⟨h1, h2, h3, h4⟩ := h _ r
    have hx : x < n := by have : (x : Int) < n := h2; omega
    have hy : y < n := by have : (y : Int) < n := h4; omega
    exact ⟨hx, hy, (h0 x y hx hy).mpr (.inr r)⟩
/-! ### dicts -/
theorem putD_lookup {α : Type} {k : Str} {a : α} : ∀ {l : List (Str × α)} {x : Str}, (putD l k a).lookup x = if x = k then some a else l.lookup x
  | [], x => by
    show List.lookup x [(k, a)] = _
    rw [List.lookup_cons]
    by_cases e : x = k
    · subst e; simp
    · have : (x == k) = false := by simpa using e
      rw [this, if_neg e]
  | (y, b) :: l, x => by
    unfold putD
    by_cases e : y = k
    · subst e
      rw [if_pos rfl, List.lookup_cons, List.lookup_cons]
      by_cases e : x = y
      · subst e; simp
      · have : (x == y) = false := by simpa using e
        rw [this, if_neg e]
    · rw [if_neg e, List.lookup_cons, List.lookup_cons, putD_lookup]
      by_cases e2 : x = y
      · subst e2; simp [e]
      · have : (x == y) = false := by simpa using e2
        rw [this]
theorem putD_len {α : Type} {k : Str} {a : α} : ∀ {l : List (Str × α)}, (putD l k a).length ≤ l.length + 1
  | [] => by simp [putD]
  | (y, b) :: l => by
    unfold putD
    by_cases e : y = k
    · rw [if_pos e]; simp
    · rw [if_neg e]
      have := putD_len (k := k) (a := a) (l := l)
      simp; omega
/-- a dict filled over a listing -/
theorem fillK {α : Type} {g : Str → α} {f : Str → List (Str × α) → PM (List (Str × α))} : ∀ {ks : List Str} {b : List (Str × α)}, (∀ k ∈ ks, ∀ b, f k b = setK b k (g k)) → b.length + ks.length ≤ 16777216 →
    ∃ b', forA f ks b = pure b' ∧ (∀ k ∈ ks, b'.lookup k = some (g k)) ∧ (∀ k, k ∉ ks → b'.lookup k = b.lookup k) ∧ b'.length ≤ b.length + ks.length
  | [], b, _, _ => ⟨b, rfl, by simp, fun _ _ => rfl, by simp⟩
  | k :: ks, b, h, hn => by
    have hl := putD_len (k := k) (a := g k) (l := b)
    simp only [List.length_cons] at hn
    obtain ⟨b', e, h1, h2, h3⟩ := fillK (ks := ks) (b := putD b k (g k)) (fun k hk => h k (by simp [hk])) (by omega)
    refine ⟨b', ?_, fun x hx => ?_, fun x hx => ?_, ?_⟩
    · show (f k b >>= fun b' => forA f ks b') = _
      rw [h k (by simp), setK, guardM_pos (by rw [sizeLine_val]; omega), pure_bind]
      exact e
    · by_cases hm : x ∈ ks
      · exact h1 x hm
      · have : x = k := by simpa [hm] using hx
        rw [h2 x hm, putD_lookup, if_pos this, this]
    · rw [h2 x fun z => hx (by simp [z]), putD_lookup, if_neg fun z => hx (by simp [z])]
    · simp only [List.length_cons]; omega
theorem getK_of {α : Type} {l : List (Str × α)} {k : Str} {a : α} (h : l.lookup k = some a) : getK l k = pure a := by
  unfold getK
  rw [h]
/-! ### spreading -/
def ext (found l : List Str) : List Str := l.foldl (fun f b => if b ∈ f then f else f ++ [b]) found
theorem ext_spec : ∀ (l found : List Str), (∃ t, ext found l = found ++ t) ∧ (∀ x, x ∈ ext found l ↔ x ∈ found ∨ x ∈ l) ∧ (found.Nodup → (ext found l).Nodup)
  | [], found => ⟨⟨[], by simp [ext]⟩, fun x => by simp [ext], fun h => h⟩
  | b :: l, found => by
    unfold ext
    rw [List.foldl_cons]
    by_cases h : b ∈ found
    · rw [if_pos h]
      obtain ⟨h1, h2, h3⟩ := ext_spec l found
      refine ⟨h1, fun x => ?_, h3⟩
      rw [show (x ∈ List.foldl _ found l) = (x ∈ ext found l) from rfl, h2]
      constructor
      · rintro (z | z)
        · exact .inl z
        · exact .inr (by simp [z])
      · rintro (z | z)
        · exact .inl z
        · rcases List.mem_cons.mp z with rfl | z
          · exact .inl h
          · exact .inr z
    · rw [if_neg h]
      obtain ⟨⟨t, h1⟩, h2, h3⟩ := ext_spec l (found ++ [b])
      refine ⟨⟨b :: t, ?_⟩, fun x => ?_, fun hn => h3 ?_⟩
      · show ext (found ++ [b]) l = _
        rw [h1]; simp
      · rw [show (x ∈ List.foldl _ (found ++ [b]) l) = (x ∈ ext (found ++ [b]) l) from rfl, h2]
        simp [or_assoc]
      · rw [List.nodup_append]
        exact ⟨hn, by simp, fun a ha c hc => by
          have : c = b := by simpa using hc
          subst this
          intro e; subst e; exact h ha⟩
theorem while_spread {L : Str → List Str} {kinds : List Str} (hc : ∀ k ∈ kinds, ∀ b ∈ L k, b ∈ kinds) (hk : kinds.length ≤ 1000) {T : Int × List Str → PM Bool} {B : Int × List Str → PM (Int × List Str)}
    (hT : ∀ at_ found, T (at_, found) = pure (decide (at_ < (found.length : Int))))
    (hB : ∀ (i : Nat) x found, found[i]? = some x → x ∈ kinds → found.length ≤ 1000 → (ext found (L x)).length ≤ 1000 → B ((i : Int), found) = pure ((i : Int) + 1, ext found (L x)))
    {start : Str} (hs : start ∈ kinds) : ∃ r, whileA T B 100000 (0, [start]) = pure r ∧ ∀ b, b ∈ r.2 ↔ Pth (fun x y => y ∈ L x) start b := by
  have main : ∀ (fuel i : Nat) (found : List Str), found.Nodup → start ∈ found → (∀ x ∈ found, x ∈ kinds ∧ Pth (fun x y => y ∈ L x) start x) → (∀ j x, j < i → found[j]? = some x → ∀ b ∈ L x, b ∈ found) → i ≤ found.length → kinds.length < fuel + i →
      ∃ r, whileA T B fuel ((i : Int), found) = pure r ∧ ∀ b, b ∈ r.2 ↔ Pth (fun x y => y ∈ L x) start b := by
    intro fuel
    induction fuel with
    | zero =>
      intro i found nd hst hf hd hi hl
      have := nd.length_le_of_subset fun x hx => (hf x hx).1
      omega
    | succ fuel ih =>
      intro i found nd hst hf hd hi hl
      have hlen := nd.length_le_of_subset fun x hx => (hf x hx).1
      show ∃ r, (T ((i : Int), found) >>= fun k => if k = true then B ((i : Int), found) >>= fun b' => whileA T B fuel b' else pure ((i : Int), found)) = pure r ∧ _
      rw [hT, pure_bind]
      by_cases h : i < found.length
      · have hx : found[i]? = some found[i] := List.getElem?_eq_getElem h
        have hxm : found[i] ∈ found := List.getElem_mem h
        obtain ⟨hxk, hxp⟩ := hf _ hxm
        obtain ⟨⟨t, e1⟩, e2, e3⟩ := ext_spec (L found[i]) found
        have hsub : ∀ x ∈ ext found (L found[i]), x ∈ kinds ∧ Pth (fun x y => y ∈ L x) start x := fun x hx => by
          rcases (e2 x).mp hx with z | z
          · exact hf x z
          · exact ⟨hc _ hxk x z, hxp.trans (.one z)⟩
        have hlen2 := (e3 nd).length_le_of_subset fun x hx => (hsub x hx).1
        rw [if_pos (by simp; omega), hB i _ found hx hxk (by omega) (by omega), pure_bind]
        refine ih (i + 1) _ (e3 nd) ((e2 _).mpr (.inl hst)) hsub (fun j x hj hjx b hb => ?_) (by rw [e1, List.length_append]; omega) (by omega)
        rw [e1, List.getElem?_append_left (by omega)] at hjx
        by_cases ej : j = i
        · subst ej
          rw [hx] at hjx
          obtain rfl := Option.some.inj hjx
          exact (e2 b).mpr (.inr hb)
        · exact (e2 b).mpr (.inl (hd j x (by omega) hjx b hb))
      · rw [if_neg (by simp; omega)]
        refine ⟨_, rfl, fun b => ⟨fun hb => (hf b hb).2, fun p => ?_⟩⟩
        refine p.inv (P := fun x => x ∈ found) (fun x y hx hr => ?_) hst
        obtain ⟨j, hj, rfl⟩ := List.getElem_of_mem hx
        exact hd j _ (by omega) (List.getElem?_eq_getElem hj) y hr
  refine main 100000 0 [start] (by simp) (by simp) (fun x hx => ?_) (fun j x hj => by omega) (by simp) (by omega)
  have : x = start := by simpa using hx
  subst this
  exact ⟨hs, .refl x⟩
/-! ### orders -/
/-- the kinds above a kind, in the listing -/
noncomputable def up (pairs : List (Str × Str)) (kinds : List Str) (a : Str) : List Str := kinds.filter fun b => @decide (Pth (fun x y => (x, y) ∈ pairs) a b) (Classical.propDecidable _)
theorem mem_up {pairs : List (Str × Str)} {kinds : List Str} {a b : Str} : b ∈ up pairs kinds a ↔ b ∈ kinds ∧ Pth (fun x y => (x, y) ∈ pairs) a b := by
  unfold up
  rw [List.mem_filter]
  simp
/-- forA over a count -/
theorem Dr.forR {β : Type} {f : Int → β → PM β} {I : Nat → β → Prop} {n : Nat} {b : β} (h : I 0 b) (k : ∀ j : Nat, j < n → ∀ b, I j b → Dr (f (j : Int) b) (I (j + 1))) : Dr (Kf.forA f (irange 0 n) b) (I n) := by
  have key : ∀ (m j : Nat) (b : β), j + m = n → I j b → Dr (Kf.forA f ((List.range' j m).map fun (i : Nat) => (i : Int)) b) (I n) := by
    intro m
    induction m with
    | zero =>
      intro j b e h
      have e : j = n := by omega
      subst e
      exact .pure h
    | succ m ih =>
      intro j b e h
      exact .bind (k j (by omega) b h) fun b' hb => ih (j + 1) b' (by omega) hb
  rw [irange0, Int.toNat_natCast, List.range_eq_range']
  exact key n 0 b (by omega) h
end Kf

/-! plain mathematics: words, names, fresh ones -/
namespace Kf
open PySem PySem.Spec L2
open PyProof.Rows hiding St
theorem Dr.noX {α : Type} {m : PM α} {Q : α → Prop} (h : Dr m Q) : Dr (Kf.noX m) Q := fun p hp => by
  obtain ⟨a, p', e, hp', q⟩ := h p hp
  exact ⟨a, p', by unfold Kf.noX; rw [e], hp', q⟩
/-- forA over 1, .., n - 1 -/
theorem Dr.forR1 {β : Type} {f : Int → β → PM β} {I : Nat → β → Prop} {n : Nat} {b : β} (hn : 1 ≤ n) (h : I 1 b) (k : ∀ j : Nat, 1 ≤ j → j < n → ∀ b, I j b → Dr (f (j : Int) b) (I (j + 1))) : Dr (Kf.forA f (irange 1 n) b) (I n) := by
  have key : ∀ (m j : Nat) (b : β), 1 ≤ j → j + m = n → I j b → Dr (Kf.forA f ((List.range' j m).map fun (i : Nat) => (i : Int)) b) (I n) := by
    intro m
    induction m with
    | zero =>
      intro j b h1 e h
      have e : j = n := by omega
      subst e
      exact .pure h
    | succ m ih =>
      intro j b h1 e h
      exact .bind (k j h1 (by omega) b h) fun b' hb => ih (j + 1) b' (by omega) (by omega) hb
  have e : irange 1 (n : Int) = (List.range' 1 (n - 1)).map fun (i : Nat) => (i : Int) := by
    unfold irange
    rw [show ((n : Int) - 1).toNat = n - 1 by omega, List.range_eq_range']
    apply List.ext_getElem
    · simp
    · intro i h1 h2
      simp
  rw [e]
  exact key (n - 1) 1 b (Nat.le_refl 1) (by omega) h
theorem Dr.bindT {α β : Type} {m : PM α} {f : α → PM β} {Q : α → Prop} {R : β → Prop} (h : Dr m Q) (k : ∀ a, Dr (f a) R) : Dr (m >>= f) R := h.bind fun a _ => k a
/-- a comprehension with a wish that draws -/
theorem Dr.compF {α β : Type} {t : α → PM Bool} {e : α → PM β} {P : β → Prop} : ∀ {l : List α}, (∀ a ∈ l, Dr (t a) fun _ => True) → (∀ a ∈ l, Dr (e a) P) → Dr (Kf.compF t e l) (fun r => r.length ≤ l.length ∧ ∀ x ∈ r, P x)
  | [], _, _ => .pure ⟨Nat.le_refl _, by simp⟩
  | a :: l, h, k => by
    unfold Kf.compF
    have ih := Dr.compF (l := l) (fun a ha => h a (by simp [ha])) fun a ha => k a (by simp [ha])
    refine .bind (.noX (h a (by simp))) fun b _ => .ite (fun _ => ?_) fun _ => ?_
    · refine .bind (.noX (k a (by simp))) fun x hx => .bind ih fun r hr => .pure ⟨by simp; exact hr.1, fun y hy => ?_⟩
      rcases List.mem_cons.mp hy with rfl | hy
      · exact hx
      · exact hr.2 y hy
    · exact ih.imp fun r hr => ⟨by simp; omega, hr.2⟩
def AZ : List Nat := tx "abcdefghijklmnopqrstuvwxyz"
def AN : List Nat := tx "abcdefghijklmnopqrstuvwxyz.0123456789"
theorem AZ_AN : ∀ c ∈ AZ, c ∈ AN := by decide +kernel
def sgn (x : Str) (i : Nat) : Nat := (tx x).getD i 0
theorem sgn_mem {x : Str} {i : Nat} (h : i < x.length) : sgn x i ∈ tx x := by
  rw [len_tx] at h
  unfold sgn
  rw [List.getD_eq_getElem?_getD, List.getElem?_eq_getElem h]
  exact List.getElem_mem h
theorem getS_sgn {x : Str} {i : Int} (h0 : 0 ≤ i) (h1 : i < x.length) : getS x i = pure (chr1 (sgn x i.toNat)) := by
  obtain ⟨c, e, h⟩ := getS_in h0 h1
  rw [h]
  unfold sgn
  rw [List.getD_eq_getElem?_getD, e]
  rfl
/-- a word: the first sign a letter, all signs of the longer list -/
def WD (x : Str) : Prop := (∃ c ∈ AZ, ∃ t, tx x = c :: t) ∧ ∀ d ∈ tx x, d ∈ AN
def KN (x : Str) : Prop := WD x ∧ x.length ≤ 24
theorem WD.pos {x : Str} (h : WD x) : 1 ≤ x.length := by
  obtain ⟨⟨c, _, t, e⟩, _⟩ := h
  rw [len_tx, e]; simp
theorem WD.chr {c : Nat} (h : c ∈ AZ) : WD (chr1 c) := ⟨⟨c, h, [], rfl⟩, fun d hd => by
  have : d = c := by simpa [tx_chr1] using hd
  subst this
  exact AZ_AN _ h⟩
theorem WD.app {x y : Str} (h : WD x) (k : ∀ d ∈ tx y, d ∈ AN) : WD (x ++ y) := by
  obtain ⟨⟨c, hc, t, e⟩, h2⟩ := h
  refine ⟨⟨c, hc, t ++ tx y, by rw [tx_app, e]; rfl⟩, fun d hd => ?_⟩
  rw [tx_app] at hd
  rcases List.mem_append.mp hd with z | z
  · exact h2 d z
  · exact k d z
theorem WD.appc {x : Str} {c : Nat} (h : WD x) (k : c ∈ AN) : WD (x ++ chr1 c) := h.app fun d hd => by
  have : d = c := by simpa [tx_chr1] using hd
  subst this; exact k
theorem tx_take {x : Str} {i : Nat} (h : i ≤ x.length) : tx (cutS x none (some (i : Int))) = (tx x).take i := by
  rw [tx_cutS]
  have : HT.sIx x.length x.length (some (i : Int)) = i := by
    show (if (i : Int) < 0 then (x.length - (-(i : Int)).toNat) else min (i : Int).toNat x.length) = _
    rw [if_neg (by omega)]
    omega
  rw [this]
  rfl
theorem tx_drop {x : Str} {i : Nat} (h : i ≤ x.length) : tx (cutS x (some (i : Int)) none) = (tx x).drop i := by
  rw [tx_cutS]
  have : HT.sIx x.length 0 (some (i : Int)) = i := by
    show (if (i : Int) < 0 then (x.length - (-(i : Int)).toNat) else min (i : Int).toNat x.length) = _
    rw [if_neg (by omega)]
    omega
  rw [this]
  show ((tx x).drop i).take (x.length - i) = _
  rw [List.take_of_length_le (by rw [List.length_drop, ← len_tx]; omega)]
theorem tx_take_any {x : Str} {i : Nat} : tx (cutS x none (some (i : Int))) = (tx x).take i := by
  by_cases h : i ≤ x.length
  · exact tx_take h
  · rw [tx_cutS]
    have : HT.sIx x.length x.length (some (i : Int)) = x.length := by
      show (if (i : Int) < 0 then (x.length - (-(i : Int)).toNat) else min (i : Int).toNat x.length) = _
      rw [if_neg (by omega)]
      omega
    rw [this]
    show ((tx x).drop 0).take (x.length - 0) = _
    rw [List.drop_zero, Nat.sub_zero, List.take_of_length_le (by rw [← len_tx]; omega), List.take_of_length_le (by rw [← len_tx]; omega)]
theorem WD.take {x : Str} {i : Nat} (h : WD x) (hi : 0 < i) : WD (cutS x none (some (i : Int))) := by
  obtain ⟨⟨c, hc, t, e⟩, h2⟩ := h
  refine ⟨⟨c, hc, t.take (i - 1), ?_⟩, fun d hd => ?_⟩
  · rw [tx_take_any, e]
    obtain ⟨j, rfl⟩ : ∃ j, i = j + 1 := ⟨i - 1, by omega⟩
    simp
  · rw [tx_take_any] at hd
    exact h2 d (List.mem_of_mem_take hd)
/-! ### numbers written out -/
def strI (i : Int) : Str := toString i
theorem strI_tab : ∀ k ∈ List.range 99, (strI (k : Int)).length ≤ 2 ∧ 1 ≤ (strI (k : Int)).length ∧ ∀ d ∈ tx (strI (k : Int)), d ∈ AN := by decide +kernel
theorem strI_nod : ((List.range 99).map fun (k : Nat) => strI (k : Int)).Nodup := by decide +kernel
theorem strI_inj {i j : Nat} (hi : i < 99) (hj : j < 99) (h : strI (i : Int) = strI (j : Int)) : i = j := by
  have := (List.getElem_inj (h₀ := by simpa using hi) (h₁ := by simpa using hj) strI_nod).mp (by simpa using h)
  exact this
theorem strM_ok {k : Nat} (h : k < 99) : strM (k : Int) = pure (strI (k : Int)) := by
  have := (strI_tab k (List.mem_range.mpr h)).1
  have h2 : (k : Int).natAbs.log2 < 1920 := by
    have : (k : Int).natAbs = k := by omega
    rw [this]
    have := Nat.log2_le_self k
    omega
  exact guardM_pos ⟨h2, by rw [sizeLine_val]; exact Nat.le_trans this (by decide)⟩
/-- the candidates for a fresh word -/
def cand (w : Str) (k : Nat) : Str := if 0 < k then cutS w none (some 20) ++ strI (k : Int) else w
theorem cand_inj {w : Str} (h : w.length ≤ 20 ∨ w.length = 24) {i j : Nat} (hi : i < 99) (hj : j < 99) (e : cand w i = cand w j) : i = j := by
  have hc : (tx (cutS w none (some 20))) = (tx w).take 20 := tx_take_any (i := 20)
  have main : ∀ i j, 0 < i → i < 99 → cand w i = cand w j → j < 99 → i = j := fun i j h0 hi e hj => by
    by_cases h1 : 0 < j
    · unfold cand at e
      rw [if_pos h0, if_pos h1] at e
      have e2 := congrArg tx e
      rw [tx_app, tx_app] at e2
      exact strI_inj hi hj (tx_inj (List.append_cancel_left e2))
    · unfold cand at e
      rw [if_pos h0, if_neg h1] at e
      have e2 := congrArg (fun z => (tx z).length) e
      simp only [tx_app, List.length_append, hc, List.length_take] at e2
      have l := strI_tab i (List.mem_range.mpr hi)
      rw [len_tx] at h
      simp only [len_tx] at l
      omega
  by_cases h0 : 0 < i
  · exact main i j h0 hi e hj
  · by_cases h1 : 0 < j
    · exact (main j i h1 hj e.symm hi).symm
    · omega
theorem forF_first {α ρ : Type} {f : α → Unit → PM (Fl Unit ρ)} {t : α → Prop} {r : α → ρ} : ∀ {l : List α}, (∀ a ∈ l, t a → f a () = pure (.rt (r a))) → (∀ a ∈ l, ¬ t a → f a () = pure (.nx ())) → (∃ a ∈ l, t a) → ∃ a ∈ l, t a ∧ forF f l () = pure (.rt (r a))
  | [], _, _, h => by obtain ⟨a, h, _⟩ := h; simp at h
  | a :: l, h1, h2, h => by
    by_cases ht : t a
    · refine ⟨a, by simp, ht, ?_⟩
      show (f a () >>= andThen fun b' => forF f l b') = _
      rw [h1 a (by simp) ht]
      rfl
    · obtain ⟨b, hb, htb, e⟩ := forF_first (l := l) (fun a ha => h1 a (by simp [ha])) (fun a ha => h2 a (by simp [ha])) (by
        obtain ⟨b, hb, htb⟩ := h
        rcases List.mem_cons.mp hb with rfl | hb
        · exact absurd htb ht
        · exact ⟨b, hb, htb⟩)
      refine ⟨b, by simp [hb], htb, ?_⟩
      show (f a () >>= andThen fun b' => forF f l b') = _
      rw [h2 a (by simp) ht]
      exact e
theorem fresh_has {w : Str} (h : w.length ≤ 20 ∨ w.length = 24) {names : List Str} (hn : names.length ≤ 90) : ∃ k ∈ irange 0 ((names.length : Int) + 1), cand w k.toNat ∉ names := by
  refine Classical.byContradiction fun hne => ?_
  have hall : ∀ k ∈ List.range (names.length + 1), cand w k ∈ names := fun k hk => Classical.byContradiction fun z => hne ⟨(k : Int), by
    rw [mem_irange]
    have := List.mem_range.mp hk
    omega, by rw [Int.toNat_natCast]; exact z⟩
  have nd : ((List.range (names.length + 1)).map (cand w)).Nodup := by
    rw [List.Nodup, List.pairwise_map]
    refine List.Pairwise.imp_of_mem (R := (· < ·)) (fun {a b} ha hb hab e => ?_) List.pairwise_lt_range
    have ha := List.mem_range.mp ha
    have hb := List.mem_range.mp hb
    have := cand_inj h (by omega) (by omega) e
    omega
  have := nd.length_le_of_subset (l₂ := names) fun x hx => by
    obtain ⟨k, hk, rfl⟩ := List.mem_map.mp hx
    exact hall k hk
  simp at this
  omega
end Kf

/-! plain mathematics: runs by turns, and the searches that find them -/
namespace Kf
open PySem PySem.Spec L2
open PyProof.Rows hiding St
/-- what is reached in so many runs -/
def Lv {α : Type} (U D : α → α → Prop) (f : Bool) (s : α) : Nat → α → Prop
  | 0, x => x = s
  | r + 1, x => ∃ y, Lv U D f s r y ∧ Pth (if decide (r % 2 = 0) = f then U else D) y x
section
variable {α : Type} {U D : α → α → Prop} {f : Bool} {s : α}
theorem Lv.succ {r : Nat} {x : α} (h : Lv U D f s r x) : Lv U D f s (r + 1) x := ⟨x, h, .refl x⟩
theorem Lv.le {r k : Nat} {x : α} (hk : r ≤ k) (h : Lv U D f s r x) : Lv U D f s k x := by
  induction hk with
  | refl => exact h
  | step _ ih => exact ih.succ
theorem Lv.stab {r : Nat} (h1 : ∀ x, Lv U D f s (r + 1) x → Lv U D f s r x) (h2 : ∀ x, Lv U D f s (r + 2) x → Lv U D f s (r + 1) x) : ∀ (k : Nat) {x : α}, Lv U D f s k x → Lv U D f s r x := by
  have key : ∀ (k : Nat) (x : α), Lv U D f s (r + k) x → Lv U D f s r x := by
    intro k
    induction k with
    | zero => exact fun x h => h
    | succ k ih =>
      rintro x ⟨y, hy, p⟩
      have hy := ih y hy
      have p : Pth (if decide ((r + k) % 2 = 0) = f then U else D) y x := p
      by_cases e : k % 2 = 0
      · have : (r + k) % 2 = r % 2 := by omega
        rw [this] at p
        exact h1 x ⟨y, hy, p⟩
      · have : (r + k) % 2 = (r + 1) % 2 := by omega
        rw [this] at p
        exact h1 x (h2 x ⟨y, hy.succ, p⟩)
  intro k x h
  exact key k x (h.le (by omega))
/-- the least number of runs, if any -/
def Cn (U D : α → α → Prop) (f : Bool) (s x : α) : Option Int → Prop
  | some c => ∃ r : Nat, c = r ∧ Lv U D f s r x ∧ ∀ k < r, ¬ Lv U D f s k x
  | none => ∀ r, ¬ Lv U D f s r x
theorem Cn.uniq {x : α} {a b : Option Int} (h : Cn U D f s x a) (k : Cn U D f s x b) : a = b := by
  cases a with
  | none =>
    cases b with
    | none => rfl
    | some c =>
      obtain ⟨r, _, h1, _⟩ := k
      exact (h r h1).elim
  | some c =>
    obtain ⟨r, rfl, h1, h2⟩ := h
    cases b with
    | none => exact (k r h1).elim
    | some d =>
      obtain ⟨r', rfl, k1, k2⟩ := k
      rcases Nat.lt_trichotomy r r' with z | z | z
      · exact (k2 r z h1).elim
      · rw [z]
      · exact (h2 r' z k1).elim
/-- a copy: the links of the image of a name are the images of its links -/
theorem Pth.copy {β : Type} {P : α → Prop} {g : α → β} {R : α → α → Prop} {S : β → β → Prop} (h : ∀ a, P a → ∀ y, S (g a) y ↔ ∃ b, P b ∧ R a b ∧ g b = y) (hP : ∀ a b, P a → R a b → P b) {a : α} (ha : P a) {y : β} : Pth S (g a) y ↔ ∃ b, P b ∧ Pth R a b ∧ g b = y := by
  constructor
  · intro p
    generalize e : g a = z at p
    induction p generalizing a with
    | refl x => exact ⟨a, ha, .refl a, e⟩
    | step r p ih =>
      subst e
      obtain ⟨b, hb, r', rfl⟩ := (h a ha _).mp r
      obtain ⟨c, hc, p', e⟩ := ih hb rfl
      exact ⟨c, hc, .step r' p', e⟩
  · rintro ⟨b, hb, p, rfl⟩
    induction p with
    | refl x => exact .refl _
    | step r p ih => exact .step ((h _ ha _).mpr ⟨_, hP _ _ ha r, r, rfl⟩) (ih (hP _ _ ha r) hb)
theorem Lv.copy {β : Type} {P : α → Prop} {g : α → β} {U' D' : β → β → Prop} (hU : ∀ a, P a → ∀ y, U' (g a) y ↔ ∃ b, P b ∧ U a b ∧ g b = y) (hD : ∀ a, P a → ∀ y, D' (g a) y ↔ ∃ b, P b ∧ D a b ∧ g b = y)
    (cU : ∀ a b, P a → U a b → P b) (cD : ∀ a b, P a → D a b → P b) (hs : P s) : ∀ (r : Nat) (y : β), Lv U' D' f (g s) r y ↔ ∃ x, P x ∧ Lv U D f s r x ∧ g x = y
  | 0, y => by
    constructor
    · intro h
      exact ⟨s, hs, rfl, (show y = g s from h).symm⟩
    · rintro ⟨x, _, h, rfl⟩
      have h : x = s := h
      subst h
      exact rfl
  | r + 1, y => by
    have ih := Lv.copy hU hD cU cD hs r
    constructor
    · rintro ⟨z, hz, p⟩
      obtain ⟨x, hx, hl, rfl⟩ := (ih z).mp hz
      by_cases e : decide (r % 2 = 0) = f
      · rw [if_pos e] at p
        obtain ⟨b, hb, p', e'⟩ := (Pth.copy hU cU hx).mp p
        exact ⟨b, hb, ⟨x, hl, by rw [if_pos e]; exact p'⟩, e'⟩
      · rw [if_neg e] at p
        obtain ⟨b, hb, p', e'⟩ := (Pth.copy hD cD hx).mp p
        exact ⟨b, hb, ⟨x, hl, by rw [if_neg e]; exact p'⟩, e'⟩
    · rintro ⟨b, hb, ⟨x, hl, p⟩, rfl⟩
      have hx : P x := by
        have : ∀ (k : Nat) (x : α), Lv U D f s k x → P x := by
          intro k
          induction k with
          | zero => intro x h; rw [show x = s from h]; exact hs
          | succ k ih =>
            rintro x ⟨y, hy, p⟩
            refine p.inv (fun a b ha hr => ?_) (ih y hy)
            split at hr
            · exact cU a b ha hr
            · exact cD a b ha hr
        exact this r x hl
      refine ⟨g x, (ih _).mpr ⟨x, hx, hl, rfl⟩, ?_⟩
      by_cases e : decide (r % 2 = 0) = f
      · rw [if_pos e] at p ⊢
        exact (Pth.copy hU cU hx).mpr ⟨b, hb, p, rfl⟩
      · rw [if_neg e] at p ⊢
        exact (Pth.copy hD cD hx).mpr ⟨b, hb, p, rfl⟩
theorem Cn.copy {β : Type} {P : α → Prop} {g : α → β} {U' D' : β → β → Prop} (hU : ∀ a, P a → ∀ y, U' (g a) y ↔ ∃ b, P b ∧ U a b ∧ g b = y) (hD : ∀ a, P a → ∀ y, D' (g a) y ↔ ∃ b, P b ∧ D a b ∧ g b = y)
    (cU : ∀ a b, P a → U a b → P b) (cD : ∀ a b, P a → D a b → P b) (hs : P s) (inj : ∀ a b, P a → P b → g a = g b → a = b) {x : α} (hx : P x) {o : Option Int} : Cn U' D' f (g s) (g x) o ↔ Cn U D f s x o := by
  have key : ∀ r, Lv U' D' f (g s) r (g x) ↔ Lv U D f s r x := fun r => by
    rw [Lv.copy hU hD cU cD hs r]
    constructor
    · rintro ⟨y, hy, h, e⟩
      rw [← inj y x hy hx e]
      exact h
    · exact fun h => ⟨x, hx, h, rfl⟩
  cases o with
  | none => simp only [Cn, key]
  | some c => simp only [Cn, key]
theorem Lv.congr {U' D' : α → α → Prop} (hU : ∀ a b, Pth U a b ↔ Pth U' a b) (hD : ∀ a b, Pth D a b ↔ Pth D' a b) : ∀ (r : Nat) (x : α), Lv U D f s r x ↔ Lv U' D' f s r x
  | 0, x => Iff.rfl
  | r + 1, x => by
    have ih := Lv.congr hU hD r
    constructor
    · rintro ⟨y, hy, p⟩
      refine ⟨y, (ih y).mp hy, ?_⟩
      split at p <;> rename_i e
      · rw [if_pos e]; exact (hU _ _).mp p
      · rw [if_neg e]; exact (hD _ _).mp p
    · rintro ⟨y, hy, p⟩
      refine ⟨y, (ih y).mpr hy, ?_⟩
      split at p <;> rename_i e
      · rw [if_pos e]; exact (hU _ _).mpr p
      · rw [if_neg e]; exact (hD _ _).mpr p
theorem Cn.congr {U' D' : α → α → Prop} (hU : ∀ a b, Pth U a b ↔ Pth U' a b) (hD : ∀ a b, Pth D a b ↔ Pth D' a b) {x : α} {o : Option Int} : Cn U D f s x o ↔ Cn U' D' f s x o := by
  cases o with
  | none => simp only [Cn, Lv.congr hU hD]
  | some c => simp only [Cn, Lv.congr hU hD]
end
/-! ### loops -/
theorem forA_inv {α β : Type} {f : α → β → PM β} {g : β → α → β} {I : β → Prop} : ∀ {l : List α} {b : β}, I b → (∀ a ∈ l, ∀ b, I b → f a b = pure (g b a) ∧ I (g b a)) → forA f l b = pure (l.foldl g b) ∧ I (l.foldl g b)
  | [], b, h, _ => ⟨rfl, h⟩
  | a :: l, b, h, k => by
    obtain ⟨e, h2⟩ := k a (by simp) b h
    have := forA_inv (l := l) h2 fun x hx => k x (by simp [hx])
    refine ⟨?_, this.2⟩
    show (f a b >>= fun b' => forA f l b') = _
    rw [e, pure_bind]
    exact this.1
section
variable {A S W : Type} [DecidableEq A] {fnd : S → List A} {add : A → S → A → S}
/-- what one name adds -/
def grow (fnd : S → List A) (add : A → S → A → S) (x : A) (s : S) (l : List A) : S := l.foldl (fun s b => if b ∈ fnd s then s else add x s b) s
theorem grow_fnd (h1 : ∀ x s b, fnd (add x s b) = fnd s ++ [b]) {x : A} : ∀ (l : List A) (s : S), ∃ t, fnd (grow fnd add x s l) = fnd s ++ t ∧ (t = [] → grow fnd add x s l = s) ∧ (∀ b, b ∈ fnd (grow fnd add x s l) ↔ b ∈ fnd s ∨ b ∈ l) ∧ ((fnd s).Nodup → (fnd (grow fnd add x s l)).Nodup)
  | [], s => ⟨[], by simp [grow], fun _ => rfl, fun b => by simp [grow], fun h => h⟩
  | b :: l, s => by
    obtain ⟨t, e, e0, e1, e2⟩ := grow_fnd h1 l (if b ∈ fnd s then s else add x s b)
    have ge : grow fnd add x s (b :: l) = grow fnd add x (if b ∈ fnd s then s else add x s b) l := rfl
    rw [ge]
    by_cases hb : b ∈ fnd s
    · rw [if_pos hb] at e e0 e1 e2 ⊢
      refine ⟨t, e, e0, fun c => ?_, e2⟩
      rw [e1 c, List.mem_cons]
      constructor
      · rintro (z | z)
        · exact .inl z
        · exact .inr (.inr z)
      · rintro (z | rfl | z)
        · exact .inl z
        · exact .inl hb
        · exact .inr z
    · rw [if_neg hb] at e e0 e1 e2 ⊢
      refine ⟨b :: t, by rw [e, h1]; simp, (fun z => by cases z), fun c => ?_, fun nd => e2 ?_⟩
      · rw [e1 c, h1, List.mem_append, List.mem_singleton, List.mem_cons]
        constructor
        · rintro ((z | z) | z)
          · exact .inl z
          · exact .inr (.inl z)
          · exact .inr (.inr z)
        · rintro (z | z | z)
          · exact .inl (.inl z)
          · exact .inl (.inr z)
          · exact .inr z
      · rw [h1]
        refine List.nodup_append.mpr ⟨nd, by simp, fun a ha c hc => ?_⟩
        rw [List.mem_singleton] at hc
        subst hc
        exact fun z => hb (z ▸ ha)
theorem grow_inv {J : S → Prop} {x : A} {L : List A} (h1 : ∀ x s b, fnd (add x s b) = fnd s ++ [b]) (h2 : ∀ s b, J s → x ∈ fnd s → b ∈ L → b ∉ fnd s → J (add x s b)) : ∀ (l : List A) (s : S), (∀ b ∈ l, b ∈ L) → J s → x ∈ fnd s → J (grow fnd add x s l)
  | [], s, _, h, _ => h
  | b :: l, s, hl, h, hx => by
    show J (grow fnd add x (if b ∈ fnd s then s else add x s b) l)
    by_cases hb : b ∈ fnd s
    · rw [if_pos hb]
      exact grow_inv h1 h2 l s (fun c hc => hl c (by simp [hc])) h hx
    · rw [if_neg hb]
      exact grow_inv h1 h2 l _ (fun c hc => hl c (by simp [hc])) (h2 s b h hx (hl b (by simp)) hb) (by rw [h1]; simp [hx])
theorem grow_z {Z : S → Prop} {x : A} (h1 : ∀ x s b, fnd (add x s b) = fnd s ++ [b]) (hz : ∀ x s b, Z (add x s b)) : ∀ (l : List A) (s : S), Z s ∨ (∃ b ∈ l, b ∉ fnd s) → Z (grow fnd add x s l)
  | [], s, h => by
    rcases h with h | ⟨b, hb, _⟩
    · exact h
    · cases hb
  | b :: l, s, h => by
    show Z (grow fnd add x (if b ∈ fnd s then s else add x s b) l)
    by_cases hb : b ∈ fnd s
    · rw [if_pos hb]
      refine grow_z h1 hz l s ?_
      rcases h with h | ⟨c, hc, k⟩
      · exact .inl h
      · rcases List.mem_cons.mp hc with rfl | hc
        · exact (k hb).elim
        · exact .inr ⟨c, hc, k⟩
    · rw [if_neg hb]
      exact grow_z h1 hz l _ (.inl (hz _ _ _))
/-- the search along links, from all that is found -/
theorem bfs {L : A → List A} {K : List A} (hc : ∀ k ∈ K, ∀ b ∈ L k, b ∈ K) (hk : K.length ≤ 1000) {J Z : S → Prop} {w : Nat → S → W} {T : W → PM Bool} {B : W → PM W}
    (h1 : ∀ x s b, fnd (add x s b) = fnd s ++ [b]) (h2 : ∀ x s b, J s → x ∈ fnd s → b ∈ L x → b ∉ fnd s → J (add x s b)) (hz : ∀ x s b, Z (add x s b))
    (hT : ∀ i s, J s → T (w i s) = pure (decide ((i : Int) < ((fnd s).length : Int)))) (hB : ∀ i x s, J s → (fnd s)[i]? = some x → x ∈ K → (fnd s).Nodup → (fnd s).length ≤ 1000 → (fnd (grow fnd add x s (L x))).length ≤ 1000 → B (w i s) = pure (w (i + 1) (grow fnd add x s (L x))))
    {s0 : S} (j0 : J s0) (nd : (fnd s0).Nodup) (hK : ∀ x ∈ fnd s0, x ∈ K) :
    ∃ s' m t, whileA T B 100000 (w 0 s0) = pure (w m s') ∧ J s' ∧ (fnd s').Nodup ∧ (∀ x ∈ fnd s', x ∈ K) ∧ fnd s' = fnd s0 ++ t ∧ (t = [] → s' = s0) ∧ (t ≠ [] → Z s') ∧ ∀ b, b ∈ fnd s' ↔ ∃ a ∈ fnd s0, Pth (fun x y => y ∈ L x) a b := by
  have main : ∀ (fuel i : Nat) (s : S) (t : List A), J s → (fnd s).Nodup → (∀ x ∈ fnd s, x ∈ K ∧ ∃ a ∈ fnd s0, Pth (fun x y => y ∈ L x) a x) → (∀ j x, j < i → (fnd s)[j]? = some x → ∀ b ∈ L x, b ∈ fnd s) → i ≤ (fnd s).length → K.length < fuel + i → fnd s = fnd s0 ++ t → (t = [] → s = s0) → (t ≠ [] → Z s) →
      ∃ s' m t, whileA T B fuel (w i s) = pure (w m s') ∧ J s' ∧ (fnd s').Nodup ∧ (∀ x ∈ fnd s', x ∈ K) ∧ fnd s' = fnd s0 ++ t ∧ (t = [] → s' = s0) ∧ (t ≠ [] → Z s') ∧ ∀ b, b ∈ fnd s' ↔ ∃ a ∈ fnd s0, Pth (fun x y => y ∈ L x) a b := by
    intro fuel
    induction fuel with
    | zero =>
      intro i s t j nd hf hd hi hl
      have := nd.length_le_of_subset fun x hx => (hf x hx).1
      omega
    | succ fuel ih =>
      intro i s t j nd hf hd hi hl et et0 et1
      have hlen := nd.length_le_of_subset fun x hx => (hf x hx).1
      show ∃ s' m t, (T (w i s) >>= fun k => if k = true then B (w i s) >>= fun b' => whileA T B fuel b' else pure (w i s)) = pure (w m s') ∧ _
      rw [hT i s j, pure_bind]
      by_cases h : i < (fnd s).length
      · have hx : (fnd s)[i]? = some (fnd s)[i] := List.getElem?_eq_getElem h
        have hxm : (fnd s)[i] ∈ fnd s := List.getElem_mem h
        obtain ⟨hxk, a, ha, hxp⟩ := hf _ hxm
        obtain ⟨u, e1, e0, e2, e3⟩ := grow_fnd h1 (x := (fnd s)[i]) (L (fnd s)[i]) s
        have hsub : ∀ x ∈ fnd (grow fnd add (fnd s)[i] s (L (fnd s)[i])), x ∈ K ∧ ∃ a ∈ fnd s0, Pth (fun x y => y ∈ L x) a x := fun x hx => by
          rcases (e2 x).mp hx with z | z
          · exact hf x z
          · exact ⟨hc _ hxk x z, a, ha, hxp.trans (.one z)⟩
        have hlen2 := (e3 nd).length_le_of_subset fun x hx => (hsub x hx).1
        rw [if_pos (by simp; omega), hB i _ s j hx hxk nd (by omega) (by omega), pure_bind]
        refine ih (i + 1) _ (t ++ u) (grow_inv h1 (h2 _) _ s (fun _ z => z) j hxm) (e3 nd) hsub (fun m x hm hmx b hb => ?_) (by rw [e1, List.length_append]; omega) (by omega) (by rw [e1, et, List.append_assoc]) (fun z => ?_) (fun z => ?_)
        · rw [e1, List.getElem?_append_left (by omega)] at hmx
          by_cases ej : m = i
          · subst ej
            rw [hx] at hmx
            obtain rfl := Option.some.inj hmx
            exact (e2 b).mpr (.inr hb)
          · exact (e2 b).mpr (.inl (hd m x (by omega) hmx b hb))
        · obtain ⟨z1, z2⟩ := List.append_eq_nil_iff.mp z
          rw [e0 z2, et0 z1]
        · by_cases z2 : u = []
          · rw [e0 z2]
            refine et1 fun z1 => z ?_
            rw [z1, z2]; rfl
          · refine grow_z h1 hz _ _ (.inr ?_)
            cases u with
            | nil => exact (z2 rfl).elim
            | cons b u =>
              have hb : b ∈ fnd (grow fnd add (fnd s)[i] s (L (fnd s)[i])) := by rw [e1]; simp
              refine ⟨b, ?_, fun hn => ?_⟩
              · rcases (e2 b).mp hb with y | y
                · have n3 := e3 nd
                  rw [e1] at n3
                  exact ((List.nodup_append.mp n3).2.2 b y b (by simp) rfl).elim
                · exact y
              · have n3 := e3 nd
                rw [e1] at n3
                exact (List.nodup_append.mp n3).2.2 b hn b (by simp) rfl
      · rw [if_neg (by simp; omega)]
        refine ⟨s, i, t, rfl, j, nd, fun x hx => (hf x hx).1, et, et0, et1, fun b => ⟨fun hb => (hf b hb).2, fun ⟨a, ha, p⟩ => ?_⟩⟩
        refine p.inv (P := fun x => x ∈ fnd s) (fun x y hx hr => ?_) (by rw [et]; simp [ha])
        obtain ⟨m, hm, rfl⟩ := List.getElem_of_mem hx
        exact hd m _ (by omega) (List.getElem?_eq_getElem hm) y hr
  have hl0 := nd.length_le_of_subset hK
  exact main 100000 0 s0 [] j0 nd (fun x hx => ⟨hK x hx, x, hx, .refl x⟩) (fun j x hj => by omega) (Nat.zero_le _) (by omega) (by simp) (fun _ => rfl) (fun z => (z rfl).elim)
end
/-! ### turns, until two were quiet -/
theorem while_runs {S W : Type} {T : W → PM Bool} {B : W → PM W} {w : Nat → Nat → S → W} {I : Nat → Nat → S → Prop} {μ : Nat → S → Nat} (hT : ∀ r q s, I r q s → T (w r q s) = pure (decide ((q : Int) < 2)))
    (hB : ∀ r q s, q < 2 → I r q s → ∃ q' s', B (w r q s) = pure (w (r + 1) q' s') ∧ I (r + 1) q' s' ∧ μ q' s' < μ q s) : ∀ (fuel r q : Nat) (s : S), I r q s → μ q s < fuel → ∃ r' q' s', whileA T B fuel (w r q s) = pure (w r' q' s') ∧ I r' q' s' ∧ 2 ≤ q'
  | 0, r, q, s, _, h => by omega
  | fuel + 1, r, q, s, j, h => by
    show ∃ r' q' s', (T (w r q s) >>= fun k => if k = true then B (w r q s) >>= fun b' => whileA T B fuel b' else pure (w r q s)) = pure (w r' q' s') ∧ _
    rw [hT r q s j, pure_bind]
    by_cases hq : q < 2
    · obtain ⟨q', s', e, j', hm⟩ := hB r q s hq j
      rw [if_pos (by simp; omega), e, pure_bind]
      exact while_runs hT hB fuel (r + 1) q' s' j' (by omega)
    · rw [if_neg (by simp; omega)]
      exact ⟨r, q, s, rfl, j, by omega⟩
theorem for_runs {S W : Type} {f : Int → W → PM (Fl W W)} {w : Nat → S → W} {I : Nat → Nat → S → Prop} {μ : Nat → S → Nat} (hQ : ∀ k r s, I r 2 s → f k (w 2 s) = pure (.rt (w 2 s)))
    (hB : ∀ r q s, q < 2 → I r q s → ∃ q' s', f ((r : Int) + 1) (w q s) = pure (.nx (w q' s')) ∧ I (r + 1) q' s' ∧ μ q' s' < μ q s) (hq : ∀ r q s, I r q s → q ≤ 2) : ∀ (n r q : Nat) (s : S), I r q s → μ q s < n → ∃ r' s', forB f ((List.range' (r + 1) n).map fun (i : Nat) => (i : Int)) (w q s) = pure (w 2 s') ∧ I r' 2 s'
  | 0, r, q, s, _, h => by omega
  | n + 1, r, q, s, j, h => by
    rw [show List.range' (r + 1) (n + 1) = (r + 1) :: List.range' (r + 2) n from rfl, List.map_cons]
    show ∃ r' s', (f _ (w q s) >>= fun r => match r with | .nx b' => forB f _ b' | .rt b' => pure b') = _ ∧ _
    have := hq r q s j
    by_cases h2 : q = 2
    · subst h2
      rw [hQ _ r s j]
      exact ⟨r, s, rfl, j⟩
    · obtain ⟨q', s', e, j', hm⟩ := hB r q s (by omega) j
      rw [show (((r + 1 : Nat)) : Int) = (r : Int) + 1 by omega, e, pure_bind]
      exact for_runs hQ hB hq n (r + 1) q' s' j' (by omega)
/-! ### runs without draws -/
def Rn {α : Type} (m : PM α) (Q : α → Prop) : Prop := ∃ v, m = pure v ∧ Q v
section
variable {α β : Type} {m : PM α} {k : α → PM β} {Q Q' : α → Prop} {R : β → Prop}
theorem Rn.pure {a : α} (h : Q a) : Rn (pure a : PM α) Q := ⟨a, rfl, h⟩
theorem Rn.bind (h : Rn m Q) (f : ∀ v, Q v → Rn (k v) R) : Rn (m >>= k) R := by
  obtain ⟨v, e, q⟩ := h
  rw [e, pure_bind]
  exact f v q
theorem Rn.imp (h : Rn m Q) (f : ∀ v, Q v → Q' v) : Rn m Q' := by
  obtain ⟨v, e, q⟩ := h
  exact ⟨v, e, f v q⟩
theorem Rn.of {v : α} (e : m = Pure.pure v) (q : Q v) : Rn m Q := ⟨v, e, q⟩
theorem Rn.eq {n : PM α} (e : m = n) (h : Rn n Q) : Rn m Q := e ▸ h
theorem Rn.ite {c : Prop} [Decidable c] {n : PM α} (h : c → Rn m Q) (k : ¬ c → Rn n Q) : Rn (if c then m else n) Q := by
  by_cases e : c
  · rw [if_pos e]; exact h e
  · rw [if_neg e]; exact k e
theorem Rn.frame (h : Rn m Q) : Rn (Kf.frame m) Q := by
  obtain ⟨v, e, q⟩ := h
  rw [e]
  exact ⟨v, rfl, q⟩
theorem Rn.noX (h : Rn m Q) : Rn (Kf.noX m) Q := by
  obtain ⟨v, e, q⟩ := h
  rw [e]
  exact ⟨v, rfl, q⟩
theorem Rn.dr (h : Rn m Q) : Dr m Q := by
  obtain ⟨v, e, q⟩ := h
  rw [e]
  exact .pure q
theorem Rn.bindD (h : Rn m Q) (f : ∀ v, Q v → Dr (k v) R) : Dr (m >>= k) R := h.dr.bind f
theorem Rn.forA {f : α → β → PM β} {I : β → Prop} : ∀ {l : List α} {b : β}, I b → (∀ a ∈ l, ∀ b, I b → Rn (f a b) I) → Rn (Kf.forA f l b) I
  | [], _, h, _ => ⟨_, rfl, h⟩
  | a :: l, b, h, g => (g a (by simp) b h).bind fun b' h' => Rn.forA h' fun x hx => g x (by simp [hx])
end
theorem while_runsR {S W : Type} {T : W → PM Bool} {B : W → PM W} (w : Nat → Nat → S → W) (I : Nat → Nat → S → Prop) (μ : Nat → S → Nat) {r q : Nat} {s : S} {fuel : Nat} (hT : ∀ r q s, I r q s → T (w r q s) = pure (decide ((q : Int) < 2)))
    (hB : ∀ r q s, q < 2 → I r q s → Rn (B (w r q s)) fun v => ∃ q' s', v = w (r + 1) q' s' ∧ I (r + 1) q' s' ∧ μ q' s' < μ q s) (i0 : I r q s) (hm : μ q s < fuel) : Rn (whileA T B fuel (w r q s)) fun v => ∃ r' q' s', v = w r' q' s' ∧ I r' q' s' ∧ 2 ≤ q' := by
  obtain ⟨r', q', s', e, j, k⟩ := while_runs (w := w) (I := I) (μ := μ) hT (fun r q s hq j => by
    obtain ⟨v, e, q', s', rfl, j', m'⟩ := hB r q s hq j
    exact ⟨q', s', e, j', m'⟩) fuel r q s i0 hm
  exact ⟨_, e, r', q', s', rfl, j, k⟩
theorem bfsR {A S W : Type} [DecidableEq A] (fnd : S → List A) (add : A → S → A → S) (L : A → List A) (K : List A) (J Z : S → Prop) (w : Nat → S → W) {T : W → PM Bool} {B : W → PM W} (hc : ∀ k ∈ K, ∀ b ∈ L k, b ∈ K) (hk : K.length ≤ 1000)
    (h1 : ∀ x s b, fnd (add x s b) = fnd s ++ [b]) (h2 : ∀ x s b, J s → x ∈ fnd s → b ∈ L x → b ∉ fnd s → J (add x s b)) (hz : ∀ x s b, Z (add x s b))
    (hT : ∀ i s, J s → T (w i s) = pure (decide ((i : Int) < ((fnd s).length : Int)))) (hB : ∀ i x s, J s → (fnd s)[i]? = some x → x ∈ K → (fnd s).Nodup → (fnd s).length ≤ 1000 → (fnd (grow fnd add x s (L x))).length ≤ 1000 → B (w i s) = pure (w (i + 1) (grow fnd add x s (L x))))
    {s0 : S} (j0 : J s0) (nd : (fnd s0).Nodup) (hK : ∀ x ∈ fnd s0, x ∈ K) :
    Rn (whileA T B 100000 (w 0 s0)) fun v => ∃ s' m t, v = w m s' ∧ J s' ∧ (fnd s').Nodup ∧ (∀ x ∈ fnd s', x ∈ K) ∧ fnd s' = fnd s0 ++ t ∧ (t = [] → s' = s0) ∧ (t ≠ [] → Z s') ∧ ∀ b, b ∈ fnd s' ↔ ∃ a ∈ fnd s0, Pth (fun x y => y ∈ L x) a b := by
  obtain ⟨s', m, t, e, h⟩ := bfs (w := w) hc hk h1 h2 hz hT hB j0 nd hK
  exact ⟨_, e, s', m, t, rfl, h⟩
/-- the walk over one name's links, as grow -/
theorem forA_grow {A S V : Type} [DecidableEq A] {fnd : S → List A} {add : A → S → A → S} {L : List A} {J : S → Prop} {x : A} (w : S → V) {f : A → V → PM V} (h1 : ∀ x s b, fnd (add x s b) = fnd s ++ [b]) (h2 : ∀ s b, J s → x ∈ fnd s → b ∈ L → b ∉ fnd s → J (add x s b)) :
    ∀ {l : List A} {s : S} {N : Nat}, (∀ b ∈ l, b ∈ L) → J s → x ∈ fnd s → (∀ b ∈ l, ∀ s, J s → x ∈ fnd s → (fnd s).length ≤ N → f b (w s) = pure (w (if b ∈ fnd s then s else add x s b))) → (fnd (grow fnd add x s l)).length ≤ N → forA f l (w s) = pure (w (grow fnd add x s l))
  | [], s, _, _, _, _, _, _ => rfl
  | b :: l, s, N, hl, j, hx, hf, hn => by
    have ge : grow fnd add x s (b :: l) = grow fnd add x (if b ∈ fnd s then s else add x s b) l := rfl
    have hlen : (fnd s).length ≤ N := by
      obtain ⟨t, e, _⟩ := grow_fnd h1 (x := x) (b :: l) s
      rw [e, List.length_append] at hn
      omega
    show (f b (w s) >>= fun b' => forA f l b') = _
    rw [hf b (by simp) s j hx hlen, pure_bind, ge]
    rw [ge] at hn
    have j2 : J (if b ∈ fnd s then s else add x s b) ∧ x ∈ fnd (if b ∈ fnd s then s else add x s b) := by
      by_cases hb : b ∈ fnd s
      · rw [if_pos hb]; exact ⟨j, hx⟩
      · rw [if_neg hb]; exact ⟨h2 s b j hx (hl b (by simp)) hb, by rw [h1]; simp [hx]⟩
    exact forA_grow w h1 h2 (fun c hc => hl c (by simp [hc])) j2.1 j2.2 (fun c hc => hf c (by simp [hc])) hn
theorem for_runsR {S W : Type} {f : Int → W → PM (Fl W W)} (w : Nat → S → W) (I : Nat → Nat → S → Prop) (μ : Nat → S → Nat) {r q n : Nat} {s : S} (hQ : ∀ k r s, I r 2 s → f k (w 2 s) = pure (.rt (w 2 s)))
    (hB : ∀ r q s, q < 2 → I r q s → Rn (f ((r : Int) + 1) (w q s)) fun v => ∃ q' s', v = .nx (w q' s') ∧ I (r + 1) q' s' ∧ μ q' s' < μ q s) (hq : ∀ r q s, I r q s → q ≤ 2) (i0 : I r q s) (hm : μ q s < n) : Rn (forB f ((List.range' (r + 1) n).map fun (i : Nat) => (i : Int)) (w q s)) fun v => ∃ r' s', v = w 2 s' ∧ I r' 2 s' := by
  obtain ⟨r', s', e, j⟩ := for_runs (w := w) (I := I) (μ := μ) hQ (fun r q s hq j => by
    obtain ⟨v, e, q', s', rfl, j', m'⟩ := hB r q s hq j
    exact ⟨q', s', e, j', m'⟩) hq n r q s i0 hm
  exact ⟨_, e, r', s', rfl, j⟩
theorem Rn.toEq {α : Type} {m : PM α} {x : α} (h : Rn m fun v => v = x) : m = Pure.pure x := by
  obtain ⟨v, e, rfl⟩ := h
  exact e
theorem Rn.forAn {α β : Type} {f : α → β → PM β} {I : Nat → β → Prop} {n : Nat} : ∀ {l : List α} {b : β} {k : Nat}, l.length + k = n → I k b → (∀ (j : Nat) a, l[j]? = some a → ∀ b, I (k + j) b → Rn (f a b) (I (k + j + 1))) → Rn (Kf.forA f l b) (I n)
  | [], b, k, e, h, _ => by
    have : k = n := by simpa using e
    subst this
    exact ⟨b, rfl, h⟩
  | a :: l, b, k, e, h, g => by
    refine Rn.bind (m := f a b) (g 0 a rfl b h) fun b' h' => ?_
    refine Rn.forAn (l := l) (k := k + 1) (by simp at e; omega) h' fun j x hx b hb => ?_
    have e1 : k + 1 + j = k + (j + 1) := by omega
    rw [e1] at hb ⊢
    exact g (j + 1) x (by simpa using hx) b hb
theorem Rn.forR {β : Type} {f : Int → β → PM β} {I : Nat → β → Prop} {n : Nat} {b : β} (h : I 0 b) (g : ∀ j : Nat, j < n → ∀ b, I j b → Rn (f (j : Int) b) (I (j + 1))) : Rn (Kf.forA f (irange 0 n) b) (I n) := by
  refine Rn.forAn (k := 0) (by rw [irange_length]; omega) h fun j a ha b hb => ?_
  have := irange_get ha
  have hj : j < n := by
    have := (List.getElem?_eq_some_iff.mp ha).1
    rw [irange_length] at this; omega
  rw [Nat.zero_add] at hb ⊢
  rw [this, show (0 : Int) + (j : Int) = (j : Int) by omega]
  exact g j hj b hb
/-- what is reached goes on along any link -/
theorem Lv.next {α : Type} {U D : α → α → Prop} {f : Bool} {s : α} {r : Nat} {x y : α} (h : Lv U D f s r x) (k : U x y ∨ D x y) : Lv U D f s (r + 2) y := by
  by_cases e : decide (r % 2 = 0) = f
  · have e2 : ¬ decide ((r + 1) % 2 = 0) = f := by
      rw [← e]
      by_cases z : r % 2 = 0
      · simp [z]; omega
      · simp [z]; omega
    rcases k with k | k
    · exact Lv.succ ⟨x, h, by rw [if_pos e]; exact .one k⟩
    · exact ⟨x, h.succ, by rw [if_neg e2]; exact .one k⟩
  · have e2 : decide ((r + 1) % 2 = 0) = f := by
      have : decide ((r + 1) % 2 = 0) = !decide (r % 2 = 0) := by
        by_cases z : r % 2 = 0
        · simp [z]; omega
        · simp [z]; omega
      rw [this]
      revert e
      cases decide (r % 2 = 0) <;> cases f <;> simp
    rcases k with k | k
    · exact ⟨x, h.succ, by rw [if_pos e2]; exact .one k⟩
    · exact Lv.succ ⟨x, h, by rw [if_neg e]; exact .one k⟩
theorem Lv.swap {α : Type} {U D : α → α → Prop} {f : Bool} {s : α} : ∀ (r : Nat) (x : α), Lv U D f s r x ↔ Lv D U (!f) s r x
  | 0, x => Iff.rfl
  | r + 1, x => by
    have ih := Lv.swap (U := U) (D := D) (f := f) (s := s) r
    have e : (if decide (r % 2 = 0) = f then U else D) = (if decide (r % 2 = 0) = !f then D else U) := by
      cases decide (r % 2 = 0) <;> cases f <;> rfl
    show (∃ y, Lv U D f s r y ∧ Pth (if decide (r % 2 = 0) = f then U else D) y x) ↔ ∃ y, Lv D U (!f) s r y ∧ Pth (if decide (r % 2 = 0) = !f then D else U) y x
    rw [e]
    exact ⟨fun ⟨y, h, p⟩ => ⟨y, (ih y).mp h, p⟩, fun ⟨y, h, p⟩ => ⟨y, (ih y).mpr h, p⟩⟩
theorem Cn.swap {α : Type} {U D : α → α → Prop} {f : Bool} {s x : α} {o : Option Int} : Cn U D f s x o ↔ Cn D U (!f) s x o := by
  cases o with
  | none => simp only [Cn, Lv.swap (U := U) (D := D) (f := f)]
  | some c => simp only [Cn, Lv.swap (U := U) (D := D) (f := f)]
end Kf

namespace My
open PySem PySem.Spec L2 Kf
open PyProof.Rows hiding St
def CL : List Str := ["BadName", "BadSign", "BadCount", "BadDirection"]
structure Walk where
  nodes : (List Str)
  signs : (List Str)
def m_law_draw (bound_0 : Int) : PM Int :=
  (((pure bound_0) >>= fun a => (pure (2 : Int)) >>= fun b => pure (decide (a < b))) >>= fun c => if c = true then (pure (0 : Int)) else ((((poolGet 3) >>= fun a => (pure (1 : Int)) >>= fun b => pure (decide (a < b))) >>= fun c => if c = true then (((poolGet 1) >>= fun a => (poolScr >>= fun x => pure (x.length : Int)) >>= fun b => pure (decide (b ≤ a))) >>= fun c => if c = true then (pure (0 : Int)) >>= fun a => pure (.rt a) else ((((poolScr >>= fun l => (poolGet 1) >>= fun i => getM l i) >>= fun i => pure (if i < 0 then -i else i)) >>= fun v => poolSet 2 v) >>= fun _ => ((((poolGet 1) >>= fun a => (pure (1 : Int)) >>= fun b => pure (a + b)) >>= fun v => poolSet 1 v) >>= fun _ => (((pure (6 : Int)) >>= fun v => poolSet 3 v) >>= fun _ => (((pure (0 : Int)) >>= fun v => poolSet 4 v) >>= fun _ => (((((poolGet 2) >>= fun a => ((pure (10 : Int)) >>= fun a => (pure (18 : Int)) >>= fun b => powM a b) >>= fun b => pure (decide (b ≤ a))) >>= fun c => if c = true then (((pure (60 : Int)) >>= fun v => poolSet 3 v) >>= fun _ => (((pure (1 : Int)) >>= fun v => poolSet 4 v) >>= fun _ => pure ())) else (pure () >>= fun _ => pure ())) >>= fun b_2 => pure ()) >>= fun b => pure (.nx b))))))) else ((pure () >>= fun _ => pure ()) >>= fun b => pure (.nx b))) >>= orElse fun b_1 => ((((poolGet 3) >>= fun a => (pure (1 : Int)) >>= fun b => pure (a - b)) >>= fun v => poolSet 3 v) >>= fun _ => (((poolGet 4) >>= fun a => (pure (1 : Int)) >>= fun b => pure (decide (a = b))) >>= fun c => if c = true then (((poolGet 2) >>= fun a => (pure bound_0) >>= fun b => modM a b) >>= fun found_3 => ((((poolGet 2) >>= fun a => (pure bound_0) >>= fun b => divM a b) >>= fun v => poolSet 2 v) >>= fun _ => ((((poolGet 2) >>= fun a => (pure (1 : Int)) >>= fun b => pure (decide (a < b))) >>= fun c => if c = true then (((pure (0 : Int)) >>= fun v => poolSet 3 v) >>= fun _ => pure ()) else (pure () >>= fun _ => pure ())) >>= fun b_4 => (pure found_3)))) else (((poolGet 2) >>= fun a => (pure (1000003 : Int)) >>= fun b => modM a b) >>= fun near_5 => ((((((pure near_5) >>= fun a => (pure (48271 : Int)) >>= fun b => mulM a b) >>= fun a => ((poolGet 3) >>= fun a => (pure (69621 : Int)) >>= fun b => mulM a b) >>= fun b => pure (a + b)) >>= fun a => ((poolGet 1) >>= fun a => (pure (7919 : Int)) >>= fun b => mulM a b) >>= fun b => pure (a + b)) >>= fun a => (pure (2147483647 : Int)) >>= fun b => modM a b) >>= fun mixed_6 => ((((((pure mixed_6) >>= fun a => (pure (40692 : Int)) >>= fun b => mulM a b) >>= fun a => ((pure near_5) >>= fun a => (pure (31 : Int)) >>= fun b => mulM a b) >>= fun b => pure (a + b)) >>= fun a => (pure (17 : Int)) >>= fun b => pure (a + b)) >>= fun a => (pure (2147483399 : Int)) >>= fun b => modM a b) >>= fun mixed_7 => (((pure mixed_7) >>= fun a => (pure (9 : Int)) >>= fun b => divM a b) >>= fun a => (pure bound_0) >>= fun b => modM a b))))))))

def m_law_word (size_0 : Int) : PM Str :=
  ((pure ("abcdefghijklmnopqrstuvwxyz" : Str)) >>= fun first_1 => ((pure ("abcdefghijklmnopqrstuvwxyz.0123456789" : Str)) >>= fun later_2 => (((pure first_1) >>= fun l => (((pure (26 : Int)) >>= fun a => (pure ()) >>= fun as => pure (a, as)) >>= fun a => (fun a => m_law_draw a.1) a) >>= fun i => getS l i) >>= fun word_3 => (((((pure size_0) >>= fun a => (pure (1 : Int)) >>= fun b => pure (a - b)) >>= fun n => rangeM 0 n) >>= fun l => forA (fun k_5 b_4 => (((pure b_4) >>= fun a => ((pure later_2) >>= fun l => (((pure (37 : Int)) >>= fun a => (pure ()) >>= fun as => pure (a, as)) >>= fun a => (fun a => m_law_draw a.1) a) >>= fun i => getS l i) >>= fun b => catS a b) >>= fun word_6 => pure word_6)) l word_3) >>= fun b_4 => (pure b_4)))))

def m_law_fresh (word_0 : Str) (names_0 : (List Str)) : PM Str :=
  ((((((pure names_0) >>= fun x => pure (x.length : Int)) >>= fun a => (pure (1 : Int)) >>= fun b => pure (a + b)) >>= fun n => rangeM 0 n) >>= fun l => forF (fun k_2 b_1 => ((pure word_0) >>= fun found_3 => ((((pure k_2) >>= fun a => (pure (0 : Int)) >>= fun b => pure (decide (b < a))) >>= fun c => if c = true then ((((pure word_0) >>= fun x => (pure none) >>= fun l => ((pure (20 : Int)) >>= fun i => pure (some i)) >>= fun h => pure (cutS x l h)) >>= fun a => ((pure k_2) >>= fun i => strM i) >>= fun b => catS a b) >>= fun found_5 => pure found_5) else (pure () >>= fun _ => pure found_3)) >>= fun b_4 => (((pure b_4) >>= fun a => (pure names_0) >>= fun l => pure (!decide (a ∈ l))) >>= fun c => if c = true then ((pure b_4) >>= fun a => pure (.rt a)) else ((pure () >>= fun _ => pure ()) >>= fun b => pure (.nx b)))))) l ()) >>= orElse fun b_1 => (pure word_0))

def m_law_names (count_0 : Int) : PM (List Str) :=
  ((pure ("abcdefghijklmnopqrstuvwxyz" : Str)) >>= fun letters_1 => ((pure []) >>= fun names_2 => (((((pure (2 : Int)) >>= fun a => (pure ()) >>= fun as => pure (a, as)) >>= fun a => (fun a => m_law_draw a.1) a) >>= fun a => (pure (1 : Int)) >>= fun b => pure (decide (a = b))) >>= fun c => if c = true then (((((pure (1 : Int)) >>= fun a => (((pure (6 : Int)) >>= fun a => (pure ()) >>= fun as => pure (a, as)) >>= fun a => (fun a => m_law_draw a.1) a) >>= fun b => pure (a + b)) >>= fun a => (pure ()) >>= fun as => pure (a, as)) >>= fun a => (fun a => m_law_word a.1) a) >>= fun stem_3 => ((((((pure stem_3) >>= fun x => pure (x.length : Int)) >>= fun a => (pure (1 : Int)) >>= fun b => pure (a + b)) >>= fun a => (pure ()) >>= fun as => pure (a, as)) >>= fun a => (fun a => m_law_draw a.1) a) >>= fun place_4 => ((((pure (26 : Int)) >>= fun a => (pure ()) >>= fun as => pure (a, as)) >>= fun a => (fun a => m_law_draw a.1) a) >>= fun shift_5 => ((((pure count_0) >>= fun n => rangeM 0 n) >>= fun l => forA (fun k_7 b_6 => ((((((pure stem_3) >>= fun x => (pure none) >>= fun l => ((pure place_4) >>= fun i => pure (some i)) >>= fun h => pure (cutS x l h)) >>= fun a => ((pure letters_1) >>= fun l => ((((pure (3 : Int)) >>= fun a => (pure k_7) >>= fun b => mulM a b) >>= fun a => (pure shift_5) >>= fun b => pure (a + b)) >>= fun a => (pure (26 : Int)) >>= fun b => modM a b) >>= fun i => getS l i) >>= fun b => catS a b) >>= fun a => ((pure stem_3) >>= fun x => ((pure place_4) >>= fun i => pure (some i)) >>= fun l => (pure none) >>= fun h => pure (cutS x l h)) >>= fun b => catS a b) >>= fun a => appM b_6 a) >>= fun names_8 => pure names_8)) l names_2) >>= fun b_6 => (pure b_6))))) else ((((pure count_0) >>= fun n => rangeM 0 n) >>= fun l => forA (fun k_10 b_9 => (((pure (1 : Int)) >>= fun a => (((pure (5 : Int)) >>= fun a => (pure ()) >>= fun as => pure (a, as)) >>= fun a => (fun a => m_law_draw a.1) a) >>= fun b => pure (a + b)) >>= fun size_11 => ((((((pure (9 : Int)) >>= fun a => (pure ()) >>= fun as => pure (a, as)) >>= fun a => (fun a => m_law_draw a.1) a) >>= fun a => (pure (8 : Int)) >>= fun b => pure (decide (a = b))) >>= fun c => if c = true then ((pure (24 : Int)) >>= fun size_13 => pure size_13) else (pure () >>= fun _ => pure size_11)) >>= fun b_12 => (((noX (((((pure b_12) >>= fun a => (pure ()) >>= fun as => pure (a, as)) >>= fun a => (fun a => m_law_word a.1) a) >>= fun a => ((pure b_9) >>= fun a => (pure ()) >>= fun as => pure (a, as)) >>= fun as => pure (a, as)) >>= fun a => frame ((fun a => m_law_fresh a.1 a.2.1) a))) >>= fun a => appM b_9 a) >>= fun names_14 => pure names_14)))) l names_2) >>= fun b_9 => (pure b_9)))))

def m_law_unknowns (count_0 : Int) : PM (List Str) :=
  (((((pure (3 : Int)) >>= fun a => (pure ()) >>= fun as => pure (a, as)) >>= fun a => (fun a => m_law_draw a.1) a) >>= fun a => (pure (1 : Int)) >>= fun b => pure (decide (a = b))) >>= fun c => if c = true then (((pure count_0) >>= fun n => rangeM 0 n) >>= fun l => sized (compE (fun k_1 => ((pure ("?" : Str)) >>= fun a => ((pure k_1) >>= fun i => strM i) >>= fun b => catS a b)) l)) else ((((pure count_0) >>= fun a => (pure ()) >>= fun as => pure (a, as)) >>= fun a => (fun a => m_law_names a.1) a) >>= fun l => sized (compE (fun name_2 => ((pure ("?" : Str)) >>= fun a => (pure name_2) >>= fun b => catS a b)) l)))

def m_law_signs  : PM (List Str) :=
  ((pure []) >>= fun signs_1 => ((((pure ("<" : Str)) >>= fun a => ((pure (">" : Str)) >>= fun a => (pure []) >>= fun as => pure (a :: as)) >>= fun as => pure (a :: as)) >>= fun l => (((pure (2 : Int)) >>= fun a => (pure ()) >>= fun as => pure (a, as)) >>= fun a => (fun a => m_law_draw a.1) a) >>= fun i => getM l i) >>= fun sign_2 => ((((((pure (6 : Int)) >>= fun a => (pure ()) >>= fun as => pure (a, as)) >>= fun a => (fun a => m_law_draw a.1) a) >>= fun n => rangeM 0 n) >>= fun l => forA (fun k_4 b_3 => (((pure (1 : Int)) >>= fun a => (((pure (4 : Int)) >>= fun a => (pure ()) >>= fun as => pure (a, as)) >>= fun a => (fun a => m_law_draw a.1) a) >>= fun b => pure (a + b)) >>= fun size_5 => ((((((pure (8 : Int)) >>= fun a => (pure ()) >>= fun as => pure (a, as)) >>= fun a => (fun a => m_law_draw a.1) a) >>= fun a => (pure (7 : Int)) >>= fun b => pure (decide (a = b))) >>= fun c => if c = true then (((pure (1 : Int)) >>= fun a => (((pure (40 : Int)) >>= fun a => (pure ()) >>= fun as => pure (a, as)) >>= fun a => (fun a => m_law_draw a.1) a) >>= fun b => pure (a + b)) >>= fun size_7 => pure size_7) else (pure () >>= fun _ => pure size_5)) >>= fun b_6 => (((pure b_3.1) >>= fun a => (((pure b_6) >>= fun n => rangeM 0 n) >>= fun l => sized (compE (fun step_8 => (pure b_3.2)) l)) >>= fun b => catL a b) >>= fun signs_9 => ((((((pure (4 : Int)) >>= fun a => (pure ()) >>= fun as => pure (a, as)) >>= fun a => (fun a => m_law_draw a.1) a) >>= fun a => (pure (3 : Int)) >>= fun b => pure (decide (a < b))) >>= fun c => if c = true then ((((pure (">" : Str)) >>= fun a => ((pure ("<" : Str)) >>= fun a => (pure []) >>= fun as => pure (a :: as)) >>= fun as => pure (a :: as)) >>= fun l => (((pure b_3.2) >>= fun a => (pure (">" : Str)) >>= fun b => pure (decide (a = b))) >>= fun k => pure (if k = true then 1 else 0)) >>= fun i => getM l i) >>= fun sign_11 => pure sign_11) else (pure () >>= fun _ => pure b_3.2)) >>= fun b_10 => pure (signs_9, b_10)))))) l (signs_1, sign_2)) >>= fun b_3 => (pure b_3.1))))

def m_is_kind_name (text_0 : Str) : PM Bool :=
  (((((pure (1 : Int)) >>= fun a => ((pure text_0) >>= fun x => pure (x.length : Int)) >>= fun b => if (fun a b : Int => decide (a ≤ b)) a b = true then (pure (24 : Int)) >>= fun d => pure ((fun a b : Int => decide (a ≤ b)) b d) else pure false) >>= fun a => pure (!a)) >>= fun a => if a = true then pure true else (((pure text_0) >>= fun l => (pure (0 : Int)) >>= fun i => getS l i) >>= fun a => (pure ("abcdefghijklmnopqrstuvwxyz" : Str)) >>= fun b => inSign a b >>= fun k => pure (!k))) >>= fun c => if c = true then (pure false) else ((((pure text_0) >>= fun x => pure (signsL x)) >>= fun l => sized (compE (fun char_1 => ((pure char_1) >>= fun a => (pure ("abcdefghijklmnopqrstuvwxyz0123456789." : Str)) >>= fun b => inSign a b)) l)) >>= fun l => pure (l.all id)))

def m_is_unknown_name (text_0 : Str) : PM Bool :=
  (((((pure (2 : Int)) >>= fun a => ((pure text_0) >>= fun x => pure (x.length : Int)) >>= fun b => if (fun a b : Int => decide (a ≤ b)) a b = true then ((pure (24 : Int)) >>= fun a => (pure (1 : Int)) >>= fun b => pure (a + b)) >>= fun d => pure ((fun a b : Int => decide (a ≤ b)) b d) else pure false) >>= fun a => pure (!a)) >>= fun a => if a = true then pure true else (((pure text_0) >>= fun l => (pure (0 : Int)) >>= fun i => getS l i) >>= fun a => (pure ("?" : Str)) >>= fun b => pure (!decide (a = b)))) >>= fun c => if c = true then (pure false) else (((((pure text_0) >>= fun x => ((pure (1 : Int)) >>= fun i => pure (some i)) >>= fun l => (pure none) >>= fun h => pure (cutS x l h)) >>= fun x => pure (signsL x)) >>= fun l => sized (compE (fun char_1 => ((pure char_1) >>= fun a => (pure ("abcdefghijklmnopqrstuvwxyz0123456789." : Str)) >>= fun b => inSign a b)) l)) >>= fun l => pure (l.all id)))

def m_check_node (name_0 : Str) : PM Unit :=
  ((((((pure name_0) >>= fun a => (pure ()) >>= fun as => pure (a, as)) >>= fun a => (fun a => m_is_kind_name a.1) a) >>= fun a => pure (!a)) >>= fun a => if a = true then ((((pure name_0) >>= fun a => (pure ()) >>= fun as => pure (a, as)) >>= fun a => (fun a => m_is_unknown_name a.1) a) >>= fun a => pure (!a)) else pure false) >>= fun c => if c = true then ((pure name_0) >>= fun a => raise ⟨"BadName", .one "name" (PyData.str a)⟩) else (pure ()))

def m_check_sign (sign_0 : Str) : PM Unit :=
  (((pure sign_0) >>= fun a => (pure [("<" : Str), (">" : Str)]) >>= fun l => pure (!decide (a ∈ l))) >>= fun c => if c = true then ((pure sign_0) >>= fun a => raise ⟨"BadSign", .one "sign" (PyData.str a)⟩) else (pure ()))

def m_Walk___init__ (nodes_0 : (List Str)) (signs_0 : (List Str)) : PM Walk :=
  (((pure nodes_0) >>= fun l => forA (fun name_2 b_1 => (((((pure name_2) >>= fun a => (pure ()) >>= fun as => pure (a, as)) >>= fun a => frame ((fun a => m_check_node a.1) a)) >>= fun _ => pure ()) >>= fun _ => pure ())) l ()) >>= fun b_1 => (((pure signs_0) >>= fun l => forA (fun sign_4 b_3 => (((((pure sign_4) >>= fun a => (pure ()) >>= fun as => pure (a, as)) >>= fun a => frame ((fun a => m_check_sign a.1) a)) >>= fun _ => pure ()) >>= fun _ => pure ())) l ()) >>= fun b_3 => ((((pure signs_0) >>= fun x => pure (x.length : Int)) >>= fun a => (((pure nodes_0) >>= fun x => pure (x.length : Int)) >>= fun a => (pure (1 : Int)) >>= fun b => pure (a - b)) >>= fun b => pure (!decide (a = b))) >>= fun c => if c = true then (((pure signs_0) >>= fun x => pure (x.length : Int)) >>= fun a => raise ⟨"BadCount", .one "number" (PyData.int a)⟩) else ((pure nodes_0) >>= fun nodes_5 => ((pure signs_0) >>= fun signs_6 => (pure (Walk.mk nodes_5 signs_6)))))))

def m_Walk_start (self_0 : Walk) : PM Str :=
  (((pure self_0) >>= fun o => pure o.nodes) >>= fun l => (pure (0 : Int)) >>= fun i => getM l i)

def m_law_same : Nat → PyData → PyData → PM Bool
  | 0, _, _ => stuck
  | n + 1, actual_0, due_0 => (((pure due_0) >>= fun a => pure (isND a)) >>= fun c => if c = true then ((pure actual_0) >>= fun a => pure (isND a)) else ((((pure due_0) >>= fun a => pure (isT .bool a)) >>= fun a => if a = true then pure true else ((pure actual_0) >>= fun a => pure (isT .bool a))) >>= fun c => if c = true then (((pure due_0) >>= fun a => pure (isT .bool a)) >>= fun a => if a = true then (((pure actual_0) >>= fun a => pure (isT .bool a)) >>= fun a => if a = true then ((pure actual_0) >>= fun a => (pure due_0) >>= fun b => eqD a b) else pure false) else pure false) else (((pure due_0) >>= fun a => pure (isT .int a)) >>= fun c => if c = true then (((pure actual_0) >>= fun a => pure (isT .int a)) >>= fun a => if a = true then ((pure actual_0) >>= fun a => (pure due_0) >>= fun b => eqD a b) else pure false) else (((pure due_0) >>= fun a => pure (isT .str a)) >>= fun c => if c = true then (((pure actual_0) >>= fun a => pure (isT .str a)) >>= fun a => if a = true then ((pure actual_0) >>= fun a => (pure due_0) >>= fun b => eqD a b) else pure false) else (((((pure due_0) >>= fun a => pure (isT .tuple a)) >>= fun a => ((pure actual_0) >>= fun a => pure (isT .tuple a)) >>= fun b => pure (!decide (a = b))) >>= fun a => if a = true then pure true else (((pure due_0) >>= fun a => pure (isT .list a)) >>= fun a => ((pure actual_0) >>= fun a => pure (isT .list a)) >>= fun b => pure (!decide (a = b)))) >>= fun c => if c = true then (pure false) else ((((pure actual_0) >>= fun d => lenD d) >>= fun a => ((pure due_0) >>= fun d => lenD d) >>= fun b => pure (!decide (a = b))) >>= fun c => if c = true then (pure false) else (((((pure due_0) >>= fun d => lenD d) >>= fun n => rangeM 0 n) >>= fun l => forF (fun k_2 b_1 => ((((((pure actual_0) >>= fun a => (pure k_2) >>= fun i => getD a i) >>= fun a => (((pure due_0) >>= fun a => (pure k_2) >>= fun i => getD a i) >>= fun a => (pure ()) >>= fun as => pure (a, as)) >>= fun as => pure (a, as)) >>= fun a => (fun a => m_law_same n a.1 a.2.1) a) >>= fun a => pure (!a)) >>= fun c => if c = true then ((pure false) >>= fun a => pure (.rt a)) else ((pure () >>= fun _ => pure ()) >>= fun b => pure (.nx b)))) l ()) >>= orElse fun b_1 => (pure true))))))))

def m_Walk_end (self_0 : Walk) : PM Str :=
  (((pure self_0) >>= fun o => pure o.nodes) >>= fun l => ((pure (1 : Int)) >>= fun a => pure (-a)) >>= fun i => getM l i)

def m_Walk_runs (self_0 : Walk) : PM Int :=
  ((((((pure self_0) >>= fun o => pure o.signs) >>= fun x => pure (x.length : Int)) >>= fun n => rangeM 0 n) >>= fun l => sized (compF (fun k_1 => (((pure k_1) >>= fun a => (pure (0 : Int)) >>= fun b => pure (decide (a = b))) >>= fun a => if a = true then pure true else ((((pure self_0) >>= fun o => pure o.signs) >>= fun l => (pure k_1) >>= fun i => getM l i) >>= fun a => (((pure self_0) >>= fun o => pure o.signs) >>= fun l => ((pure k_1) >>= fun a => (pure (1 : Int)) >>= fun b => pure (a - b)) >>= fun i => getM l i) >>= fun b => pure (!decide (a = b))))) (fun k_1 => (pure k_1)) l)) >>= fun x => pure (x.length : Int))

def m_Walk_first (self_0 : Walk) : PM Str :=
  (((((pure self_0) >>= fun o => pure o.signs) >>= fun l => pure (!l.isEmpty)) >>= fun a => pure (!a)) >>= fun c => if c = true then (pure ("" : Str)) else (((((pure self_0) >>= fun o => pure o.signs) >>= fun l => (pure (0 : Int)) >>= fun i => getM l i) >>= fun a => (pure ("<" : Str)) >>= fun b => pure (decide (a = b))) >>= fun c => if c = true then (pure ("up" : Str)) else (pure ("down" : Str))))

def m_Walk___len__ (self_0 : Walk) : PM Int :=
  (((pure self_0) >>= fun o => pure o.signs) >>= fun x => pure (x.length : Int))

def m_check_direction (first_0 : Str) : PM Unit :=
  (((pure first_0) >>= fun a => ((pure ("up" : Str)) >>= fun a => ((pure ("down" : Str)) >>= fun a => (pure []) >>= fun as => pure (a :: as)) >>= fun as => pure (a :: as)) >>= fun l => pure (!decide (a ∈ l))) >>= fun c => if c = true then ((pure first_0) >>= fun a => raise ⟨"BadDirection", .one "direction" (PyData.str a)⟩) else (pure ()))

def m_Walk_counted (self_0 : Walk) (direction_0 : Str) : PM Int :=
  (((((pure direction_0) >>= fun a => (pure ()) >>= fun as => pure (a, as)) >>= fun a => (fun a => m_check_direction a.1) a) >>= fun _ => pure ()) >>= fun _ => (((pure self_0) >>= fun o => noX (frame ((fun (x : Walk × Unit) => m_Walk_runs x.1) (o, ())))) >>= fun a => ((((pure self_0) >>= fun o => noX (frame ((fun (x : Walk × Unit) => m_Walk_first x.1) (o, ())))) >>= fun a => ((pure ("" : Str)) >>= fun a => ((pure direction_0) >>= fun a => (pure []) >>= fun as => pure (a :: as)) >>= fun as => pure (a :: as)) >>= fun l => pure (decide (a ∈ l))) >>= fun c => if c = true then (pure (0 : Int)) else (pure (1 : Int))) >>= fun b => pure (a + b)))

def m_law_counts_kept (walk_0 : Walk) (nodes_0 : (List Str)) (signs_0 : (List Str)) : PM Bool :=
  ((pure (0 : Int)) >>= fun runs_1 => ((pure ("" : Str)) >>= fun last_2 => (((pure signs_0) >>= fun l => forA (fun sign_4 b_3 => ((((pure sign_4) >>= fun a => (pure b_3.2) >>= fun b => pure (!decide (a = b))) >>= fun c => if c = true then (((pure b_3.1) >>= fun a => (pure (1 : Int)) >>= fun b => pure (a + b)) >>= fun runs_6 => pure runs_6) else (pure () >>= fun _ => pure b_3.1)) >>= fun b_5 => ((pure sign_4) >>= fun last_7 => pure (b_5, last_7)))) l (runs_1, last_2)) >>= fun b_3 => ((pure ("" : Str)) >>= fun first_8 => (((((pure signs_0) >>= fun x => pure (x.length : Int)) >>= fun a => (pure (0 : Int)) >>= fun b => pure (decide (b < a))) >>= fun c => if c = true then ((((pure ("up" : Str)) >>= fun a => ((pure ("down" : Str)) >>= fun a => (pure []) >>= fun as => pure (a :: as)) >>= fun as => pure (a :: as)) >>= fun l => ((((pure signs_0) >>= fun l => (pure (0 : Int)) >>= fun i => getM l i) >>= fun a => (pure (">" : Str)) >>= fun b => pure (decide (a = b))) >>= fun k => pure (if k = true then 1 else 0)) >>= fun i => getM l i) >>= fun first_10 => pure first_10) else (pure () >>= fun _ => pure first_8)) >>= fun b_9 => ((((((((pure walk_0) >>= fun o => noX (frame ((fun (x : Walk × Unit) => m_Walk_start x.1) (o, ())))) >>= fun a => pure (PyData.str a)) >>= fun a => ((((pure nodes_0) >>= fun l => (pure (0 : Int)) >>= fun i => getM l i) >>= fun a => pure (PyData.str a)) >>= fun a => (pure ()) >>= fun as => pure (a, as)) >>= fun as => pure (a, as)) >>= fun a => (fun a => m_law_same 7 a.1 a.2.1) a) >>= fun a => pure (!a)) >>= fun a => if a = true then pure true else ((((((pure walk_0) >>= fun o => noX (frame ((fun (x : Walk × Unit) => m_Walk_end x.1) (o, ())))) >>= fun a => pure (PyData.str a)) >>= fun a => ((((pure nodes_0) >>= fun l => ((pure (1 : Int)) >>= fun a => pure (-a)) >>= fun i => getM l i) >>= fun a => pure (PyData.str a)) >>= fun a => (pure ()) >>= fun as => pure (a, as)) >>= fun as => pure (a, as)) >>= fun a => (fun a => m_law_same 7 a.1 a.2.1) a) >>= fun a => pure (!a))) >>= fun c => if c = true then (pure false) else ((((((((pure walk_0) >>= fun o => noX (frame ((fun (x : Walk × Unit) => m_Walk_runs x.1) (o, ())))) >>= fun a => pure (PyData.int a)) >>= fun a => (((pure b_3.1) >>= fun a => pure (PyData.int a)) >>= fun a => (pure ()) >>= fun as => pure (a, as)) >>= fun as => pure (a, as)) >>= fun a => (fun a => m_law_same 7 a.1 a.2.1) a) >>= fun a => pure (!a)) >>= fun a => if a = true then pure true else (((((((pure walk_0) >>= fun o => noX (frame ((fun (x : Walk × Unit) => m_Walk_first x.1) (o, ())))) >>= fun a => pure (PyData.str a)) >>= fun a => (((pure b_9) >>= fun a => pure (PyData.str a)) >>= fun a => (pure ()) >>= fun as => pure (a, as)) >>= fun as => pure (a, as)) >>= fun a => (fun a => m_law_same 7 a.1 a.2.1) a) >>= fun a => pure (!a)) >>= fun a => if a = true then pure true else ((((((pure walk_0) >>= fun o => frame ((fun (x : Walk × Unit) => m_Walk___len__ x.1) (o, ())) >>= fun n => guardM (0 ≤ n ∧ n < 2 ^ 63) n) >>= fun a => pure (PyData.int a)) >>= fun a => ((((pure signs_0) >>= fun x => pure (x.length : Int)) >>= fun a => pure (PyData.int a)) >>= fun a => (pure ()) >>= fun as => pure (a, as)) >>= fun as => pure (a, as)) >>= fun a => (fun a => m_law_same 7 a.1 a.2.1) a) >>= fun a => pure (!a)))) >>= fun c => if c = true then (pure false) else ((((pure ("up" : Str)) >>= fun a => ((pure ("down" : Str)) >>= fun a => (pure []) >>= fun as => pure (a :: as)) >>= fun as => pure (a :: as)) >>= fun l => forF (fun direction_12 b_11 => ((pure b_3.1) >>= fun due_13 => (((((pure b_9) >>= fun a => (pure ("" : Str)) >>= fun b => pure (!decide (a = b))) >>= fun a => if a = true then ((pure b_9) >>= fun a => (pure direction_12) >>= fun b => pure (!decide (a = b))) else pure false) >>= fun c => if c = true then (((pure b_3.1) >>= fun a => (pure (1 : Int)) >>= fun b => pure (a + b)) >>= fun due_15 => pure due_15) else (pure () >>= fun _ => pure due_13)) >>= fun b_14 => (((((((pure walk_0) >>= fun o => ((pure direction_12) >>= fun a => (pure ()) >>= fun as => pure (a, as)) >>= fun b => frame ((fun x => m_Walk_counted x.1 x.2.1) (o, b))) >>= fun a => pure (PyData.int a)) >>= fun a => (((pure b_14) >>= fun a => pure (PyData.int a)) >>= fun a => (pure ()) >>= fun as => pure (a, as)) >>= fun as => pure (a, as)) >>= fun a => (fun a => m_law_same 7 a.1 a.2.1) a) >>= fun a => pure (!a)) >>= fun c => if c = true then ((pure false) >>= fun a => pure (.rt a)) else ((pure () >>= fun _ => pure ()) >>= fun b => pure (.nx b)))))) l ()) >>= orElse fun b_11 => (pure true)))))))))

def m_law_bad_direction  : PM Str :=
  ((((pure (8 : Int)) >>= fun a => (pure ()) >>= fun as => pure (a, as)) >>= fun a => (fun a => m_law_draw a.1) a) >>= fun way_1 => (((pure way_1) >>= fun a => (pure (7 : Int)) >>= fun b => pure (decide (a = b))) >>= fun c => if c = true then ((pure ("up" : Str)) >>= fun a => ((((pure (1 : Int)) >>= fun a => (((pure (3 : Int)) >>= fun a => (pure ()) >>= fun as => pure (a, as)) >>= fun a => (fun a => m_law_draw a.1) a) >>= fun b => pure (a + b)) >>= fun a => (pure ()) >>= fun as => pure (a, as)) >>= fun a => (fun a => m_law_word a.1) a) >>= fun b => catS a b) else (((pure ("" : Str)) >>= fun a => ((pure ("Up" : Str)) >>= fun a => ((pure ("up " : Str)) >>= fun a => ((pure (" down" : Str)) >>= fun a => ((pure ("downs" : Str)) >>= fun a => ((pure ("dow" : Str)) >>= fun a => ((pure ("u" : Str)) >>= fun a => (pure []) >>= fun as => pure (a :: as)) >>= fun as => pure (a :: as)) >>= fun as => pure (a :: as)) >>= fun as => pure (a :: as)) >>= fun as => pure (a :: as)) >>= fun as => pure (a :: as)) >>= fun as => pure (a :: as)) >>= fun l => (pure way_1) >>= fun i => getM l i)))

def m_law_counted_fault (walk_0 : Walk) (direction_0 : Str) : PM (List PyData) :=
  ((tryX CL "KindError" (((((pure walk_0) >>= fun o => ((pure direction_0) >>= fun a => (pure ()) >>= fun as => pure (a, as)) >>= fun b => frame ((fun x => m_Walk_counted x.1 x.2.1) (o, b))) >>= fun _ => pure ()) >>= fun _ => pure ()) >>= fun b => pure (.nx b)) (fun ex => noX ((((isX CL ex "ValueError") >>= fun a => pure (PyData.bool a)) >>= fun a => (((isX CL ex "BadSign") >>= fun a => pure (PyData.bool a)) >>= fun a => (((isX CL ex "NotListed") >>= fun a => pure (PyData.bool a)) >>= fun a => (pure []) >>= fun as => pure (a :: as)) >>= fun as => pure (a :: as)) >>= fun as => pure (a :: as)) >>= fun found_2 => (((isX CL ex "BadDirection") >>= fun c => if c = true then (((fldX CL ex "direction") >>= fun a => appM found_2 a) >>= fun found_4 => pure found_4) else (pure () >>= fun _ => pure found_2)) >>= fun b_3 => ((pure b_3) >>= fun a => pure (.rt a)))))) >>= orElse fun b_1 => (pure []))

def m_Walk___init___1 (nodes_0 : (List Str)) (signs_0 : (List Str)) : PM Walk :=
  (((pure nodes_0) >>= fun l => forA (fun name_2 b_1 => (((((pure name_2) >>= fun a => (pure ()) >>= fun as => pure (a, as)) >>= fun a => frame ((fun a => m_check_node a.1) a)) >>= fun _ => pure ()) >>= fun _ => pure ())) l ()) >>= fun b_1 => (((pure signs_0) >>= fun l => forA (fun sign_4 b_3 => (((((pure sign_4) >>= fun a => (pure ()) >>= fun as => pure (a, as)) >>= fun a => frame ((fun a => m_check_sign a.1) a)) >>= fun _ => pure ()) >>= fun _ => pure ())) l ()) >>= fun b_3 => ((((pure signs_0) >>= fun x => pure (x.length : Int)) >>= fun a => (((pure nodes_0) >>= fun x => pure (x.length : Int)) >>= fun a => (pure (1 : Int)) >>= fun b => pure (a - b)) >>= fun b => pure (!decide (a = b))) >>= fun c => if c = true then (((pure signs_0) >>= fun x => pure (x.length : Int)) >>= fun a => raise ⟨"BadCount", .one "number" (PyData.int a)⟩) else ((pure nodes_0) >>= fun nodes_5 => ((pure signs_0) >>= fun signs_6 => (pure (Walk.mk nodes_5 signs_6)))))))

def m_law_counts_kept_1 (walk_0 : Walk) (nodes_0 : (List Str)) (signs_0 : (List Str)) : PM Bool :=
  ((pure (0 : Int)) >>= fun runs_1 => ((pure ("" : Str)) >>= fun last_2 => (((pure signs_0) >>= fun l => forA (fun sign_4 b_3 => ((((pure sign_4) >>= fun a => (pure b_3.2) >>= fun b => pure (!decide (a = b))) >>= fun c => if c = true then (((pure b_3.1) >>= fun a => (pure (1 : Int)) >>= fun b => pure (a + b)) >>= fun runs_6 => pure runs_6) else (pure () >>= fun _ => pure b_3.1)) >>= fun b_5 => ((pure sign_4) >>= fun last_7 => pure (b_5, last_7)))) l (runs_1, last_2)) >>= fun b_3 => ((pure ("" : Str)) >>= fun first_8 => (((((pure signs_0) >>= fun x => pure (x.length : Int)) >>= fun a => (pure (0 : Int)) >>= fun b => pure (decide (b < a))) >>= fun c => if c = true then ((((pure ("up" : Str)) >>= fun a => ((pure ("down" : Str)) >>= fun a => (pure []) >>= fun as => pure (a :: as)) >>= fun as => pure (a :: as)) >>= fun l => ((((pure signs_0) >>= fun l => (pure (0 : Int)) >>= fun i => getM l i) >>= fun a => (pure (">" : Str)) >>= fun b => pure (decide (a = b))) >>= fun k => pure (if k = true then 1 else 0)) >>= fun i => getM l i) >>= fun first_10 => pure first_10) else (pure () >>= fun _ => pure first_8)) >>= fun b_9 => ((((((((pure walk_0) >>= fun o => noX (frame ((fun (x : Walk × Unit) => m_Walk_start x.1) (o, ())))) >>= fun a => pure (PyData.str a)) >>= fun a => ((((pure nodes_0) >>= fun l => (pure (0 : Int)) >>= fun i => getM l i) >>= fun a => pure (PyData.str a)) >>= fun a => (pure ()) >>= fun as => pure (a, as)) >>= fun as => pure (a, as)) >>= fun a => (fun a => m_law_same 7 a.1 a.2.1) a) >>= fun a => pure (!a)) >>= fun a => if a = true then pure true else ((((((pure walk_0) >>= fun o => noX (frame ((fun (x : Walk × Unit) => m_Walk_end x.1) (o, ())))) >>= fun a => pure (PyData.str a)) >>= fun a => ((((pure nodes_0) >>= fun l => ((pure (1 : Int)) >>= fun a => pure (-a)) >>= fun i => getM l i) >>= fun a => pure (PyData.str a)) >>= fun a => (pure ()) >>= fun as => pure (a, as)) >>= fun as => pure (a, as)) >>= fun a => (fun a => m_law_same 7 a.1 a.2.1) a) >>= fun a => pure (!a))) >>= fun c => if c = true then (pure false) else ((((((((pure walk_0) >>= fun o => noX (frame ((fun (x : Walk × Unit) => m_Walk_runs x.1) (o, ())))) >>= fun a => pure (PyData.int a)) >>= fun a => (((pure b_3.1) >>= fun a => pure (PyData.int a)) >>= fun a => (pure ()) >>= fun as => pure (a, as)) >>= fun as => pure (a, as)) >>= fun a => (fun a => m_law_same 7 a.1 a.2.1) a) >>= fun a => pure (!a)) >>= fun a => if a = true then pure true else (((((((pure walk_0) >>= fun o => noX (frame ((fun (x : Walk × Unit) => m_Walk_first x.1) (o, ())))) >>= fun a => pure (PyData.str a)) >>= fun a => (((pure b_9) >>= fun a => pure (PyData.str a)) >>= fun a => (pure ()) >>= fun as => pure (a, as)) >>= fun as => pure (a, as)) >>= fun a => (fun a => m_law_same 7 a.1 a.2.1) a) >>= fun a => pure (!a)) >>= fun a => if a = true then pure true else ((((((pure walk_0) >>= fun o => frame ((fun (x : Walk × Unit) => m_Walk___len__ x.1) (o, ())) >>= fun n => guardM (0 ≤ n ∧ n < 2 ^ 63) n) >>= fun a => pure (PyData.int a)) >>= fun a => ((((pure signs_0) >>= fun x => pure (x.length : Int)) >>= fun a => pure (PyData.int a)) >>= fun a => (pure ()) >>= fun as => pure (a, as)) >>= fun as => pure (a, as)) >>= fun a => (fun a => m_law_same 7 a.1 a.2.1) a) >>= fun a => pure (!a)))) >>= fun c => if c = true then (pure false) else ((((pure ("up" : Str)) >>= fun a => ((pure ("down" : Str)) >>= fun a => (pure []) >>= fun as => pure (a :: as)) >>= fun as => pure (a :: as)) >>= fun l => forF (fun direction_12 b_11 => ((pure b_3.1) >>= fun due_13 => (((((pure b_9) >>= fun a => (pure ("" : Str)) >>= fun b => pure (!decide (a = b))) >>= fun a => if a = true then ((pure b_9) >>= fun a => (pure direction_12) >>= fun b => pure (!decide (a = b))) else pure false) >>= fun c => if c = true then (((pure b_3.1) >>= fun a => (pure (1 : Int)) >>= fun b => pure (a + b)) >>= fun due_15 => pure due_15) else (pure () >>= fun _ => pure due_13)) >>= fun b_14 => (((((((pure walk_0) >>= fun o => ((pure direction_12) >>= fun a => (pure ()) >>= fun as => pure (a, as)) >>= fun b => frame ((fun x => m_Walk_counted x.1 x.2.1) (o, b))) >>= fun a => pure (PyData.int a)) >>= fun a => (((pure b_14) >>= fun a => pure (PyData.int a)) >>= fun a => (pure ()) >>= fun as => pure (a, as)) >>= fun as => pure (a, as)) >>= fun a => (fun a => m_law_same 7 a.1 a.2.1) a) >>= fun a => pure (!a)) >>= fun c => if c = true then ((pure false) >>= fun a => pure (.rt a)) else ((pure () >>= fun _ => pure ()) >>= fun b => pure (.nx b)))))) l ()) >>= orElse fun b_11 => (pure true)))))))))

def m_law  : PM Bool :=
  ((((((pure (1 : Int)) >>= fun a => (((pure (4 : Int)) >>= fun a => (pure ()) >>= fun as => pure (a, as)) >>= fun a => (fun a => m_law_draw a.1) a) >>= fun b => pure (a + b)) >>= fun a => (pure ()) >>= fun as => pure (a, as)) >>= fun a => (fun a => m_law_names a.1) a) >>= fun a => (((((pure (4 : Int)) >>= fun a => (pure ()) >>= fun as => pure (a, as)) >>= fun a => (fun a => m_law_draw a.1) a) >>= fun a => (pure ()) >>= fun as => pure (a, as)) >>= fun a => (fun a => m_law_unknowns a.1) a) >>= fun b => catL a b) >>= fun menu_1 => (((pure ()) >>= fun a => (fun a => m_law_signs ) a) >>= fun signs_2 => ((((((pure signs_2) >>= fun x => pure (x.length : Int)) >>= fun a => (pure (1 : Int)) >>= fun b => pure (a + b)) >>= fun n => rangeM 0 n) >>= fun l => sized (compE (fun k_3 => ((pure menu_1) >>= fun l => ((((pure menu_1) >>= fun x => pure (x.length : Int)) >>= fun a => (pure ()) >>= fun as => pure (a, as)) >>= fun a => (fun a => m_law_draw a.1) a) >>= fun i => getM l i)) l)) >>= fun nodes_4 => ((((pure nodes_4) >>= fun a => ((pure signs_2) >>= fun a => (pure ()) >>= fun as => pure (a, as)) >>= fun as => pure (a, as)) >>= fun a => frame ((fun a => m_Walk___init__ a.1 a.2.1) a)) >>= fun walk_5 => (((((pure walk_5) >>= fun a => ((pure nodes_4) >>= fun a => ((pure signs_2) >>= fun a => (pure ()) >>= fun as => pure (a, as)) >>= fun as => pure (a, as)) >>= fun as => pure (a, as)) >>= fun a => frame ((fun a => m_law_counts_kept a.1 a.2.1 a.2.2.1) a)) >>= fun a => pure (!a)) >>= fun c => if c = true then (pure false) else (((((pure signs_2) >>= fun x => pure (x.length : Int)) >>= fun a => (pure (0 : Int)) >>= fun b => pure (decide (b < a))) >>= fun a => if a = true then (((((((pure nodes_4) >>= fun x => (pure none) >>= fun l => (((pure (1 : Int)) >>= fun a => pure (-a)) >>= fun i => pure (some i)) >>= fun h => pure (cutL x l h)) >>= fun a => (((pure signs_2) >>= fun x => (pure none) >>= fun l => (((pure (1 : Int)) >>= fun a => pure (-a)) >>= fun i => pure (some i)) >>= fun h => pure (cutL x l h)) >>= fun a => (pure ()) >>= fun as => pure (a, as)) >>= fun as => pure (a, as)) >>= fun a => frame ((fun a => m_Walk___init__ a.1 a.2.1) a)) >>= fun a => (((pure nodes_4) >>= fun x => (pure none) >>= fun l => (((pure (1 : Int)) >>= fun a => pure (-a)) >>= fun i => pure (some i)) >>= fun h => pure (cutL x l h)) >>= fun a => (((pure signs_2) >>= fun x => (pure none) >>= fun l => (((pure (1 : Int)) >>= fun a => pure (-a)) >>= fun i => pure (some i)) >>= fun h => pure (cutL x l h)) >>= fun a => (pure ()) >>= fun as => pure (a, as)) >>= fun as => pure (a, as)) >>= fun as => pure (a, as)) >>= fun a => frame ((fun a => m_law_counts_kept a.1 a.2.1 a.2.2.1) a)) >>= fun a => pure (!a)) else pure false) >>= fun c => if c = true then (pure false) else ((((pure ("" : Str)) >>= fun a => ((pure ("<" : Str)) >>= fun a => ((((pure walk_5) >>= fun o => noX (frame ((fun (x : Walk × Unit) => m_Walk_start x.1) (o, ())))) >>= fun a => (pure (" " : Str)) >>= fun b => catS a b) >>= fun a => (((pure ()) >>= fun a => (fun a => m_law_bad_direction ) a) >>= fun a => (pure []) >>= fun as => pure (a :: as)) >>= fun as => pure (a :: as)) >>= fun as => pure (a :: as)) >>= fun as => pure (a :: as)) >>= fun l => forF (fun bad_7 b_6 => ((((((((pure walk_5) >>= fun a => ((pure bad_7) >>= fun a => (pure ()) >>= fun as => pure (a, as)) >>= fun as => pure (a, as)) >>= fun a => frame ((fun a => m_law_counted_fault a.1 a.2.1) a)) >>= fun a => pure ((fun l => PyData.list (l.map id)) a)) >>= fun a => (((((pure true) >>= fun a => pure (PyData.bool a)) >>= fun a => (((pure false) >>= fun a => pure (PyData.bool a)) >>= fun a => (((pure false) >>= fun a => pure (PyData.bool a)) >>= fun a => (((pure bad_7) >>= fun a => pure (PyData.str a)) >>= fun a => (pure []) >>= fun as => pure (a :: as)) >>= fun as => pure (a :: as)) >>= fun as => pure (a :: as)) >>= fun as => pure (a :: as)) >>= fun a => pure ((fun l => PyData.list (l.map id)) a)) >>= fun a => (pure ()) >>= fun as => pure (a, as)) >>= fun as => pure (a, as)) >>= fun a => frame ((fun a => m_law_same 7 a.1 a.2.1) a)) >>= fun a => pure (!a)) >>= fun c => if c = true then ((pure false) >>= fun a => pure (.rt a)) else ((pure () >>= fun _ => pure ()) >>= fun b => pure (.nx b)))) l ()) >>= orElse fun b_6 => (((((((((pure nodes_4) >>= fun l => ((pure (1 : Int)) >>= fun a => pure (-a)) >>= fun i => getM l i) >>= fun a => (pure []) >>= fun as => pure (a :: as)) >>= fun a => (pure ()) >>= fun as => pure (a, as)) >>= fun a => frame ((fun (a : (List Str) × (List Str) × Unit) => m_Walk___init___1 a.1 a.2.1) ((fun (a : (List Str) × Unit) => (a.1, [], ())) a))) >>= fun a => ((((pure nodes_4) >>= fun l => ((pure (1 : Int)) >>= fun a => pure (-a)) >>= fun i => getM l i) >>= fun a => (pure []) >>= fun as => pure (a :: as)) >>= fun a => ((pure []) >>= fun a => (pure ()) >>= fun as => pure (a, as)) >>= fun as => pure (a, as)) >>= fun as => pure (a, as)) >>= fun a => frame ((fun a => m_law_counts_kept a.1 a.2.1 a.2.2.1) a)) >>= fun a => pure (!a)) >>= fun c => if c = true then (pure false) else (((pure walk_5) >>= fun a => ((pure nodes_4) >>= fun a => ((pure signs_2) >>= fun a => (pure ()) >>= fun as => pure (a, as)) >>= fun as => pure (a, as)) >>= fun as => pure (a, as)) >>= fun a => frame ((fun a => m_law_counts_kept a.1 a.2.1 a.2.2.1) a))))))))))
end My

set_option maxHeartbeats 4000000
namespace My
open PySem PySem.Spec L2 Kf
open PyProof.Rows hiding St
def top (i : Nat) : Stmt := PySem.Challenge.pw_kindsfill_k40_walk_counts.main.body.getD i (.Pass ⟨0, 0, 0, 0⟩)
def clsBody : Stmt → List Stmt
  | .ClassDef _ _ _ b _ _ _ _ _ _ _ => b
  | _ => []
def mth (i j : Nat) : Stmt := (clsBody (top i)).getD j (.Pass ⟨0, 0, 0, 0⟩)
end My
namespace My
open PySem PySem.Spec L2 Kf
open PyProof.Rows hiding St
def fn_0 : List He.DefD := [⟨("_law_draw", none), "_law_draw", "_law_draw", defArgs (top 23), defBody (top 23), defScope (top 23), [], []⟩, ⟨("_law_word", none), "_law_word", "_law_word", defArgs (top 24), defBody (top 24), defScope (top 24), [], []⟩, ⟨("_law_fresh", none), "_law_fresh", "_law_fresh", defArgs (top 25), defBody (top 25), defScope (top 25), [], []⟩, ⟨("_law_names", none), "_law_names", "_law_names", defArgs (top 26), defBody (top 26), defScope (top 26), [], []⟩, ⟨("_law_unknowns", none), "_law_unknowns", "_law_unknowns", defArgs (top 27), defBody (top 27), defScope (top 27), [], []⟩, ⟨("_law_signs", none), "_law_signs", "_law_signs", defArgs (top 30), defBody (top 30), defScope (top 30), [], []⟩]
def fn_1 : List He.DefD := [⟨("is_kind_name", none), "is_kind_name", "is_kind_name", defArgs (top 12), defBody (top 12), defScope (top 12), [], []⟩, ⟨("is_unknown_name", none), "is_unknown_name", "is_unknown_name", defArgs (top 13), defBody (top 13), defScope (top 13), [], []⟩, ⟨("check_node", none), "check_node", "check_node", defArgs (top 17), defBody (top 17), defScope (top 17), [], []⟩, ⟨("check_sign", none), "check_sign", "check_sign", defArgs (top 18), defBody (top 18), defScope (top 18), [], []⟩, ⟨("Walk", some "__init__"), "__init__", "Walk.__init__", defArgs (mth 20 0), defBody (mth 20 0), defScope (mth 20 0), [.adr (He.dflAt ("Walk", some "__init__") 0)], []⟩, ⟨("_law_same", none), "_law_same", "_law_same", defArgs (top 28), defBody (top 28), defScope (top 28), [], []⟩]
def fn_2 : List He.DefD := [⟨("Walk", some "__len__"), "__len__", "Walk.__len__", defArgs (mth 20 7), defBody (mth 20 7), defScope (mth 20 7), [], []⟩, ⟨("check_direction", none), "check_direction", "check_direction", defArgs (top 14), defBody (top 14), defScope (top 14), [], []⟩, ⟨("Walk", some "counted"), "counted", "Walk.counted", defArgs (mth 20 6), defBody (mth 20 6), defScope (mth 20 6), [], []⟩, ⟨("_law_counts_kept", none), "_law_counts_kept", "_law_counts_kept", defArgs (top 31), defBody (top 31), defScope (top 31), [], []⟩, ⟨("_law_bad_direction", none), "_law_bad_direction", "_law_bad_direction", defArgs (top 29), defBody (top 29), defScope (top 29), [], []⟩, ⟨("_law_counted_fault", none), "_law_counted_fault", "_law_counted_fault", defArgs (top 32), defBody (top 32), defScope (top 32), [], []⟩]
def fn_3 : List He.DefD := [⟨("law", none), "law", "law", defArgs (top 33), defBody (top 33), defScope (top 33), [], []⟩, ⟨("_law_pool", none), "_law_pool", "_law_pool", defArgs (top 22), defBody (top 22), defScope (top 22), [], []⟩]
def fn : List He.DefD := fn_0 ++ fn_1 ++ fn_2 ++ fn_3

def fa_0 : List He.Fa := [.glo "_law_draw", .glo "_law_word", .glo "_law_fresh", .glo "_law_names", .glo "_law_unknowns", .glo "_law_signs", .glo "is_kind_name", .glo "is_unknown_name", .glo "check_node", .glo "check_sign", .glo "_law_same", .glo "check_direction"]
def fa_1 : List He.Fa := [.glo "_law_counts_kept", .glo "_law_bad_direction", .glo "_law_counted_fault", .glo "law", .glo "_law_pool", .free "ValueError", .free "abs", .free "all", .free "bool", .free "int", .free "isinstance", .free "len"]
def fa_2 : List He.Fa := [.free "list", .free "range", .free "str", .free "tuple", .str "LATER" "abcdefghijklmnopqrstuvwxyz0123456789.", .str "LETTERS" "abcdefghijklmnopqrstuvwxyz", .int "MOST_LETTERS" 24, .glo "Walk", .cls "Walk", .noat "Walk" "nodes", .noat "Walk" "signs", .mkr "Walk"]
def fa_3 : List He.Fa := [.meth "Walk" "__len__", .meth "Walk" "counted", .glo "SIGNS", .glo "BadName", .glo "BadSign", .glo "BadCount", .glo "BadDirection", .glo "KindError", .glo "NotListed"]
def fa : List He.Fa := fa_0 ++ fa_1 ++ fa_2 ++ fa_3

def file : Str := PySem.Challenge.pw_kindsfill_k40_walk_counts.main.file
def wn : List He5.DefA := [{ at_ := fun K => He5.wf K (He.ga K "Walk") "property" "start", name := "start", qual := "Walk.start", params := defArgs (mth 20 2), body := defBody (mth 20 2), scope := defScope (mth 20 2) }, { at_ := fun K => He5.wf K (He.ga K "Walk") "property" "end", name := "end", qual := "Walk.end", params := defArgs (mth 20 3), body := defBody (mth 20 3), scope := defScope (mth 20 3) }, { at_ := fun K => He5.wf K (He.ga K "Walk") "property" "runs", name := "runs", qual := "Walk.runs", params := defArgs (mth 20 4), body := defBody (mth 20 4), scope := defScope (mth 20 4) }, { at_ := fun K => He5.wf K (He.ga K "Walk") "property" "first", name := "first", qual := "Walk.first", params := defArgs (mth 20 5), body := defBody (mth 20 5), scope := defScope (mth 20 5) }]
def exs_0 : List (PySem.W.Frag → Bool) := [(fun K => He.tupB K "SIGNS" [.str "<", .str ">"]), (fun K => prB K "Walk" "start"), (fun K => prB K "Walk" "end"), (fun K => prB K "Walk" "runs"), (fun K => prB K "Walk" "first"), (fun K => emptyTB K (He.dflAt ("Walk", some "__init__") 0 K)), (fun K => erB K "BadName" "BadName.__init__" ["name"] file), (fun K => erB K "BadSign" "BadSign.__init__" ["sign"] file)]
def exs_1 : List (PySem.W.Frag → Bool) := [(fun K => erB K "BadCount" "BadCount.__init__" ["number"] file), (fun K => erB K "BadDirection" "BadDirection.__init__" ["direction"] file), (fun K => etB K CL "KindError" (.ref (He.ga K "KindError"))), (fun K => eiB K CL "ValueError" (.type "ValueError")), (fun K => eiB K CL "BadSign" (.ref (He.ga K "BadSign"))), (fun K => eiB K CL "NotListed" (.ref (He.ga K "NotListed"))), (fun K => eiB K CL "BadDirection" (.ref (He.ga K "BadDirection"))), (fun K => efB K CL "direction")]
def exs : List (PySem.W.Frag → Bool) := exs_0 ++ exs_1

def ex (K : PySem.W.Frag) : Bool := exs.all fun f => f K
def en : List ErD := [⟨"BadName", "BadName.__init__", defArgs (mth 2 0), defBody (mth 2 0), defScope (mth 2 0)⟩, ⟨"BadSign", "BadSign.__init__", defArgs (mth 6 0), defBody (mth 6 0), defScope (mth 6 0)⟩, ⟨"BadCount", "BadCount.__init__", defArgs (mth 4 0), defBody (mth 4 0), defScope (mth 4 0)⟩, ⟨"BadDirection", "BadDirection.__init__", defArgs (mth 5 0), defBody (mth 5 0), defScope (mth 5 0)⟩]
def loose_0 : List PySem.Str := ["KindError", "BadName", "NotListed", "BadCount", "BadDirection", "BadSign", "NotJoined", "MOST_LETTERS", "LETTERS", "LATER", "is_kind_name", "is_unknown_name"]
def loose_1 : List PySem.Str := ["check_direction", "SIGNS", "check_node", "check_sign", "turned", "Walk", "_law_pool", "_law_draw", "_law_word", "_law_fresh", "_law_names", "_law_unknowns"]
def loose_2 : List PySem.Str := ["_law_same", "_law_bad_direction", "_law_signs", "_law_counts_kept", "_law_counted_fault"]
def loose : List PySem.Str := loose_0 ++ loose_1 ++ loose_2

abbrev RR : PySem.W.OpenRow := PySem.W.OpenLaw.row PySem.Challenge.rw_kindsfill_k40_walk_counts
abbrev hk : PySem.W.Hook := hookW 5 fa fn en wn ex
def ob (s : PySem.W.SharedT) : AlW := obsWG 5 fa fn en wn ex (HandSHeadRun.getT s)
theorem ob_eq (s : PySem.W.SharedT) : ob s = hk.obs s.abs := obsWG_eq (HandSHeadRun.getT_eq s)
set_option maxHeartbeats 0 in
theorem run (w : World) : HandSHeadRun.RunEq RR (PySem.W.view RR.prog [33]) hk ob 8000 loose w := by
  intro os
  kernel_rfl
end My
namespace My
open PySem PySem.Spec L2 Kf
open PyProof.Rows hiding St
def f_Walk (K : PySem.W.Frag) (o : Walk) : List FV := [⟨"nodes", (rTup K rStr), o.nodes⟩, ⟨"signs", (rTup K rStr), o.signs⟩]
def n_Walk : List Str := ["nodes", "signs"]
theorem hn_Walk (K : PySem.W.Frag) : ∀ o, (f_Walk K o).map FV.n = n_Walk := fun _ => rfl
abbrev r_Walk (K : PySem.W.Frag) : Rl Walk := rIns K "Walk" (f_Walk K)
def N__law_draw : List Str := ["pool", "bound", "found", "near", "mixed"]
def N__law_word : List Str := ["pool", "size", "first", "later", "word", "k"]
def N__law_fresh : List Str := ["word", "names", "k", "found"]
def N__law_names : List Str := ["pool", "count", "letters", "names", "stem", "place", "shift", "k", "size"]
def N__law_unknowns : List Str := ["pool", "count", "k", "name"]
def N__law_signs : List Str := ["pool", "signs", "sign", "k", "size", "step"]
def N_is_kind_name : List Str := ["text", "char"]
def N_is_unknown_name : List Str := ["text", "char"]
def N_check_node : List Str := ["name"]
def N_check_sign : List Str := ["sign"]
def N_Walk___init__ : List Str := ["self", "nodes", "signs", "name", "sign"]
def N_Walk_start : List Str := ["self"]
def N__law_same : List Str := ["actual", "due", "k"]
def N_Walk_end : List Str := ["self"]
def N_Walk_runs : List Str := ["self", "k"]
def N_Walk_first : List Str := ["self"]
def N_Walk___len__ : List Str := ["self"]
def N_check_direction : List Str := ["first"]
def N_Walk_counted : List Str := ["self", "direction"]
def N__law_counts_kept : List Str := ["walk", "nodes", "signs", "runs", "last", "sign", "first", "direction", "due"]
def N__law_bad_direction : List Str := ["pool", "way"]
def N__law_counted_fault : List Str := ["walk", "direction", "e", "found"]
def N_law : List Str := ["script", "pool", "menu", "signs", "nodes", "walk", "bad", "k"]
def N__law_pool : List Str := ["script"]
theorem sc__law_draw : FnScope N__law_draw ["pool", "bound"] (defScope (top 23)) := ⟨rfl, rfl, rfl, by decide +kernel, rfl, by decide +kernel, by decide +kernel⟩
theorem sc__law_word : FnScope N__law_word ["pool", "size"] (defScope (top 24)) := ⟨rfl, rfl, rfl, by decide +kernel, rfl, by decide +kernel, by decide +kernel⟩
theorem sc__law_fresh : FnScope N__law_fresh ["word", "names"] (defScope (top 25)) := ⟨rfl, rfl, rfl, by decide +kernel, rfl, by decide +kernel, by decide +kernel⟩
theorem sc__law_names : FnScope N__law_names ["pool", "count"] (defScope (top 26)) := ⟨rfl, rfl, rfl, by decide +kernel, rfl, by decide +kernel, by decide +kernel⟩
theorem sc__law_unknowns : FnScope N__law_unknowns ["pool", "count"] (defScope (top 27)) := ⟨rfl, rfl, rfl, by decide +kernel, rfl, by decide +kernel, by decide +kernel⟩
theorem sc__law_signs : FnScope N__law_signs ["pool"] (defScope (top 30)) := ⟨rfl, rfl, rfl, by decide +kernel, rfl, by decide +kernel, by decide +kernel⟩
theorem sc_is_kind_name : FnScope N_is_kind_name ["text"] (defScope (top 12)) := ⟨rfl, rfl, rfl, by decide +kernel, rfl, by decide +kernel, by decide +kernel⟩
theorem sc_is_unknown_name : FnScope N_is_unknown_name ["text"] (defScope (top 13)) := ⟨rfl, rfl, rfl, by decide +kernel, rfl, by decide +kernel, by decide +kernel⟩
theorem sc_check_node : FnScope N_check_node ["name"] (defScope (top 17)) := ⟨rfl, rfl, rfl, by decide +kernel, rfl, by decide +kernel, by decide +kernel⟩
theorem sc_check_sign : FnScope N_check_sign ["sign"] (defScope (top 18)) := ⟨rfl, rfl, rfl, by decide +kernel, rfl, by decide +kernel, by decide +kernel⟩
theorem sc_Walk___init__ : FnScope N_Walk___init__ ["self", "nodes", "signs"] (defScope (mth 20 0)) := ⟨rfl, rfl, rfl, by decide +kernel, rfl, by decide +kernel, by decide +kernel⟩
theorem sc_Walk_start : FnScope N_Walk_start ["self"] (defScope (mth 20 2)) := ⟨rfl, rfl, rfl, by decide +kernel, rfl, by decide +kernel, by decide +kernel⟩
theorem sc__law_same : FnScope N__law_same ["actual", "due"] (defScope (top 28)) := ⟨rfl, rfl, rfl, by decide +kernel, rfl, by decide +kernel, by decide +kernel⟩
theorem sc_Walk_end : FnScope N_Walk_end ["self"] (defScope (mth 20 3)) := ⟨rfl, rfl, rfl, by decide +kernel, rfl, by decide +kernel, by decide +kernel⟩
theorem sc_Walk_runs : FnScope N_Walk_runs ["self"] (defScope (mth 20 4)) := ⟨rfl, rfl, rfl, by decide +kernel, rfl, by decide +kernel, by decide +kernel⟩
theorem sc_Walk_first : FnScope N_Walk_first ["self"] (defScope (mth 20 5)) := ⟨rfl, rfl, rfl, by decide +kernel, rfl, by decide +kernel, by decide +kernel⟩
theorem sc_Walk___len__ : FnScope N_Walk___len__ ["self"] (defScope (mth 20 7)) := ⟨rfl, rfl, rfl, by decide +kernel, rfl, by decide +kernel, by decide +kernel⟩
theorem sc_check_direction : FnScope N_check_direction ["first"] (defScope (top 14)) := ⟨rfl, rfl, rfl, by decide +kernel, rfl, by decide +kernel, by decide +kernel⟩
theorem sc_Walk_counted : FnScope N_Walk_counted ["self", "direction"] (defScope (mth 20 6)) := ⟨rfl, rfl, rfl, by decide +kernel, rfl, by decide +kernel, by decide +kernel⟩
theorem sc__law_counts_kept : FnScope N__law_counts_kept ["walk", "nodes", "signs"] (defScope (top 31)) := ⟨rfl, rfl, rfl, by decide +kernel, rfl, by decide +kernel, by decide +kernel⟩
theorem sc__law_bad_direction : FnScope N__law_bad_direction ["pool"] (defScope (top 29)) := ⟨rfl, rfl, rfl, by decide +kernel, rfl, by decide +kernel, by decide +kernel⟩
theorem sc__law_counted_fault : FnScope N__law_counted_fault ["walk", "direction"] (defScope (top 32)) := ⟨rfl, rfl, rfl, by decide +kernel, rfl, by decide +kernel, by decide +kernel⟩
theorem sc_law : FnScope N_law ["script"] (defScope (top 33)) := ⟨rfl, rfl, rfl, by decide +kernel, rfl, by decide +kernel, by decide +kernel⟩
theorem sc__law_pool : FnScope N__law_pool ["script"] (defScope (top 22)) := ⟨rfl, rfl, rfl, by decide +kernel, rfl, by decide +kernel, by decide +kernel⟩
theorem sh_BadName : Er.Shape1 "BadName.__init__" "name" (defArgs (mth 2 0)) (defBody (mth 2 0)) := ⟨⟨fun g hg => by rw [List.mem_singleton.mp hg]; rfl, rfl, rfl⟩, ⟨_, _, _, _, _, _, _, _, _, _, _, _, _, _, rfl, rfl, fun _ _ _ _ _ => rfl, fun _ _ _ _ => rfl⟩, by decide, by decide, fun _ _ _ _ _ _ _ _ => rfl⟩
theorem sh_BadSign : Er.Shape1 "BadSign.__init__" "sign" (defArgs (mth 6 0)) (defBody (mth 6 0)) := ⟨⟨fun g hg => by rw [List.mem_singleton.mp hg]; rfl, rfl, rfl⟩, ⟨_, _, _, _, _, _, _, _, _, _, _, _, _, _, rfl, rfl, fun _ _ _ _ _ => rfl, fun _ _ _ _ => rfl⟩, by decide, by decide, fun _ _ _ _ _ _ _ _ => rfl⟩
theorem sh_BadCount : Er.Shape1 "BadCount.__init__" "number" (defArgs (mth 4 0)) (defBody (mth 4 0)) := ⟨⟨fun g hg => by rw [List.mem_singleton.mp hg]; rfl, rfl, rfl⟩, ⟨_, _, _, _, _, _, _, _, _, _, _, _, _, _, rfl, rfl, fun _ _ _ _ _ => rfl, fun _ _ _ _ => rfl⟩, by decide, by decide, fun _ _ _ _ _ _ _ _ => rfl⟩
theorem sh_BadDirection : Er.Shape1 "BadDirection.__init__" "direction" (defArgs (mth 5 0)) (defBody (mth 5 0)) := ⟨⟨fun g hg => by rw [List.mem_singleton.mp hg]; rfl, rfl, rfl⟩, ⟨_, _, _, _, _, _, _, _, _, _, _, _, _, _, rfl, rfl, fun _ _ _ _ _ => rfl, fun _ _ _ _ => rfl⟩, by decide, by decide, fun _ _ _ _ _ _ _ _ => rfl⟩
/-- what the top has written -/
structure Tx (P : Program) (K : PySem.W.Frag) (mg : Str → Option Value) where
  fd__law_draw : FuncData
  F__law_draw : FunD K "_law_draw" "_law_draw" (defArgs (top 23)) (defBody (top 23)) (defScope (top 23)) [] [] (He.ga K "_law_draw") fd__law_draw
  g__law_draw : mg "_law_draw" = some (.ref (He.ga K "_law_draw"))
  fd__law_word : FuncData
  F__law_word : FunD K "_law_word" "_law_word" (defArgs (top 24)) (defBody (top 24)) (defScope (top 24)) [] [] (He.ga K "_law_word") fd__law_word
  g__law_word : mg "_law_word" = some (.ref (He.ga K "_law_word"))
  fd__law_fresh : FuncData
  F__law_fresh : FunD K "_law_fresh" "_law_fresh" (defArgs (top 25)) (defBody (top 25)) (defScope (top 25)) [] [] (He.ga K "_law_fresh") fd__law_fresh
  g__law_fresh : mg "_law_fresh" = some (.ref (He.ga K "_law_fresh"))
  fd__law_names : FuncData
  F__law_names : FunD K "_law_names" "_law_names" (defArgs (top 26)) (defBody (top 26)) (defScope (top 26)) [] [] (He.ga K "_law_names") fd__law_names
  g__law_names : mg "_law_names" = some (.ref (He.ga K "_law_names"))
  fd__law_unknowns : FuncData
  F__law_unknowns : FunD K "_law_unknowns" "_law_unknowns" (defArgs (top 27)) (defBody (top 27)) (defScope (top 27)) [] [] (He.ga K "_law_unknowns") fd__law_unknowns
  g__law_unknowns : mg "_law_unknowns" = some (.ref (He.ga K "_law_unknowns"))
  fd__law_signs : FuncData
  F__law_signs : FunD K "_law_signs" "_law_signs" (defArgs (top 30)) (defBody (top 30)) (defScope (top 30)) [] [] (He.ga K "_law_signs") fd__law_signs
  g__law_signs : mg "_law_signs" = some (.ref (He.ga K "_law_signs"))
  fd_is_kind_name : FuncData
  F_is_kind_name : FunD K "is_kind_name" "is_kind_name" (defArgs (top 12)) (defBody (top 12)) (defScope (top 12)) [] [] (He.ga K "is_kind_name") fd_is_kind_name
  g_is_kind_name : mg "is_kind_name" = some (.ref (He.ga K "is_kind_name"))
  fd_is_unknown_name : FuncData
  F_is_unknown_name : FunD K "is_unknown_name" "is_unknown_name" (defArgs (top 13)) (defBody (top 13)) (defScope (top 13)) [] [] (He.ga K "is_unknown_name") fd_is_unknown_name
  g_is_unknown_name : mg "is_unknown_name" = some (.ref (He.ga K "is_unknown_name"))
  fd_check_node : FuncData
  F_check_node : FunD K "check_node" "check_node" (defArgs (top 17)) (defBody (top 17)) (defScope (top 17)) [] [] (He.ga K "check_node") fd_check_node
  g_check_node : mg "check_node" = some (.ref (He.ga K "check_node"))
  fd_check_sign : FuncData
  F_check_sign : FunD K "check_sign" "check_sign" (defArgs (top 18)) (defBody (top 18)) (defScope (top 18)) [] [] (He.ga K "check_sign") fd_check_sign
  g_check_sign : mg "check_sign" = some (.ref (He.ga K "check_sign"))
  fd_Walk___init__ : FuncData
  F_Walk___init__ : FunD K "__init__" "Walk.__init__" (defArgs (mth 20 0)) (defBody (mth 20 0)) (defScope (mth 20 0)) [.ref (He.dflAt ("Walk", some "__init__") 0 K)] [] (He.fAd K ("Walk", some "__init__")) fd_Walk___init__
  fd_Walk_start : FuncData
  F_Walk_start : FunD K "start" "Walk.start" (defArgs (mth 20 2)) (defBody (mth 20 2)) (defScope (mth 20 2)) [] [] (He5.wf K (He.ga K "Walk") "property" "start") fd_Walk_start
  fd__law_same : FuncData
  F__law_same : FunD K "_law_same" "_law_same" (defArgs (top 28)) (defBody (top 28)) (defScope (top 28)) [] [] (He.ga K "_law_same") fd__law_same
  g__law_same : mg "_law_same" = some (.ref (He.ga K "_law_same"))
  fd_Walk_end : FuncData
  F_Walk_end : FunD K "end" "Walk.end" (defArgs (mth 20 3)) (defBody (mth 20 3)) (defScope (mth 20 3)) [] [] (He5.wf K (He.ga K "Walk") "property" "end") fd_Walk_end
  fd_Walk_runs : FuncData
  F_Walk_runs : FunD K "runs" "Walk.runs" (defArgs (mth 20 4)) (defBody (mth 20 4)) (defScope (mth 20 4)) [] [] (He5.wf K (He.ga K "Walk") "property" "runs") fd_Walk_runs
  fd_Walk_first : FuncData
  F_Walk_first : FunD K "first" "Walk.first" (defArgs (mth 20 5)) (defBody (mth 20 5)) (defScope (mth 20 5)) [] [] (He5.wf K (He.ga K "Walk") "property" "first") fd_Walk_first
  fd_Walk___len__ : FuncData
  F_Walk___len__ : FunD K "__len__" "Walk.__len__" (defArgs (mth 20 7)) (defBody (mth 20 7)) (defScope (mth 20 7)) [] [] (He.fAd K ("Walk", some "__len__")) fd_Walk___len__
  fd_check_direction : FuncData
  F_check_direction : FunD K "check_direction" "check_direction" (defArgs (top 14)) (defBody (top 14)) (defScope (top 14)) [] [] (He.ga K "check_direction") fd_check_direction
  g_check_direction : mg "check_direction" = some (.ref (He.ga K "check_direction"))
  fd_Walk_counted : FuncData
  F_Walk_counted : FunD K "counted" "Walk.counted" (defArgs (mth 20 6)) (defBody (mth 20 6)) (defScope (mth 20 6)) [] [] (He.fAd K ("Walk", some "counted")) fd_Walk_counted
  fd__law_counts_kept : FuncData
  F__law_counts_kept : FunD K "_law_counts_kept" "_law_counts_kept" (defArgs (top 31)) (defBody (top 31)) (defScope (top 31)) [] [] (He.ga K "_law_counts_kept") fd__law_counts_kept
  g__law_counts_kept : mg "_law_counts_kept" = some (.ref (He.ga K "_law_counts_kept"))
  fd__law_bad_direction : FuncData
  F__law_bad_direction : FunD K "_law_bad_direction" "_law_bad_direction" (defArgs (top 29)) (defBody (top 29)) (defScope (top 29)) [] [] (He.ga K "_law_bad_direction") fd__law_bad_direction
  g__law_bad_direction : mg "_law_bad_direction" = some (.ref (He.ga K "_law_bad_direction"))
  fd__law_counted_fault : FuncData
  F__law_counted_fault : FunD K "_law_counted_fault" "_law_counted_fault" (defArgs (top 32)) (defBody (top 32)) (defScope (top 32)) [] [] (He.ga K "_law_counted_fault") fd__law_counted_fault
  g__law_counted_fault : mg "_law_counted_fault" = some (.ref (He.ga K "_law_counted_fault"))
  fd_law : FuncData
  F_law : FunD K "law" "law" (defArgs (top 33)) (defBody (top 33)) (defScope (top 33)) [] [] (He.ga K "law") fd_law
  g_law : mg "law" = some (.ref (He.ga K "law"))
  fd__law_pool : FuncData
  F__law_pool : FunD K "_law_pool" "_law_pool" (defArgs (top 22)) (defBody (top 22)) (defScope (top 22)) [] [] (He.ga K "_law_pool") fd__law_pool
  g__law_pool : mg "_law_pool" = some (.ref (He.ga K "_law_pool"))
  n_ValueError : mg "ValueError" = none
  n_abs : mg "abs" = none
  n_all : mg "all" = none
  n_bool : mg "bool" = none
  n_int : mg "int" = none
  n_isinstance : mg "isinstance" = none
  n_len : mg "len" = none
  n_list : mg "list" = none
  n_range : mg "range" = none
  n_str : mg "str" = none
  n_tuple : mg "tuple" = none
  c_LATER : ∃ t, mg "LATER" = some (.str "abcdefghijklmnopqrstuvwxyz0123456789." t)
  c_LETTERS : ∃ t, mg "LETTERS" = some (.str "abcdefghijklmnopqrstuvwxyz" t)
  c_MOST_LETTERS : ∃ t, mg "MOST_LETTERS" = some (.int 24 t)
  g_Walk : mg "Walk" = some (.ref (He.ga K "Walk"))
  cls_Walk : Cls K (He.ga K "Walk")
  na_Walk_nodes : NoAttr K (He.ga K "Walk") "nodes"
  na_Walk_signs : NoAttr K (He.ga K "Walk") "signs"
  mk_Walk : Mk K (He.ga K "Walk") (He.fAd K ("Walk", some "__init__"))
  m_Walk___len__ : Meth K (He.ga K "Walk") "__len__" (He.fAd K ("Walk", some "__len__"))
  m_Walk_counted : Meth K (He.ga K "Walk") "counted" (He.fAd K ("Walk", some "counted"))
  g_SIGNS : mg "SIGNS" = some (.ref (He.ga K "SIGNS"))
  tp_SIGNS : ∀ H, SqT K H (He.ga K "SIGNS") ([.str "<", .str ">"] : List V)
  pr_Walk_start : PropOf K (He.ga K "Walk") "start" (He.ma K (He.ga K "Walk") "start") (He5.wf K (He.ga K "Walk") "property" "start")
  pr_Walk_end : PropOf K (He.ga K "Walk") "end" (He.ma K (He.ga K "Walk") "end") (He5.wf K (He.ga K "Walk") "property" "end")
  pr_Walk_runs : PropOf K (He.ga K "Walk") "runs" (He.ma K (He.ga K "Walk") "runs") (He5.wf K (He.ga K "Walk") "property" "runs")
  pr_Walk_first : PropOf K (He.ga K "Walk") "first" (He.ma K (He.ga K "Walk") "first") (He5.wf K (He.ga K "Walk") "property" "first")
  dt_Walk___init__ : SqT K (fun _ => none) (He.dflAt ("Walk", some "__init__") 0 K) []
  er_BadName : Er.Txt K mg P "BadName" "BadName.__init__" ["name"] (defArgs (mth 2 0)) (defBody (mth 2 0)) (He.ga K "BadName") (fI K "BadName") (cellA K "BadName")
  ec_BadName : ErrC K (He.ga K "BadName")
  g_BadName : mg "BadName" = some (.ref (He.ga K "BadName"))
  er_BadSign : Er.Txt K mg P "BadSign" "BadSign.__init__" ["sign"] (defArgs (mth 6 0)) (defBody (mth 6 0)) (He.ga K "BadSign") (fI K "BadSign") (cellA K "BadSign")
  ec_BadSign : ErrC K (He.ga K "BadSign")
  g_BadSign : mg "BadSign" = some (.ref (He.ga K "BadSign"))
  er_BadCount : Er.Txt K mg P "BadCount" "BadCount.__init__" ["number"] (defArgs (mth 4 0)) (defBody (mth 4 0)) (He.ga K "BadCount") (fI K "BadCount") (cellA K "BadCount")
  ec_BadCount : ErrC K (He.ga K "BadCount")
  g_BadCount : mg "BadCount" = some (.ref (He.ga K "BadCount"))
  er_BadDirection : Er.Txt K mg P "BadDirection" "BadDirection.__init__" ["direction"] (defArgs (mth 5 0)) (defBody (mth 5 0)) (He.ga K "BadDirection") (fI K "BadDirection") (cellA K "BadDirection")
  ec_BadDirection : ErrC K (He.ga K "BadDirection")
  g_BadDirection : mg "BadDirection" = some (.ref (He.ga K "BadDirection"))
  g_KindError : mg "KindError" = some (.ref (He.ga K "KindError"))
  et_KindError : ErrT K CL "KindError" (.ref (He.ga K "KindError"))
  ei_ValueError : ErrI K CL "ValueError" (.type "ValueError")
  ei_BadSign : ErrI K CL "BadSign" (.ref (He.ga K "BadSign"))
  g_NotListed : mg "NotListed" = some (.ref (He.ga K "NotListed"))
  ei_NotListed : ErrI K CL "NotListed" (.ref (He.ga K "NotListed"))
  ei_BadDirection : ErrI K CL "BadDirection" (.ref (He.ga K "BadDirection"))
  ef_direction : ∀ x ∈ CL, PySem.W.findIn K (.ref (He.ga K x)) "direction" = some none
section
variable {P : Program} {w : World} {K : PySem.W.Frag} {mg : Str → Option Value} {base : Heap}
theorem Tx.ec (T : Tx P K mg) : ∀ x ∈ CL, ErrC K (He.ga K x) := fun x hx => by
  simp only [CL, List.mem_cons, List.not_mem_nil, or_false] at hx
  rcases hx with rfl | rfl | rfl | rfl
  · exact T.ec_BadName
  · exact T.ec_BadSign
  · exact T.ec_BadCount
  · exact T.ec_BadDirection
theorem bi__law_draw (T : Tx P K mg) : Binds K T.fd__law_draw ["pool", "bound"] [] := T.F__law_draw.bindsN fun _ _ _ _ _ _ us hl => match us, hl with | [_, _], _ => rfl
theorem bi__law_word (T : Tx P K mg) : Binds K T.fd__law_word ["pool", "size"] [] := T.F__law_word.bindsN fun _ _ _ _ _ _ us hl => match us, hl with | [_, _], _ => rfl
theorem bi__law_fresh (T : Tx P K mg) : Binds K T.fd__law_fresh ["word", "names"] [] := T.F__law_fresh.bindsN fun _ _ _ _ _ _ us hl => match us, hl with | [_, _], _ => rfl
theorem bi__law_names (T : Tx P K mg) : Binds K T.fd__law_names ["pool", "count"] [] := T.F__law_names.bindsN fun _ _ _ _ _ _ us hl => match us, hl with | [_, _], _ => rfl
theorem bi__law_unknowns (T : Tx P K mg) : Binds K T.fd__law_unknowns ["pool", "count"] [] := T.F__law_unknowns.bindsN fun _ _ _ _ _ _ us hl => match us, hl with | [_, _], _ => rfl
theorem bi__law_signs (T : Tx P K mg) : Binds K T.fd__law_signs ["pool"] [] := T.F__law_signs.bindsN fun _ _ _ _ _ _ us hl => match us, hl with | [_], _ => rfl
theorem bi_is_kind_name (T : Tx P K mg) : Binds K T.fd_is_kind_name ["text"] [] := T.F_is_kind_name.bindsN fun _ _ _ _ _ _ us hl => match us, hl with | [_], _ => rfl
theorem bi_is_unknown_name (T : Tx P K mg) : Binds K T.fd_is_unknown_name ["text"] [] := T.F_is_unknown_name.bindsN fun _ _ _ _ _ _ us hl => match us, hl with | [_], _ => rfl
theorem bi_check_node (T : Tx P K mg) : Binds K T.fd_check_node ["name"] [] := T.F_check_node.bindsN fun _ _ _ _ _ _ us hl => match us, hl with | [_], _ => rfl
theorem bi_check_sign (T : Tx P K mg) : Binds K T.fd_check_sign ["sign"] [] := T.F_check_sign.bindsN fun _ _ _ _ _ _ us hl => match us, hl with | [_], _ => rfl
theorem bi_Walk___init__ (T : Tx P K mg) : Binds K T.fd_Walk___init__ ["self", "nodes", "signs"] [] := by
  obtain ⟨ds, h1, h2⟩ := T.F_Walk___init__.binds1 (ps := ["self", "nodes", "signs"]) 3 1 (by simp) rfl fun T kV doc pm an cdv ct us its hl hi => match us, its, hl, hi with | [_, _, _], [_], _, _ => ⟨_, rfl, rfl⟩
  cases h1
  exact h2
theorem bd_Walk___init__ (T : Tx P K mg) : ∃ ds, Vals [V.ref (He.dflAt ("Walk", some "__init__") 0 K)] ds ∧ Binds K T.fd_Walk___init__ ["self", "nodes", "signs"] ds := T.F_Walk___init__.binds1 (ps := ["self", "nodes", "signs"]) 2 0 (by simp) rfl fun T kV doc pm an cdv ct us its hl hi => match us, its, hl, hi with | [_, _], [_], _, _ => ⟨_, rfl, rfl⟩
theorem Tx.dc_Walk___init___1 (T : Tx P K mg) : ∀ F vs b, (aCons (rList rStr) aNil).rel F vs b → (aCons (rList rStr) (aCons (rTup K rStr) aNil)).rel F (vs ++ [V.ref (He.dflAt ("Walk", some "__init__") 0 K)]) ((fun a => (a.1, [], ())) b) := fun F vs b h => by
  obtain ⟨v0, _, rfl, h0, h1⟩ := h
  cases h1
  exact ⟨v0, _, rfl, h0,  _, _, rfl, ⟨_, [], rfl, SqT.same (fun _ _ z => by cases z) T.dt_Walk___init__, Nat.zero_le _, .nil⟩, rfl⟩
theorem bi_Walk_start (T : Tx P K mg) : Binds K T.fd_Walk_start ["self"] [] := T.F_Walk_start.bindsN fun _ _ _ _ _ _ us hl => match us, hl with | [_], _ => rfl
theorem bi__law_same (T : Tx P K mg) : Binds K T.fd__law_same ["actual", "due"] [] := T.F__law_same.bindsN fun _ _ _ _ _ _ us hl => match us, hl with | [_, _], _ => rfl
theorem bi_Walk_end (T : Tx P K mg) : Binds K T.fd_Walk_end ["self"] [] := T.F_Walk_end.bindsN fun _ _ _ _ _ _ us hl => match us, hl with | [_], _ => rfl
theorem bi_Walk_runs (T : Tx P K mg) : Binds K T.fd_Walk_runs ["self"] [] := T.F_Walk_runs.bindsN fun _ _ _ _ _ _ us hl => match us, hl with | [_], _ => rfl
theorem bi_Walk_first (T : Tx P K mg) : Binds K T.fd_Walk_first ["self"] [] := T.F_Walk_first.bindsN fun _ _ _ _ _ _ us hl => match us, hl with | [_], _ => rfl
theorem bi_Walk___len__ (T : Tx P K mg) : Binds K T.fd_Walk___len__ ["self"] [] := T.F_Walk___len__.bindsN fun _ _ _ _ _ _ us hl => match us, hl with | [_], _ => rfl
theorem bi_check_direction (T : Tx P K mg) : Binds K T.fd_check_direction ["first"] [] := T.F_check_direction.bindsN fun _ _ _ _ _ _ us hl => match us, hl with | [_], _ => rfl
theorem bi_Walk_counted (T : Tx P K mg) : Binds K T.fd_Walk_counted ["self", "direction"] [] := T.F_Walk_counted.bindsN fun _ _ _ _ _ _ us hl => match us, hl with | [_, _], _ => rfl
theorem bi__law_counts_kept (T : Tx P K mg) : Binds K T.fd__law_counts_kept ["walk", "nodes", "signs"] [] := T.F__law_counts_kept.bindsN fun _ _ _ _ _ _ us hl => match us, hl with | [_, _, _], _ => rfl
theorem bi__law_bad_direction (T : Tx P K mg) : Binds K T.fd__law_bad_direction ["pool"] [] := T.F__law_bad_direction.bindsN fun _ _ _ _ _ _ us hl => match us, hl with | [_], _ => rfl
theorem bi__law_counted_fault (T : Tx P K mg) : Binds K T.fd__law_counted_fault ["walk", "direction"] [] := T.F__law_counted_fault.bindsN fun _ _ _ _ _ _ us hl => match us, hl with | [_, _], _ => rfl
theorem bi_law (T : Tx P K mg) : Binds K T.fd_law ["script"] [] := T.F_law.bindsN fun _ _ _ _ _ _ us hl => match us, hl with | [_], _ => rfl
theorem bi__law_pool (T : Tx P K mg) : Binds K T.fd__law_pool ["script"] [] := T.F__law_pool.bindsN fun _ _ _ _ _ _ us hl => match us, hl with | [_], _ => rfl
theorem ok_pool (T : Tx P K mg) : FnOk P w K mg base (L2N.CX P w) 1 (He.ga K "_law_pool") T.fd__law_pool ["script"] (spPool K) := by
  refine FunD.ok T.F__law_pool sc__law_pool (fun vs H Q E h => spPool_len h) fun cdv A_ outer s H vs Q E hr h => ?_
  obtain ⟨a, ns, rfl, hS, hl, hQ⟩ := h
  refine ⟨_, pss_one (ps_ret (pe_lst (pa_cons (pe_callTy (call_list_ofK (K := K)) (by rfl) T.n_list (by decide +kernel) (pa_cons (pv 0) pa_nil)) (pa_cons pe_int (pa_cons pe_int (pa_cons pe_int (pa_cons pe_int pa_nil))))))), ?_⟩
  refine ⟨.ref a, rfl, a, ns.map V.int, rfl, .inl hS, fun s0 n0 => ⟨(by show (5 : Nat) ≤ sizeLine; decide), fun q0 nq => ?_⟩⟩
  have ne : s0 ≠ q0 := ne_of_none upd_same nq
  have nq' : H q0 = none := by rw [upd_ne (fun z => ne z.symm)] at nq; exact nq
  refine hQ q0 s0 _ ((same_upd n0).trans (same_upd nq)) nq' n0 ne upd_same ?_
  rw [upd_ne ne, upd_same]

theorem ok__law_draw (T : Tx P K mg) : FnOk P w K mg base (L2N.CX P w) 1 (He.ga K "_law_draw") T.fd__law_draw ["pool", "bound"] (spP K (aCons rInt aNil) (fun a => m_law_draw a.1) rInt) := by
  refine okP (n := 1) (j := 3) T.F__law_draw sc__law_draw (bd_cons bd_nil) rfl rfl (fun cdv A_ outer s H E hr => ⟨_, (pss_cons (ps_if (pt_cmpR op_lt (pv 1) pe_int (nomark _)) (pss_one (ps_ret pe_int)) pss_nil) (pss_cons (ps_if (pt_cmpR op_lt (pe_ix (ix_listK (K := K)) (pv 0) pe_int (fun _ _ => rfl)) pe_int (nomark _)) (pss_cons (ps_if (pt_cmpR op_ge (pe_ix (ix_listK (K := K)) (pv 0) pe_int (fun _ _ => rfl)) (pe_callB (call_len_seqK (K := K)) (by rfl) T.n_len PySem.boot_len (pa_cons (pe_ix (ix_listK (K := K)) (pv 0) pe_int (fun _ _ => rfl)) pa_nil)) (nomark _)) (pss_one (ps_ret pe_int)) pss_nil) (pss_cons (ps_asg (pe_callB call_abs (by rfl) T.n_abs (by decide +kernel) (pa_cons (pe_callTy call_int1 (by rfl) T.n_int (by decide +kernel) (pa_cons (pe_ix (ix_listK (K := K)) (pe_ix (ix_listK (K := K)) (pv 0) pe_int (fun _ _ => rfl)) (pe_ix (ix_listK (K := K)) (pv 0) pe_int (fun _ _ => rfl)) (fun _ _ => rfl)) pa_nil)) pa_nil)) (pg_sub (pv 0) pe_int set_list)) (pss_cons (ps_asg (pe_op op_add (pe_ix (ix_listK (K := K)) (pv 0) pe_int (fun _ _ => rfl)) pe_int) (pg_sub (pv 0) pe_int set_list)) (pss_cons (ps_asg pe_int (pg_sub (pv 0) pe_int set_list)) (pss_cons (ps_asg pe_int (pg_sub (pv 0) pe_int set_list)) (pss_one (ps_if (pt_cmpR op_ge (pe_ix (ix_listK (K := K)) (pv 0) pe_int (fun _ _ => rfl)) (pe_op op_pow pe_int pe_int) (nomark _)) (pss_cons (ps_asg pe_int (pg_sub (pv 0) pe_int set_list)) (pss_one (ps_asg pe_int (pg_sub (pv 0) pe_int set_list)))) pss_nil))))))) pss_nil) (pss_cons (ps_asg (pe_op op_sub (pe_ix (ix_listK (K := K)) (pv 0) pe_int (fun _ _ => rfl)) pe_int) (pg_sub (pv 0) pe_int set_list)) (pss_cons (ps_if (pt_cmpR op_eq (pe_ix (ix_listK (K := K)) (pv 0) pe_int (fun _ _ => rfl)) pe_int (nomark _)) (pss_cons (ps_set (i := 2) sc__law_draw.nd rfl (Or.inl rfl) (pe_op op_mod (pe_callTy call_int1 (by rfl) T.n_int (by decide +kernel) (pa_cons (pe_ix (ix_listK (K := K)) (pv 0) pe_int (fun _ _ => rfl)) pa_nil)) (pv 1))) (pss_cons (ps_asg (pe_op op_fdivW (pe_ix (ix_listK (K := K)) (pv 0) pe_int (fun _ _ => rfl)) (pv 1)) (pg_sub (pv 0) pe_int set_list)) (pss_cons (ps_if (pt_cmpR op_lt (pe_ix (ix_listK (K := K)) (pv 0) pe_int (fun _ _ => rfl)) pe_int (nomark _)) (pss_one (ps_asg pe_int (pg_sub (pv 0) pe_int set_list))) pss_nil) (pss_one (ps_ret (pv 2)))))) pss_nil) (pss_cons (ps_set (i := 3) sc__law_draw.nd rfl (Or.inl rfl) (pe_op op_mod (pe_callTy call_int1 (by rfl) T.n_int (by decide +kernel) (pa_cons (pe_ix (ix_listK (K := K)) (pv 0) pe_int (fun _ _ => rfl)) pa_nil)) pe_int)) (pss_cons (ps_set (i := 4) sc__law_draw.nd rfl (Or.inl rfl) (pe_op op_mod (pe_callTy call_int1 (by rfl) T.n_int (by decide +kernel) (pa_cons (pe_op op_add (pe_op op_add (pe_op op_mul (pv 3) pe_int) (pe_op op_mul (pe_ix (ix_listK (K := K)) (pv 0) pe_int (fun _ _ => rfl)) pe_int)) (pe_op op_mul (pe_ix (ix_listK (K := K)) (pv 0) pe_int (fun _ _ => rfl)) pe_int)) pa_nil)) pe_int)) (pss_cons (ps_set (i := 4) sc__law_draw.nd rfl (Or.inl rfl) (pe_op op_mod (pe_callTy call_int1 (by rfl) T.n_int (by decide +kernel) (pa_cons (pe_op op_add (pe_op op_add (pe_op op_mul (pv 4) pe_int) (pe_op op_mul (pv 3) pe_int)) pe_int) pa_nil)) pe_int)) (pss_one (ps_ret (pe_op op_mod (pe_callTy call_int1 (by rfl) T.n_int (by decide +kernel) (pa_cons (pe_op op_fdivW (pv 4) pe_int) pa_nil)) (pv 1))))))))))), ?_⟩)
  rintro q sc ⟨bound_0, ⟨⟩⟩
  show El (cfE K (some q) sc E) _ True [.val rPool q, .val rInt bound_0, .any, .any, .any] _ (m_law_draw bound_0)
  unfold m_law_draw
  exact (el_guard (et_test (ev_lt (ev_var (a := bound_0) 1 rfl) (ev_int (i := 2)))) (el_ret (ev_int (i := 0))) (el_seqF (ef_if (Γ' := (fun (b_1 : Unit) => [.val rPool q, .val rInt bound_0, .any, .any, .any])) (et_test (ev_lt (ev_pool 0 3 (by decide) rfl rfl) (ev_int (i := 1)))) (ef_guard (et_test (ev_ge (ev_pool 0 1 (by decide) rfl rfl) (ev_lenL (ev_pool0 0 rfl rfl)))) (el_ret (ev_int (i := 0))) (ef_seq (es_pool 0 2 (by decide) rfl rfl (ev_abs (ev_int1 (ev_ixL (ev_pool0 0 rfl rfl) (ev_pool 0 1 (by decide) rfl rfl))))) (fun _ => (atEf (cfE K (some q) sc E) [.val rPool q, .val rInt bound_0, .any, .any, .any] (ef_seq (es_pool 0 1 (by decide) rfl rfl (ev_add (ev_pool 0 1 (by decide) rfl rfl) (ev_int (i := 1)))) (fun _ => (atEf (cfE K (some q) sc E) [.val rPool q, .val rInt bound_0, .any, .any, .any] (ef_seq (es_pool 0 3 (by decide) rfl rfl (ev_int (i := 6))) (fun _ => (atEf (cfE K (some q) sc E) [.val rPool q, .val rInt bound_0, .any, .any, .any] (ef_seq (es_pool 0 4 (by decide) rfl rfl (ev_int (i := 0))) (fun _ => (atEf (cfE K (some q) sc E) [.val rPool q, .val rInt bound_0, .any, .any, .any] (ef_of (es_wk (es_if (Γ' := (fun (b_2 : Unit) => [.val rPool q, .val rInt bound_0, .any, .any, .any])) (et_test (ev_ge (ev_pool 0 2 (by decide) rfl rfl) (ev_pow (ev_int (i := 10)) (ev_int (i := 18))))) (es_seq (es_pool 0 3 (by decide) rfl rfl (ev_int (i := 60))) (fun _ => (atEs (cfE K (some q) sc E) [.val rPool q, .val rInt bound_0, .any, .any, .any] (es_wk (es_pool 0 4 (by decide) rfl rfl (ev_int (i := 1))) (fun _ => (.same (.same (.same (.same (.same .nil)))))))))) (es_wk es_pass (fun _ => (.same (.same (.same (.same (.same .nil)))))))) (fun b_2 => (.same (.same (.same (.same (.same .nil))))))))))))))))))))) (ef_of (es_wk es_pass (fun _ => (.same (.same (.same (.same (.same .nil))))))))) (fun b_1 => (atEl (cfE K (some q) sc E) [.val rPool q, .val rInt bound_0, .any, .any, .any] (el_seq (es_pool 0 3 (by decide) rfl rfl (ev_sub (ev_pool 0 3 (by decide) rfl rfl) (ev_int (i := 1)))) (fun _ => (atEl (cfE K (some q) sc E) [.val rPool q, .val rInt bound_0, .any, .any, .any] (el_guard (et_test (ev_eq scInt (ev_pool 0 4 (by decide) rfl rfl) (ev_int (i := 1)))) (el_seq (esSet (i := 2) (ev_mod (ev_int1 (ev_pool 0 2 (by decide) rfl rfl)) (ev_var (a := bound_0) 1 rfl))) (fun found_3 => (atEl (cfE K (some q) sc E) [.val rPool q, .val rInt bound_0, .val rInt found_3, .any, .any] (el_seq (es_pool 0 2 (by decide) rfl rfl (ev_div (ev_pool 0 2 (by decide) rfl rfl) (ev_var (a := bound_0) 1 rfl))) (fun _ => (atEl (cfE K (some q) sc E) [.val rPool q, .val rInt bound_0, .val rInt found_3, .any, .any] (el_seq (es_if (Γ' := (fun (b_4 : Unit) => [.val rPool q, .val rInt bound_0, .val rInt found_3, .any, .any])) (et_test (ev_lt (ev_pool 0 2 (by decide) rfl rfl) (ev_int (i := 1)))) (es_wk (es_pool 0 3 (by decide) rfl rfl (ev_int (i := 0))) (fun _ => (.same (.same (.same (.same (.same .nil))))))) (es_wk es_pass (fun _ => (.same (.same (.same (.same (.same .nil)))))))) (fun b_4 => (atEl (cfE K (some q) sc E) [.val rPool q, .val rInt bound_0, .val rInt found_3, .any, .any] (el_ret (ev_var (a := found_3) 2 rfl))))))))))) (el_seq (esSet (i := 3) (ev_mod (ev_int1 (ev_pool 0 2 (by decide) rfl rfl)) (ev_int (i := 1000003)))) (fun near_5 => (atEl (cfE K (some q) sc E) [.val rPool q, .val rInt bound_0, .any, .val rInt near_5, .any] (el_seq (esSet (i := 4) (ev_mod (ev_int1 (ev_add (ev_add (ev_mul (ev_var (a := near_5) 3 rfl) (ev_int (i := 48271))) (ev_mul (ev_pool 0 3 (by decide) rfl rfl) (ev_int (i := 69621)))) (ev_mul (ev_pool 0 1 (by decide) rfl rfl) (ev_int (i := 7919))))) (ev_int (i := 2147483647)))) (fun mixed_6 => (atEl (cfE K (some q) sc E) [.val rPool q, .val rInt bound_0, .any, .val rInt near_5, .val rInt mixed_6] (el_seq (esSet (i := 4) (ev_mod (ev_int1 (ev_add (ev_add (ev_mul (ev_var (a := mixed_6) 4 rfl) (ev_int (i := 40692))) (ev_mul (ev_var (a := near_5) 3 rfl) (ev_int (i := 31)))) (ev_int (i := 17)))) (ev_int (i := 2147483399)))) (fun mixed_7 => (atEl (cfE K (some q) sc E) [.val rPool q, .val rInt bound_0, .any, .val rInt near_5, .val rInt mixed_7] (el_ret (ev_mod (ev_int1 (ev_div (ev_var (a := mixed_7) 4 rfl) (ev_int (i := 9)))) (ev_var (a := bound_0) 1 rfl))))))))))))))))))))
theorem ok__law_word (T : Tx P K mg) : FnOk P w K mg base (L2N.CX P w) 2 (He.ga K "_law_word") T.fd__law_word ["pool", "size"] (spP K (aCons rInt aNil) (fun a => m_law_word a.1) rStr) := by
  refine okP (n := 1) (j := 4) T.F__law_word sc__law_word (bd_cons bd_nil) rfl rfl (fun cdv A_ outer s H E hr => ⟨_, (pss_cons (ps_set (i := 2) sc__law_word.nd rfl (Or.inl rfl) pe_str) (pss_cons (ps_set (i := 3) sc__law_word.nd rfl (Or.inl rfl) pe_str) (pss_cons (ps_set (i := 4) sc__law_word.nd rfl (Or.inl rfl) (pe_ix ix_str (pv 2) (pe_callSD (ok__law_draw T) (hr.mono (by decide)) (by rfl) T.g__law_draw T.F__law_draw.kp (bi__law_draw T) .nil (fun σ => L2N.passAt (L2N.takes_of rfl rfl rfl rfl) σ) (pa_cons (pv 0) (pa_cons pe_int pa_nil))) (fun _ _ => rfl))) (pss_cons (ps_for (passes_of rfl) rfl (pi_range1 (by rfl) T.n_range (pa_cons (pe_op op_sub (pv 1) pe_int) pa_nil)) (pg_name (i := 5) sc__law_word.nd rfl (Or.inl rfl)) (pss_one (ps_set (i := 4) sc__law_word.nd rfl (Or.inl rfl) (pe_op op_add_str (pv 4) (pe_ix ix_str (pv 3) (pe_callSD (ok__law_draw T) (hr.mono (by decide)) (by rfl) T.g__law_draw T.F__law_draw.kp (bi__law_draw T) .nil (fun σ => L2N.passAt (L2N.takes_of rfl rfl rfl rfl) σ) (pa_cons (pv 0) (pa_cons pe_int pa_nil))) (fun _ _ => rfl)))))) (pss_one (ps_ret (pv 4))))))), ?_⟩)
  rintro q sc ⟨size_0, ⟨⟩⟩
  show El (cfE K (some q) sc E) _ True [.val rPool q, .val rInt size_0, .any, .any, .any, .any] _ (m_law_word size_0)
  unfold m_law_word
  exact (el_seq (esSet (i := 2) (ev_str (by decide +kernel))) (fun first_1 => (atEl (cfE K (some q) sc E) [.val rPool q, .val rInt size_0, .val rStr first_1, .any, .any, .any] (el_seq (esSet (i := 3) (ev_str (by decide +kernel))) (fun later_2 => (atEl (cfE K (some q) sc E) [.val rPool q, .val rInt size_0, .val rStr first_1, .val rStr later_2, .any, .any] (el_seq (esSet (i := 4) (ev_ixS (ev_var (a := first_1) 2 rfl) (ev_callP 0 rfl rfl (ea_cons (ev_int (i := 26)) ea_nil)))) (fun word_3 => (atEl (cfE K (some q) sc E) [.val rPool q, .val rInt size_0, .val rStr first_1, .val rStr later_2, .val rStr word_3, .any] (el_seq (es_for (α := Int) (r := rInt) (Γ := (fun (b_4 : Str) => [.val rPool q, .val rInt size_0, .val rStr first_1, .val rStr later_2, .val rStr b_4, .any])) (ei_r1 (ev_sub (ev_var (a := size_0) 1 rfl) (ev_int (i := 1)))) (fun b_4 => (eg_name 5)) (fun k_5 b_4 => (atEs (cfE K (some q) sc E) [.val rPool q, .val rInt size_0, .val rStr first_1, .val rStr later_2, .val rStr b_4, .val rInt k_5] (es_wk (esSet (i := 4) (ev_catS (ev_var (a := b_4) 4 rfl) (ev_ixS (ev_var (a := later_2) 3 rfl) (ev_callP 0 rfl rfl (ea_cons (ev_int (i := 37)) ea_nil))))) (fun word_6 => (.same (.same (.same (.same (.same (.any .nil))))))))))) (fun b_4 => (atEl (cfE K (some q) sc E) [.val rPool q, .val rInt size_0, .val rStr first_1, .val rStr later_2, .val rStr b_4, .any] (el_ret (ev_var (a := b_4) 4 rfl))))))))))))))
theorem ok__law_fresh (T : Tx P K mg) : FnOk P w K mg base (L2N.CX P w) 1 (He.ga K "_law_fresh") T.fd__law_fresh ["word", "names"] (spF K (aCons rStr (aCons (rList rStr) aNil)) (fun a => m_law_fresh a.1 a.2.1) rStr) := by
  refine okF (n := 2) (j := 2) T.F__law_fresh sc__law_fresh (bd_cons (bd_cons bd_nil)) rfl rfl (fun cdv A_ outer s H E hr => ⟨_, (pss_cons (ps_for (passes_of rfl) rfl (pi_range1 (by rfl) T.n_range (pa_cons (pe_op op_add (pe_callB (call_len_seqK (K := K)) (by rfl) T.n_len PySem.boot_len (pa_cons (pv 1) pa_nil)) pe_int) pa_nil)) (pg_name (i := 2) sc__law_fresh.nd rfl (Or.inl rfl)) (pss_cons (ps_set (i := 3) sc__law_fresh.nd rfl (Or.inl rfl) (pv 0)) (pss_cons (ps_if (pt_cmpR op_gt (pv 2) pe_int (nomark _)) (pss_one (ps_set (i := 3) sc__law_fresh.nd rfl (Or.inl rfl) (pe_op op_add_str (pe_slice sl_str (pv 0) po_none (po_some pe_int)) (pe_callTy call_str_int (by rfl) T.n_str (by decide +kernel) (pa_cons (pv 2) pa_nil))))) pss_nil) (pss_one (ps_if (pt_cmpR (op_notIn_seqK (K := K)) (pv 3) (pv 1) (by rfl)) (pss_one (ps_ret (pv 3))) pss_nil))))) (pss_one (ps_ret (pv 0)))), ?_⟩)
  rintro ⟨word_0, names_0, ⟨⟩⟩
  show El (cfE K none 0 E) _ True [.val rStr word_0, .val (rList rStr) names_0, .any, .any] _ (m_law_fresh word_0 names_0)
  unfold m_law_fresh
  exact (el_seqF (ef_for (α := Int) (r := rInt) (Γ := (fun (b_1 : Unit) => [.val rStr word_0, .val (rList rStr) names_0, .any, .any])) (ei_r1 (ev_add (ev_lenL (ev_var (a := names_0) 1 rfl)) (ev_int (i := 1)))) (fun b_1 => (eg_name 2)) (fun k_2 b_1 => (atEf (cfE K none 0 E) [.val rStr word_0, .val (rList rStr) names_0, .val rInt k_2, .any] (ef_seq (esSet (i := 3) (ev_var (a := word_0) 0 rfl)) (fun found_3 => (atEf (cfE K none 0 E) [.val rStr word_0, .val (rList rStr) names_0, .val rInt k_2, .val rStr found_3] (ef_seq (es_if (Γ' := (fun (b_4 : Str) => [.val rStr word_0, .val (rList rStr) names_0, .val rInt k_2, .val rStr b_4])) (et_test (ev_gt (ev_var (a := k_2) 2 rfl) (ev_int (i := 0)))) (es_wk (esSet (i := 3) (ev_catS (ev_slS (ev_var (a := word_0) 0 rfl) eo_none (eo_some (ev_int (i := 20)))) (ev_strI (ev_var (a := k_2) 2 rfl)))) (fun found_5 => (.same (.same (.same (.same .nil)))))) (es_wk es_pass (fun _ => (.same (.same (.same (.same .nil))))))) (fun b_4 => (atEf (cfE K none 0 E) [.val rStr word_0, .val (rList rStr) names_0, .val rInt k_2, .val rStr b_4] (ef_if (et_test (ev_ninL sfStr (ev_var (a := b_4) 3 rfl) (ev_var (a := names_0) 1 rfl))) (ef_ol (el_ret (ev_var (a := b_4) 3 rfl))) (ef_of (es_wk es_pass (fun _ => (.same (.same (.any (.any .nil))))))))))))))))) (fun b_1 => (atEl (cfE K none 0 E) [.val rStr word_0, .val (rList rStr) names_0, .any, .any] (el_ret (ev_var (a := word_0) 0 rfl)))))
theorem ok__law_names (T : Tx P K mg) : FnOk P w K mg base (L2N.CX P w) 3 (He.ga K "_law_names") T.fd__law_names ["pool", "count"] (spP K (aCons rInt aNil) (fun a => m_law_names a.1) (rList rStr)) := by
  refine okP (n := 1) (j := 7) T.F__law_names sc__law_names (bd_cons bd_nil) rfl rfl (fun cdv A_ outer s H E hr => ⟨_, (pss_cons (ps_set (i := 2) sc__law_names.nd rfl (Or.inl rfl) pe_str) (pss_cons (ps_set (i := 3) sc__law_names.nd rfl (Or.inl rfl) (pe_lst pa_nil)) (pss_cons (ps_if (pt_cmpR op_eq (pe_callSD (ok__law_draw T) (hr.mono (by decide)) (by rfl) T.g__law_draw T.F__law_draw.kp (bi__law_draw T) .nil (fun σ => L2N.passAt (L2N.takes_of rfl rfl rfl rfl) σ) (pa_cons (pv 0) (pa_cons pe_int pa_nil))) pe_int (nomark _)) (pss_cons (ps_set (i := 4) sc__law_names.nd rfl (Or.inl rfl) (pe_callSD (ok__law_word T) (hr.mono (by decide)) (by rfl) T.g__law_word T.F__law_word.kp (bi__law_word T) .nil (fun σ => L2N.passAt (L2N.takes_of rfl rfl rfl rfl) σ) (pa_cons (pv 0) (pa_cons (pe_op op_add pe_int (pe_callSD (ok__law_draw T) (hr.mono (by decide)) (by rfl) T.g__law_draw T.F__law_draw.kp (bi__law_draw T) .nil (fun σ => L2N.passAt (L2N.takes_of rfl rfl rfl rfl) σ) (pa_cons (pv 0) (pa_cons pe_int pa_nil)))) pa_nil)))) (pss_cons (ps_set (i := 5) sc__law_names.nd rfl (Or.inl rfl) (pe_callSD (ok__law_draw T) (hr.mono (by decide)) (by rfl) T.g__law_draw T.F__law_draw.kp (bi__law_draw T) .nil (fun σ => L2N.passAt (L2N.takes_of rfl rfl rfl rfl) σ) (pa_cons (pv 0) (pa_cons (pe_op op_add (pe_callB call_len_str (by rfl) T.n_len PySem.boot_len (pa_cons (pv 4) pa_nil)) pe_int) pa_nil)))) (pss_cons (ps_set (i := 6) sc__law_names.nd rfl (Or.inl rfl) (pe_callSD (ok__law_draw T) (hr.mono (by decide)) (by rfl) T.g__law_draw T.F__law_draw.kp (bi__law_draw T) .nil (fun σ => L2N.passAt (L2N.takes_of rfl rfl rfl rfl) σ) (pa_cons (pv 0) (pa_cons pe_int pa_nil)))) (pss_cons (ps_for (passes_of rfl) rfl (pi_range1 (by rfl) T.n_range (pa_cons (pv 1) pa_nil)) (pg_name (i := 7) sc__law_names.nd rfl (Or.inl rfl)) (pss_one (ps_expr (pe_bm PySem.F.plainAttrs_list PySem.F.slot_list_append PySem.F.type_list_append mt_append (pv 3) (pa_cons (pe_op op_add_str (pe_op op_add_str (pe_slice sl_str (pv 4) po_none (po_some (pv 5))) (pe_ix ix_str (pv 2) (pe_op op_mod (pe_callTy call_int1 (by rfl) T.n_int (by decide +kernel) (pa_cons (pe_op op_add (pe_op op_mul pe_int (pv 7)) (pv 6)) pa_nil)) pe_int) (fun _ _ => rfl))) (pe_slice sl_str (pv 4) (po_some (pv 5)) po_none)) pa_nil))))) (pss_one (ps_ret (pv 3))))))) pss_nil) (pss_cons (ps_for (passes_of rfl) rfl (pi_range1 (by rfl) T.n_range (pa_cons (pv 1) pa_nil)) (pg_name (i := 7) sc__law_names.nd rfl (Or.inl rfl)) (pss_cons (ps_set (i := 8) sc__law_names.nd rfl (Or.inl rfl) (pe_op op_add pe_int (pe_callSD (ok__law_draw T) (hr.mono (by decide)) (by rfl) T.g__law_draw T.F__law_draw.kp (bi__law_draw T) .nil (fun σ => L2N.passAt (L2N.takes_of rfl rfl rfl rfl) σ) (pa_cons (pv 0) (pa_cons pe_int pa_nil))))) (pss_cons (ps_if (pt_cmpR op_eq (pe_callSD (ok__law_draw T) (hr.mono (by decide)) (by rfl) T.g__law_draw T.F__law_draw.kp (bi__law_draw T) .nil (fun σ => L2N.passAt (L2N.takes_of rfl rfl rfl rfl) σ) (pa_cons (pv 0) (pa_cons pe_int pa_nil))) pe_int (nomark _)) (pss_one (ps_set (i := 8) sc__law_names.nd rfl (Or.inl rfl) pe_int)) pss_nil) (pss_one (ps_expr (pe_bm PySem.F.plainAttrs_list PySem.F.slot_list_append PySem.F.type_list_append mt_append (pv 3) (pa_cons (pe_callSD (ok__law_fresh T) (hr.mono (by decide)) (by rfl) T.g__law_fresh T.F__law_fresh.kp (bi__law_fresh T) .nil (fun σ => L2N.passAt (L2N.takes_of rfl rfl rfl rfl) σ) (pa_cons (pe_callSD (ok__law_word T) (hr.mono (by decide)) (by rfl) T.g__law_word T.F__law_word.kp (bi__law_word T) .nil (fun σ => L2N.passAt (L2N.takes_of rfl rfl rfl rfl) σ) (pa_cons (pv 0) (pa_cons (pv 8) pa_nil))) (pa_cons (pv 3) pa_nil))) pa_nil))))))) (pss_one (ps_ret (pv 3))))))), ?_⟩)
  rintro q sc ⟨count_0, ⟨⟩⟩
  show El (cfE K (some q) sc E) _ True [.val rPool q, .val rInt count_0, .any, .any, .any, .any, .any, .any, .any] _ (m_law_names count_0)
  unfold m_law_names
  exact (el_seq (esSet (i := 2) (ev_str (by decide +kernel))) (fun letters_1 => (atEl (cfE K (some q) sc E) [.val rPool q, .val rInt count_0, .val rStr letters_1, .any, .any, .any, .any, .any, .any] (el_seq (esNew (i := 3) (en_lst (r := rStr) ea_lnil)) (fun names_2 => (atEl (cfE K (some q) sc E) [.val rPool q, .val rInt count_0, .val rStr letters_1, .own (oList rStr) names_2, .any, .any, .any, .any, .any] (el_guard (et_test (ev_eq scInt (ev_callP 0 rfl rfl (ea_cons (ev_int (i := 2)) ea_nil)) (ev_int (i := 1)))) (el_seq (esSet (i := 4) (ev_callP 0 rfl rfl (ea_cons (ev_add (ev_int (i := 1)) (ev_callP 0 rfl rfl (ea_cons (ev_int (i := 6)) ea_nil))) ea_nil))) (fun stem_3 => (atEl (cfE K (some q) sc E) [.val rPool q, .val rInt count_0, .val rStr letters_1, .own (oList rStr) names_2, .val rStr stem_3, .any, .any, .any, .any] (el_seq (esSet (i := 5) (ev_callP 0 rfl rfl (ea_cons (ev_add (ev_lenS (ev_var (a := stem_3) 4 rfl)) (ev_int (i := 1))) ea_nil))) (fun place_4 => (atEl (cfE K (some q) sc E) [.val rPool q, .val rInt count_0, .val rStr letters_1, .own (oList rStr) names_2, .val rStr stem_3, .val rInt place_4, .any, .any, .any] (el_seq (esSet (i := 6) (ev_callP 0 rfl rfl (ea_cons (ev_int (i := 26)) ea_nil))) (fun shift_5 => (atEl (cfE K (some q) sc E) [.val rPool q, .val rInt count_0, .val rStr letters_1, .own (oList rStr) names_2, .val rStr stem_3, .val rInt place_4, .val rInt shift_5, .any, .any] (el_seq (es_for (α := Int) (r := rInt) (Γ := (fun (b_6 : (List Str)) => [.val rPool q, .val rInt count_0, .val rStr letters_1, .own (oList rStr) b_6, .val rStr stem_3, .val rInt place_4, .val rInt shift_5, .any, .any])) (ei_r1 (ev_var (a := count_0) 1 rfl)) (fun b_6 => (eg_name 7)) (fun k_7 b_6 => (atEs (cfE K (some q) sc E) [.val rPool q, .val rInt count_0, .val rStr letters_1, .own (oList rStr) b_6, .val rStr stem_3, .val rInt place_4, .val rInt shift_5, .val rInt k_7, .any] (es_wk (es_app (l := b_6) 3 rfl (ev_catS (ev_catS (ev_slS (ev_var (a := stem_3) 4 rfl) eo_none (eo_some (ev_var (a := place_4) 5 rfl))) (ev_ixS (ev_var (a := letters_1) 2 rfl) (ev_mod (ev_int1 (ev_add (ev_mul (ev_int (i := 3)) (ev_var (a := k_7) 7 rfl)) (ev_var (a := shift_5) 6 rfl))) (ev_int (i := 26))))) (ev_slS (ev_var (a := stem_3) 4 rfl) (eo_some (ev_var (a := place_4) 5 rfl)) eo_none))) (fun names_8 => (.same (.same (.same (.same (.same (.same (.same (.any (.same .nil)))))))))))))) (fun b_6 => (atEl (cfE K (some q) sc E) [.val rPool q, .val rInt count_0, .val rStr letters_1, .own (oList rStr) b_6, .val rStr stem_3, .val rInt place_4, .val rInt shift_5, .any, .any] (elFz (i := 3) rfl (el_ret (ev_var (a := b_6) 3 rfl))))))))))))))) (el_seq (es_for (α := Int) (r := rInt) (Γ := (fun (b_9 : (List Str)) => [.val rPool q, .val rInt count_0, .val rStr letters_1, .own (oList rStr) b_9, .any, .any, .any, .any, .any])) (ei_r1 (ev_var (a := count_0) 1 rfl)) (fun b_9 => (eg_name 7)) (fun k_10 b_9 => (atEs (cfE K (some q) sc E) [.val rPool q, .val rInt count_0, .val rStr letters_1, .own (oList rStr) b_9, .any, .any, .any, .val rInt k_10, .any] (es_seq (esSet (i := 8) (ev_add (ev_int (i := 1)) (ev_callP 0 rfl rfl (ea_cons (ev_int (i := 5)) ea_nil)))) (fun size_11 => (atEs (cfE K (some q) sc E) [.val rPool q, .val rInt count_0, .val rStr letters_1, .own (oList rStr) b_9, .any, .any, .any, .val rInt k_10, .val rInt size_11] (es_seq (es_if (Γ' := (fun (b_12 : Int) => [.val rPool q, .val rInt count_0, .val rStr letters_1, .own (oList rStr) b_9, .any, .any, .any, .val rInt k_10, .val rInt b_12])) (et_test (ev_eq scInt (ev_callP 0 rfl rfl (ea_cons (ev_int (i := 9)) ea_nil)) (ev_int (i := 8)))) (es_wk (esSet (i := 8) (ev_int (i := 24))) (fun size_13 => (.same (.same (.same (.same (.same (.same (.same (.same (.same .nil))))))))))) (es_wk es_pass (fun _ => (.same (.same (.same (.same (.same (.same (.same (.same (.same .nil)))))))))))) (fun b_12 => (atEs (cfE K (some q) sc E) [.val rPool q, .val rInt count_0, .val rStr letters_1, .own (oList rStr) b_9, .any, .any, .any, .val rInt k_10, .val rInt b_12] (es_wk (es_app (l := b_9) 3 rfl (ev_borrow 3 rfl flatStr (ev_call (ea_cons (ev_callP 0 rfl rfl (ea_cons (ev_var (a := b_12) 8 rfl) ea_nil)) (ea_cons (ev_var (a := b_9) 3 rfl) ea_nil))))) (fun names_14 => (.same (.same (.same (.same (.same (.same (.same (.any (.any .nil)))))))))))))))))))) (fun b_9 => (atEl (cfE K (some q) sc E) [.val rPool q, .val rInt count_0, .val rStr letters_1, .own (oList rStr) b_9, .any, .any, .any, .any, .any] (elFz (i := 3) rfl (el_ret (ev_var (a := b_9) 3 rfl)))))))))))))
theorem ok__law_unknowns (T : Tx P K mg) : FnOk P w K mg base (L2N.CX P w) 4 (He.ga K "_law_unknowns") T.fd__law_unknowns ["pool", "count"] (spP K (aCons rInt aNil) (fun a => m_law_unknowns a.1) (rList rStr)) := by
  refine okP (n := 1) (j := 2) T.F__law_unknowns sc__law_unknowns (bd_cons bd_nil) rfl rfl (fun cdv A_ outer s H E hr => ⟨_, (pss_cons (ps_if (pt_cmpR op_eq (pe_callSD (ok__law_draw T) (hr.mono (by decide)) (by rfl) T.g__law_draw T.F__law_draw.kp (bi__law_draw T) .nil (fun σ => L2N.passAt (L2N.takes_of rfl rfl rfl rfl) σ) (pa_cons (pv 0) (pa_cons pe_int pa_nil))) pe_int (nomark _)) (pss_one (ps_ret (pe_lc (own := [("k", 2)]) (by rfl) sc__law_unknowns.nd (pi_range1 (by rfl) T.n_range (pa_cons (pv 1) pa_nil)) (blkOk_by (N := N__law_unknowns) (sc := defScope (top 27)) (by decide +kernel)) (fun _ _ _ _ _ => (pg_name (i := 2) sc__law_unknowns.nd rfl (Or.inl rfl))) (fun _ _ _ _ _ => pts_nil) (fun _ _ _ _ _ => (pe_op op_add_str pe_str (pe_callTy call_str_int (by rfl) T.n_str (by decide +kernel) (pa_cons (pv 2) pa_nil))))))) pss_nil) (pss_one (ps_ret (pe_lc (own := [("name", 3)]) (by rfl) sc__law_unknowns.nd (pi_listK (K := K) (pe_callSD (ok__law_names T) (hr.mono (by decide)) (by rfl) T.g__law_names T.F__law_names.kp (bi__law_names T) .nil (fun σ => L2N.passAt (L2N.takes_of rfl rfl rfl rfl) σ) (pa_cons (pv 0) (pa_cons (pv 1) pa_nil)))) (blkOk_by (N := N__law_unknowns) (sc := defScope (top 27)) (by decide +kernel)) (fun _ _ _ _ _ => (pg_name (i := 3) sc__law_unknowns.nd rfl (Or.inl rfl))) (fun _ _ _ _ _ => pts_nil) (fun _ _ _ _ _ => (pe_op op_add_str pe_str (pv 3))))))), ?_⟩)
  rintro q sc ⟨count_0, ⟨⟩⟩
  show El (cfE K (some q) sc E) _ True [.val rPool q, .val rInt count_0, .any, .any] _ (m_law_unknowns count_0)
  unfold m_law_unknowns
  exact (el_guard (et_test (ev_eq scInt (ev_callP 0 rfl rfl (ea_cons (ev_int (i := 3)) ea_nil)) (ev_int (i := 1)))) (el_ret (ev_fz (en_lcE (vs := [2]) (ru := rInt) (r := rStr) (ei_r1 (ev_var (a := count_0) 1 rfl)) (eg_name 2) (by decide) (fun k_1 => (atEv (Cf.nox (cfE K (some q) sc E)) [.val rPool q, .val rInt count_0, .val rInt k_1, .any] (ev_catS (ev_str (by decide +kernel)) (ev_strI (ev_var (a := k_1) 2 rfl)))))))) (el_ret (ev_fz (en_lcE (vs := [3]) (ru := rStr) (r := rStr) (ei_list (ev_callP 0 rfl rfl (ea_cons (ev_var (a := count_0) 1 rfl) ea_nil))) (eg_name 3) (by decide) (fun name_2 => (atEv (Cf.nox (cfE K (some q) sc E)) [.val rPool q, .val rInt count_0, .any, .val rStr name_2] (ev_catS (ev_str (by decide +kernel)) (ev_var (a := name_2) 3 rfl))))))))
theorem ok__law_signs (T : Tx P K mg) : FnOk P w K mg base (L2N.CX P w) 2 (He.ga K "_law_signs") T.fd__law_signs ["pool"] (spP K aNil (fun a => m_law_signs ) (rList rStr)) := by
  refine okP (n := 0) (j := 5) T.F__law_signs sc__law_signs bd_nil rfl rfl (fun cdv A_ outer s H E hr => ⟨_, (pss_cons (ps_set (i := 1) sc__law_signs.nd rfl (Or.inl rfl) (pe_lst pa_nil)) (pss_cons (ps_set (i := 2) sc__law_signs.nd rfl (Or.inr rfl) (pe_ix (ix_listK (K := K)) (pe_lst (pa_cons pe_str (pa_cons pe_str pa_nil))) (pe_callSD (ok__law_draw T) (hr.mono (by decide)) (by rfl) T.g__law_draw T.F__law_draw.kp (bi__law_draw T) .nil (fun σ => L2N.passAt (L2N.takes_of rfl rfl rfl rfl) σ) (pa_cons (pv 0) (pa_cons pe_int pa_nil))) (fun _ _ => rfl))) (pss_cons (ps_for (passes_of rfl) rfl (pi_range1 (by rfl) T.n_range (pa_cons (pe_callSD (ok__law_draw T) (hr.mono (by decide)) (by rfl) T.g__law_draw T.F__law_draw.kp (bi__law_draw T) .nil (fun σ => L2N.passAt (L2N.takes_of rfl rfl rfl rfl) σ) (pa_cons (pv 0) (pa_cons pe_int pa_nil))) pa_nil)) (pg_name (i := 3) sc__law_signs.nd rfl (Or.inl rfl)) (pss_cons (ps_set (i := 4) sc__law_signs.nd rfl (Or.inl rfl) (pe_op op_add pe_int (pe_callSD (ok__law_draw T) (hr.mono (by decide)) (by rfl) T.g__law_draw T.F__law_draw.kp (bi__law_draw T) .nil (fun σ => L2N.passAt (L2N.takes_of rfl rfl rfl rfl) σ) (pa_cons (pv 0) (pa_cons pe_int pa_nil))))) (pss_cons (ps_if (pt_cmpR op_eq (pe_callSD (ok__law_draw T) (hr.mono (by decide)) (by rfl) T.g__law_draw T.F__law_draw.kp (bi__law_draw T) .nil (fun σ => L2N.passAt (L2N.takes_of rfl rfl rfl rfl) σ) (pa_cons (pv 0) (pa_cons pe_int pa_nil))) pe_int (nomark _)) (pss_one (ps_set (i := 4) sc__law_signs.nd rfl (Or.inl rfl) (pe_op op_add pe_int (pe_callSD (ok__law_draw T) (hr.mono (by decide)) (by rfl) T.g__law_draw T.F__law_draw.kp (bi__law_draw T) .nil (fun σ => L2N.passAt (L2N.takes_of rfl rfl rfl rfl) σ) (pa_cons (pv 0) (pa_cons pe_int pa_nil)))))) pss_nil) (pss_cons (ps_set (i := 1) sc__law_signs.nd rfl (Or.inl rfl) (pe_op op_cat (pv 1) (pe_lc (own := [("step", 5)]) (by rfl) sc__law_signs.nd (pi_range1 (by rfl) T.n_range (pa_cons (pv 4) pa_nil)) (blkOk_by (N := N__law_signs) (sc := defScope (top 30)) (by decide +kernel)) (fun _ _ _ _ _ => (pg_name (i := 5) sc__law_signs.nd rfl (Or.inl rfl))) (fun _ _ _ _ _ => pts_nil) (fun _ _ _ _ _ => (pv 2))))) (pss_one (ps_if (pt_cmpR op_lt (pe_callSD (ok__law_draw T) (hr.mono (by decide)) (by rfl) T.g__law_draw T.F__law_draw.kp (bi__law_draw T) .nil (fun σ => L2N.passAt (L2N.takes_of rfl rfl rfl rfl) σ) (pa_cons (pv 0) (pa_cons pe_int pa_nil))) pe_int (nomark _)) (pss_one (ps_set (i := 2) sc__law_signs.nd rfl (Or.inr rfl) (pe_ix (ix_listK (K := K)) (pe_lst (pa_cons pe_str (pa_cons pe_str pa_nil))) (pe_callTy call_int1 (by rfl) T.n_int (by decide +kernel) (pa_cons (pe_cmpR op_eq (pv 2) pe_str (nomark _)) pa_nil)) (fun _ _ => rfl)))) pss_nil)))))) (pss_one (ps_ret (pv 1)))))), ?_⟩)
  rintro q sc ⟨⟩
  show El (cfE K (some q) sc E) _ True [.val rPool q, .any, .any, .any, .any, .any] _ (m_law_signs )
  unfold m_law_signs
  exact (el_seq (esSet (i := 1) (ev_fz (en_lst (r := rStr) ea_lnil))) (fun signs_1 => (atEl (cfE K (some q) sc E) [.val rPool q, .val (rList rStr) signs_1, .any, .any, .any, .any] (el_seq (esSet (i := 2) (ev_ixL (ev_fz (en_lst (r := rStr) (ea_lcons (ev_str (by decide +kernel)) (ea_lcons (ev_str (by decide +kernel)) ea_lnil)))) (ev_callP 0 rfl rfl (ea_cons (ev_int (i := 2)) ea_nil)))) (fun sign_2 => (atEl (cfE K (some q) sc E) [.val rPool q, .val (rList rStr) signs_1, .val rStr sign_2, .any, .any, .any] (el_seq (es_for (α := Int) (r := rInt) (b0 := ((signs_1, sign_2) : (List Str) × Str)) (Γ := (fun (b_3 : (List Str) × Str) => [.val rPool q, .val (rList rStr) b_3.1, .val rStr b_3.2, .any, .any, .any])) (ei_r1 (ev_callP 0 rfl rfl (ea_cons (ev_int (i := 6)) ea_nil))) (fun b_3 => (eg_name 3)) (fun k_4 b_3 => (atEs (cfE K (some q) sc E) [.val rPool q, .val (rList rStr) b_3.1, .val rStr b_3.2, .val rInt k_4, .any, .any] (es_seq (esSet (i := 4) (ev_add (ev_int (i := 1)) (ev_callP 0 rfl rfl (ea_cons (ev_int (i := 4)) ea_nil)))) (fun size_5 => (atEs (cfE K (some q) sc E) [.val rPool q, .val (rList rStr) b_3.1, .val rStr b_3.2, .val rInt k_4, .val rInt size_5, .any] (es_seq (es_if (Γ' := (fun (b_6 : Int) => [.val rPool q, .val (rList rStr) b_3.1, .val rStr b_3.2, .val rInt k_4, .val rInt b_6, .any])) (et_test (ev_eq scInt (ev_callP 0 rfl rfl (ea_cons (ev_int (i := 8)) ea_nil)) (ev_int (i := 7)))) (es_wk (esSet (i := 4) (ev_add (ev_int (i := 1)) (ev_callP 0 rfl rfl (ea_cons (ev_int (i := 40)) ea_nil)))) (fun size_7 => (.same (.same (.same (.same (.same (.same .nil)))))))) (es_wk es_pass (fun _ => (.same (.same (.same (.same (.same (.same .nil))))))))) (fun b_6 => (atEs (cfE K (some q) sc E) [.val rPool q, .val (rList rStr) b_3.1, .val rStr b_3.2, .val rInt k_4, .val rInt b_6, .any] (es_seq (esSet (i := 1) (ev_fz (en_cat (ev_var (a := b_3.1) 1 rfl) (ev_fz (en_lcE (vs := [5]) (ru := rInt) (r := rStr) (ei_r1 (ev_var (a := b_6) 4 rfl)) (eg_name 5) (by decide) (fun step_8 => (atEv (Cf.nox (cfE K (some q) sc E)) [.val rPool q, .val (rList rStr) b_3.1, .val rStr b_3.2, .val rInt k_4, .val rInt b_6, .val rInt step_8] (ev_var (a := b_3.2) 2 rfl)))))))) (fun signs_9 => (atEs (cfE K (some q) sc E) [.val rPool q, .val (rList rStr) signs_9, .val rStr b_3.2, .val rInt k_4, .val rInt b_6, .any] (es_wk (es_if (Γ' := (fun (b_10 : Str) => [.val rPool q, .val (rList rStr) signs_9, .val rStr b_10, .val rInt k_4, .val rInt b_6, .any])) (et_test (ev_lt (ev_callP 0 rfl rfl (ea_cons (ev_int (i := 4)) ea_nil)) (ev_int (i := 3)))) (es_wk (esSet (i := 2) (ev_ixL (ev_fz (en_lst (r := rStr) (ea_lcons (ev_str (by decide +kernel)) (ea_lcons (ev_str (by decide +kernel)) ea_lnil)))) (ev_intB (ev_eq scStr (ev_var (a := b_3.2) 2 rfl) (ev_str (by decide +kernel)))))) (fun sign_11 => (.same (.same (.same (.same (.same (.same .nil)))))))) (es_wk es_pass (fun _ => (.same (.same (.same (.same (.same (.same .nil))))))))) (fun b_10 => (.same (.same (.same (.any (.any (.same .nil)))))))))))))))))))) (fun b_3 => (atEl (cfE K (some q) sc E) [.val rPool q, .val (rList rStr) b_3.1, .val rStr b_3.2, .any, .any, .any] (el_ret (ev_var (a := b_3.1) 1 rfl)))))))))))
theorem ok_is_kind_name (T : Tx P K mg) : FnOk P w K mg base (L2N.CX P w) 1 (He.ga K "is_kind_name") T.fd_is_kind_name ["text"] (spF K (aCons rStr aNil) (fun a => m_is_kind_name a.1) rBool) := by
  refine okF (n := 1) (j := 1) T.F_is_kind_name sc_is_kind_name (bd_cons bd_nil) rfl rfl (fun cdv A_ outer s H E hr => ⟨_, (pss_cons (ps_if (PW.pt (pw_or (pt_not (pt_chain op_le op_le pe_int (pe_callB call_len_str (by rfl) T.n_len PySem.boot_len (pa_cons (pv 0) pa_nil)) (pe_gint (by rfl) T.c_MOST_LETTERS))) (pw_or1 (pt_cmpR op_notIn_sign (pe_ix ix_str (pv 0) pe_int (fun _ _ => rfl)) (pe_gstr (by rfl) T.c_LETTERS) rfl)))) (pss_one (ps_ret pe_bl)) pss_nil) (pss_one (ps_ret (pe_callB (cr_allK (K := K) rfl) (by rfl) T.n_all (by decide +kernel) (pa_cons (pe_lc (own := [("char", 1)]) (by rfl) sc_is_kind_name.nd (pi_str (pv 0)) (blkOk_by (N := N_is_kind_name) (sc := defScope (top 12)) (by decide +kernel)) (fun _ _ _ _ _ => (pg_name (i := 1) sc_is_kind_name.nd rfl (Or.inl rfl))) (fun _ _ _ _ _ => pts_nil) (fun _ _ _ _ _ => (pe_cmpR op_in_sign (pv 1) (pe_gstr (by rfl) T.c_LATER) rfl))) pa_nil))))), ?_⟩)
  rintro ⟨text_0, ⟨⟩⟩
  show El (cfE K none 0 E) _ True [.val rStr text_0, .any] _ (m_is_kind_name text_0)
  unfold m_is_kind_name
  exact (el_guard (et_or (et_not (et_test (ev_chain (g1 := (fun a b : Int => decide (a ≤ b))) (g2 := (fun a b : Int => decide (a ≤ b))) (ev_int (i := 1)) (ev_lenS (ev_var (a := text_0) 0 rfl)) (ev_int (i := 24))))) (et_test (ev_ninS (ev_ixS (ev_var (a := text_0) 0 rfl) (ev_int (i := 0))) (ev_str (by decide +kernel))))) (el_ret ev_bl) (el_ret (ev_all (ev_fz (en_lcE (vs := [1]) (ru := rStr) (r := rBool) (ei_str (ev_var (a := text_0) 0 rfl)) (eg_name 1) (by decide) (fun char_1 => (atEv (Cf.nox (cfE K none 0 E)) [.val rStr text_0, .val rStr char_1] (ev_inS (ev_var (a := char_1) 1 rfl) (ev_str (by decide +kernel))))))))))
theorem ok_is_unknown_name (T : Tx P K mg) : FnOk P w K mg base (L2N.CX P w) 1 (He.ga K "is_unknown_name") T.fd_is_unknown_name ["text"] (spF K (aCons rStr aNil) (fun a => m_is_unknown_name a.1) rBool) := by
  refine okF (n := 1) (j := 1) T.F_is_unknown_name sc_is_unknown_name (bd_cons bd_nil) rfl rfl (fun cdv A_ outer s H E hr => ⟨_, (pss_cons (ps_if (PW.pt (pw_or (pt_not (pt_chain op_le op_le pe_int (pe_callB call_len_str (by rfl) T.n_len PySem.boot_len (pa_cons (pv 0) pa_nil)) (pe_op op_add (pe_gint (by rfl) T.c_MOST_LETTERS) pe_int))) (pw_or1 (pt_cmpR op_ne (pe_ix ix_str (pv 0) pe_int (fun _ _ => rfl)) pe_str (nomark _))))) (pss_one (ps_ret pe_bl)) pss_nil) (pss_one (ps_ret (pe_callB (cr_allK (K := K) rfl) (by rfl) T.n_all (by decide +kernel) (pa_cons (pe_lc (own := [("char", 1)]) (by rfl) sc_is_unknown_name.nd (pi_str (pe_slice sl_str (pv 0) (po_some pe_int) po_none)) (blkOk_by (N := N_is_unknown_name) (sc := defScope (top 13)) (by decide +kernel)) (fun _ _ _ _ _ => (pg_name (i := 1) sc_is_unknown_name.nd rfl (Or.inl rfl))) (fun _ _ _ _ _ => pts_nil) (fun _ _ _ _ _ => (pe_cmpR op_in_sign (pv 1) (pe_gstr (by rfl) T.c_LATER) rfl))) pa_nil))))), ?_⟩)
  rintro ⟨text_0, ⟨⟩⟩
  show El (cfE K none 0 E) _ True [.val rStr text_0, .any] _ (m_is_unknown_name text_0)
  unfold m_is_unknown_name
  exact (el_guard (et_or (et_not (et_test (ev_chain (g1 := (fun a b : Int => decide (a ≤ b))) (g2 := (fun a b : Int => decide (a ≤ b))) (ev_int (i := 2)) (ev_lenS (ev_var (a := text_0) 0 rfl)) (ev_add (ev_int (i := 24)) (ev_int (i := 1)))))) (et_test (ev_ne scStr (ev_ixS (ev_var (a := text_0) 0 rfl) (ev_int (i := 0))) (ev_str (by decide +kernel))))) (el_ret ev_bl) (el_ret (ev_all (ev_fz (en_lcE (vs := [1]) (ru := rStr) (r := rBool) (ei_str (ev_slS (ev_var (a := text_0) 0 rfl) (eo_some (ev_int (i := 1))) eo_none)) (eg_name 1) (by decide) (fun char_1 => (atEv (Cf.nox (cfE K none 0 E)) [.val rStr text_0, .val rStr char_1] (ev_inS (ev_var (a := char_1) 1 rfl) (ev_str (by decide +kernel))))))))))
theorem ok_check_node (T : Tx P K mg) : FnOk P w K mg base (L2N.CX P w) 2 (He.ga K "check_node") T.fd_check_node ["name"] (spF K (aCons rStr aNil) (fun a => m_check_node a.1) rNone) := by
  refine okF (n := 1) (j := 0) T.F_check_node sc_check_node (bd_cons bd_nil) rfl rfl (fun cdv A_ outer s H E hr => ⟨_, (pss_one (ps_if (PW.pt (pw_and (pt_not (pt_val (pe_callSD (ok_is_kind_name T) (hr.mono (by decide)) (by rfl) T.g_is_kind_name T.F_is_kind_name.kp (bi_is_kind_name T) .nil (fun σ => L2N.passAt (L2N.takes_of rfl rfl rfl rfl) σ) (pa_cons (pv 0) pa_nil)))) (pw_and1 (pt_not (pt_val (pe_callSD (ok_is_unknown_name T) (hr.mono (by decide)) (by rfl) T.g_is_unknown_name T.F_is_unknown_name.kp (bi_is_unknown_name T) .nil (fun σ => L2N.passAt (L2N.takes_of rfl rfl rfl rfl) σ) (pa_cons (pv 0) pa_nil))))))) (pss_one (L2N.ps_raise rfl (L2N.takes_of rfl rfl rfl rfl) (pmk1 T.er_BadName sh_BadName hr (pa_cons (pv 0) pa_nil) rfl))) pss_nil)), ?_⟩)
  rintro ⟨name_0, ⟨⟩⟩
  show El (cfE K none 0 E) _ True [.val rStr name_0] _ (m_check_node name_0)
  unfold m_check_node
  exact (el_if (et_and (et_not (et_val (ev_call0 rfl (ea_cons (ev_var (a := name_0) 0 rfl) ea_nil)))) (et_not (et_val (ev_call0 rfl (ea_cons (ev_var (a := name_0) 0 rfl) ea_nil))))) (el_raise1 (x := "BadName") datStr (ev_var (a := name_0) 0 rfl)) (el_nil trivial))
theorem ok_check_sign (T : Tx P K mg) : FnOk P w K mg base (L2N.CX P w) 1 (He.ga K "check_sign") T.fd_check_sign ["sign"] (spF K (aCons rStr aNil) (fun a => m_check_sign a.1) rNone) := by
  refine okF (n := 1) (j := 0) T.F_check_sign sc_check_sign (bd_cons bd_nil) rfl rfl (fun cdv A_ outer s H E hr => ⟨_, (pss_one (ps_if (pt_cmpR (op_notIn_seqK (K := K)) (pv 0) (pe_glob (v := .ref (He.ga K "SIGNS")) rfl T.g_SIGNS rfl) (by rfl)) (pss_one (L2N.ps_raise rfl (L2N.takes_of rfl rfl rfl rfl) (pmk1 T.er_BadSign sh_BadSign hr (pa_cons (pv 0) pa_nil) rfl))) pss_nil)), ?_⟩)
  rintro ⟨sign_0, ⟨⟩⟩
  show El (cfE K none 0 E) _ True [.val rStr sign_0] _ (m_check_sign sign_0)
  unfold m_check_sign
  exact (el_if (et_test (ev_ninT sfStr (ev_var (a := sign_0) 0 rfl) (ev_gtup T.tp_SIGNS (by decide) (fun _ => (.cons ⟨rfl, by decide +kernel⟩ (.cons ⟨rfl, by decide +kernel⟩ .nil)))))) (el_raise1 (x := "BadSign") datStr (ev_var (a := sign_0) 0 rfl)) (el_nil trivial))
theorem ok_Walk___init__ (T : Tx P K mg) : FnOk P w K mg base (L2N.CX P w) 3 (He.fAd K ("Walk", some "__init__")) T.fd_Walk___init__ ["self", "nodes", "signs"] (spI K "Walk" (f_Walk K) (aCons (rList rStr) (aCons (rList rStr) aNil)) (fun a => m_Walk___init__ a.1 a.2.1)) := by
  refine okInit (n := 2) (j := 2) T.F_Walk___init__ sc_Walk___init__ (bd_cons (bd_cons bd_nil)) rfl rfl (fun cdv A_ outer s H E hr => ⟨_, (pss_cons (ps_for (passes_of rfl) rfl (pi_listK (K := K) (pv 1)) (pg_name (i := 3) sc_Walk___init__.nd rfl (Or.inl rfl)) (pss_one (ps_expr (pe_callSD (ok_check_node T) (hr.mono (by decide)) (by rfl) T.g_check_node T.F_check_node.kp (bi_check_node T) .nil (fun σ => L2N.passAt (L2N.takes_of rfl rfl rfl rfl) σ) (pa_cons (pv 3) pa_nil))))) (pss_cons (ps_for (passes_of rfl) rfl (pi_listK (K := K) (pv 2)) (pg_name (i := 4) sc_Walk___init__.nd rfl (Or.inl rfl)) (pss_one (ps_expr (pe_callSD (ok_check_sign T) (hr.mono (by decide)) (by rfl) T.g_check_sign T.F_check_sign.kp (bi_check_sign T) .nil (fun σ => L2N.passAt (L2N.takes_of rfl rfl rfl rfl) σ) (pa_cons (pv 4) pa_nil))))) (pss_cons (ps_if (pt_cmpR op_ne (pe_callB (call_len_seqK (K := K)) (by rfl) T.n_len PySem.boot_len (pa_cons (pv 2) pa_nil)) (pe_op op_sub (pe_callB (call_len_seqK (K := K)) (by rfl) T.n_len PySem.boot_len (pa_cons (pv 1) pa_nil)) pe_int) (nomark _)) (pss_one (L2N.ps_raise rfl (L2N.takes_of rfl rfl rfl rfl) (pmk1 T.er_BadCount sh_BadCount hr (pa_cons (pe_callB (call_len_seqK (K := K)) (by rfl) T.n_len PySem.boot_len (pa_cons (pv 2) pa_nil)) pa_nil) rfl))) pss_nil) (pss_cons (ps_fld (pv 0) (pe_callTy (call_tuple_ofK (K := K)) (by rfl) T.n_tuple (by decide +kernel) (pa_cons (pv 1) pa_nil)) rfl) (pss_one (ps_fld (pv 0) (pe_callTy (call_tuple_ofK (K := K)) (by rfl) T.n_tuple (by decide +kernel) (pa_cons (pv 2) pa_nil)) rfl)))))), ?_⟩)
  rintro y ⟨nodes_0, signs_0, ⟨⟩⟩
  show El { cfE K none 0 E with s := ⟨0, gSelf y 4, fun _ => none⟩ } _ True [.own (oI (He.ga K "Walk") []) (), .val (rList rStr) nodes_0, .val (rList rStr) signs_0, .any, .any] _ (m_Walk___init__ nodes_0 signs_0)
  unfold m_Walk___init__
  exact (el_seq (es_for (α := Str) (r := rStr) (Γ := (fun (b_1 : Unit) => [.own (oI (He.ga K "Walk") []) (), .val (rList rStr) nodes_0, .val (rList rStr) signs_0, .any, .any])) (ei_list (ev_var (a := nodes_0) 1 rfl)) (fun b_1 => (eg_name 3)) (fun name_2 b_1 => (atEs ({ cfE K none 0 E with s := ⟨0, gSelf y 4, fun _ => none⟩ } : Cf) [.own (oI (He.ga K "Walk") []) (), .val (rList rStr) nodes_0, .val (rList rStr) signs_0, .val rStr name_2, .any] (es_wk (es_expr (ev_call (ea_cons (ev_var (a := name_2) 3 rfl) ea_nil))) (fun _ => (.same (.same (.same (.any (.same .nil)))))))))) (fun b_1 => (atEl ({ cfE K none 0 E with s := ⟨0, gSelf y 4, fun _ => none⟩ } : Cf) [.own (oI (He.ga K "Walk") []) (), .val (rList rStr) nodes_0, .val (rList rStr) signs_0, .any, .any] (el_seq (es_for (α := Str) (r := rStr) (Γ := (fun (b_3 : Unit) => [.own (oI (He.ga K "Walk") []) (), .val (rList rStr) nodes_0, .val (rList rStr) signs_0, .any, .any])) (ei_list (ev_var (a := signs_0) 2 rfl)) (fun b_3 => (eg_name 4)) (fun sign_4 b_3 => (atEs ({ cfE K none 0 E with s := ⟨0, gSelf y 4, fun _ => none⟩ } : Cf) [.own (oI (He.ga K "Walk") []) (), .val (rList rStr) nodes_0, .val (rList rStr) signs_0, .any, .val rStr sign_4] (es_wk (es_expr (ev_call (ea_cons (ev_var (a := sign_4) 4 rfl) ea_nil))) (fun _ => (.same (.same (.same (.same (.any .nil)))))))))) (fun b_3 => (atEl ({ cfE K none 0 E with s := ⟨0, gSelf y 4, fun _ => none⟩ } : Cf) [.own (oI (He.ga K "Walk") []) (), .val (rList rStr) nodes_0, .val (rList rStr) signs_0, .any, .any] (el_guard (et_test (ev_ne scInt (ev_lenL (ev_var (a := signs_0) 2 rfl)) (ev_sub (ev_lenL (ev_var (a := nodes_0) 1 rfl)) (ev_int (i := 1))))) (el_raise1 (x := "BadCount") datInt (ev_lenL (ev_var (a := signs_0) 2 rfl))) (el_seq (es_fld 0 T.cls_Walk T.na_Walk_nodes rfl (show ¬ (("nodes" : Str) ∈ ([] : List Str)) by decide +kernel) (show (0 : Nat) < 900 by decide) (ev_tupL (ev_var (a := nodes_0) 1 rfl))) (fun nodes_5 => (atEl ({ cfE K none 0 E with s := ⟨0, gSelf y 4, fun _ => none⟩ } : Cf) [.own (oI (He.ga K "Walk") [⟨"nodes", (rTup K rStr), nodes_5⟩]) (), .val (rList rStr) nodes_0, .val (rList rStr) signs_0, .any, .any] (el_last (es_fld 0 T.cls_Walk T.na_Walk_signs rfl (show ¬ (("signs" : Str) ∈ (["nodes"] : List Str)) by decide +kernel) (show (1 : Nat) < 900 by decide) (ev_tupL (ev_var (a := signs_0) 2 rfl))) (fun signs_6 => (atEl ({ cfE K none 0 E with s := ⟨0, gSelf y 4, fun _ => none⟩ } : Cf) [.own (oI (He.ga K "Walk") [⟨"nodes", (rTup K rStr), nodes_5⟩, ⟨"signs", (rTup K rStr), signs_6⟩]) (), .val (rList rStr) nodes_0, .val (rList rStr) signs_0, .any, .any] (el_initEnd rfl rfl rfl))))))))))))))
theorem ok_Walk_start (T : Tx P K mg) : FnOk P w K mg base (L2N.CX P w) 1 (He5.wf K (He.ga K "Walk") "property" "start") T.fd_Walk_start ["self"] (spF K (aCons (r_Walk K) aNil) (fun a => m_Walk_start a.1) rStr) := by
  refine okF (n := 1) (j := 0) T.F_Walk_start sc_Walk_start (bd_cons bd_nil) rfl rfl (fun cdv A_ outer s H E hr => ⟨_, (pss_one (ps_ret (pe_ix (ix_tupK (K := K)) (pe_fldK (K := K) (pv 0)) pe_int (fun _ _ => rfl)))), ?_⟩)
  rintro ⟨self_0, ⟨⟩⟩
  show El (cfE K none 0 E) _ True [.val (r_Walk K) self_0] _ (m_Walk_start self_0)
  unfold m_Walk_start
  exact (el_ret (ev_ixT (ev_fld 0 T.cls_Walk T.na_Walk_nodes (hn_Walk K) (by decide +kernel) (fun _ => rfl) (ev_var (a := self_0) 0 rfl)) (ev_int (i := 0))))
theorem ok__law_same (T : Tx P K mg) : ∀ n : Nat, FnOk P w K mg base (L2N.CX P w) (n + 1) (He.ga K "_law_same") T.fd__law_same ["actual", "due"] (spF K (aCons (rD K) (aCons (rD K) aNil)) (fun a => m_law_same (n + 1) a.1 a.2.1) rBool)
  | 0 => by
    have ih := never0 (P := P) (w := w) (K := K) (mg := mg) (base := base) (CX := L2N.CX P w) (f := He.ga K "_law_same") (fd := T.fd__law_same) (ps := ["actual", "due"]) (ra := (aCons (rD K) (aCons (rD K) aNil))) (m := fun a => m_law_same 0 a.1 a.2.1) (r := rBool) (bd_cons (bd_cons bd_nil)) rfl (fun _ => rfl)
    refine okF (n := 2) (j := 1) T.F__law_same sc__law_same (bd_cons (bd_cons bd_nil)) rfl rfl (fun cdv A_ outer s H E hr => ⟨_, (pss_cons (ps_if (pt_cmpR op_isN (pv 1) pe_non (nomark _)) (pss_one (ps_ret (pe_cmpR op_isN (pv 0) pe_non (nomark _)))) pss_nil) (pss_cons (ps_if (PW.pt (pw_or (pt_val (pe_callB (call_isiK (K := K)) (by rfl) T.n_isinstance (by decide +kernel) (pa_cons (pv 1) (pa_cons (pe_bltn (v := .ty "bool") (by rfl) T.n_bool (by decide +kernel) rfl) pa_nil)))) (pw_or1 (pt_val (pe_callB (call_isiK (K := K)) (by rfl) T.n_isinstance (by decide +kernel) (pa_cons (pv 0) (pa_cons (pe_bltn (v := .ty "bool") (by rfl) T.n_bool (by decide +kernel) rfl) pa_nil))))))) (pss_one (ps_ret (pe_and (pe_callB (call_isiK (K := K)) (by rfl) T.n_isinstance (by decide +kernel) (pa_cons (pv 1) (pa_cons (pe_bltn (v := .ty "bool") (by rfl) T.n_bool (by decide +kernel) rfl) pa_nil))) (pe_and (pe_callB (call_isiK (K := K)) (by rfl) T.n_isinstance (by decide +kernel) (pa_cons (pv 0) (pa_cons (pe_bltn (v := .ty "bool") (by rfl) T.n_bool (by decide +kernel) rfl) pa_nil))) (pe_one (pe_cmpR op_eq (pv 0) (pv 1) (nomark _))))))) pss_nil) (pss_cons (ps_if (pt_val (pe_callB (call_isiK (K := K)) (by rfl) T.n_isinstance (by decide +kernel) (pa_cons (pv 1) (pa_cons (pe_bltn (v := .ty "int") (by rfl) T.n_int (by decide +kernel) rfl) pa_nil)))) (pss_one (ps_ret (pe_and (pe_callB (call_isiK (K := K)) (by rfl) T.n_isinstance (by decide +kernel) (pa_cons (pv 0) (pa_cons (pe_bltn (v := .ty "int") (by rfl) T.n_int (by decide +kernel) rfl) pa_nil))) (pe_one (pe_cmpR op_eq (pv 0) (pv 1) (nomark _)))))) pss_nil) (pss_cons (ps_if (pt_val (pe_callB (call_isiK (K := K)) (by rfl) T.n_isinstance (by decide +kernel) (pa_cons (pv 1) (pa_cons (pe_bltn (v := .ty "str") (by rfl) T.n_str (by decide +kernel) rfl) pa_nil)))) (pss_one (ps_ret (pe_and (pe_callB (call_isiK (K := K)) (by rfl) T.n_isinstance (by decide +kernel) (pa_cons (pv 0) (pa_cons (pe_bltn (v := .ty "str") (by rfl) T.n_str (by decide +kernel) rfl) pa_nil))) (pe_one (pe_cmpR op_eq (pv 0) (pv 1) (nomark _)))))) pss_nil) (pss_cons (ps_if (PW.pt (pw_or (pt_cmpR op_ne (pe_callB (call_isiK (K := K)) (by rfl) T.n_isinstance (by decide +kernel) (pa_cons (pv 1) (pa_cons (pe_bltn (v := .ty "tuple") (by rfl) T.n_tuple (by decide +kernel) rfl) pa_nil))) (pe_callB (call_isiK (K := K)) (by rfl) T.n_isinstance (by decide +kernel) (pa_cons (pv 0) (pa_cons (pe_bltn (v := .ty "tuple") (by rfl) T.n_tuple (by decide +kernel) rfl) pa_nil))) (nomark _)) (pw_or1 (pt_cmpR op_ne (pe_callB (call_isiK (K := K)) (by rfl) T.n_isinstance (by decide +kernel) (pa_cons (pv 1) (pa_cons (pe_bltn (v := .ty "list") (by rfl) T.n_list (by decide +kernel) rfl) pa_nil))) (pe_callB (call_isiK (K := K)) (by rfl) T.n_isinstance (by decide +kernel) (pa_cons (pv 0) (pa_cons (pe_bltn (v := .ty "list") (by rfl) T.n_list (by decide +kernel) rfl) pa_nil))) (nomark _))))) (pss_one (ps_ret pe_bl)) pss_nil) (pss_cons (ps_if (pt_cmpR op_ne (pe_callB (call_len_seqK (K := K)) (by rfl) T.n_len PySem.boot_len (pa_cons (pv 0) pa_nil)) (pe_callB (call_len_seqK (K := K)) (by rfl) T.n_len PySem.boot_len (pa_cons (pv 1) pa_nil)) (nomark _)) (pss_one (ps_ret pe_bl)) pss_nil) (pss_cons (ps_for (passes_of rfl) rfl (pi_range1 (by rfl) T.n_range (pa_cons (pe_callB (call_len_seqK (K := K)) (by rfl) T.n_len PySem.boot_len (pa_cons (pv 1) pa_nil)) pa_nil)) (pg_name (i := 2) sc__law_same.nd rfl (Or.inl rfl)) (pss_one (ps_if (pt_not (pt_val (pe_callSD ih (hr.mono (by omega)) (by rfl) T.g__law_same T.F__law_same.kp (bi__law_same T) .nil (fun σ => L2N.passAt (L2N.takes_of rfl rfl rfl rfl) σ) (pa_cons (pe_ix (ix_list.or ix_tup) (pv 0) (pv 2) (fun _ _ => rfl)) (pa_cons (pe_ix (ix_list.or ix_tup) (pv 1) (pv 2) (fun _ _ => rfl)) pa_nil))))) (pss_one (ps_ret pe_bl)) pss_nil))) (pss_one (ps_ret pe_bl))))))))), ?_⟩)
    rintro ⟨actual_0, due_0, ⟨⟩⟩
    show El (cfE K none 0 E) _ True [.val (rD K) actual_0, .val (rD K) due_0, .any] _ (m_law_same (0 + 1) actual_0 due_0)
    exact (el_guard (et_test (ev_isND (ev_var (a := due_0) 1 rfl))) (el_ret (ev_isND (ev_var (a := actual_0) 0 rfl))) (el_guard (et_or (et_val (ev_isT .bool (ev_var (a := due_0) 1 rfl))) (et_val (ev_isT .bool (ev_var (a := actual_0) 0 rfl)))) (el_ret (ev_and (ev_isT .bool (ev_var (a := due_0) 1 rfl)) (ev_and (ev_isT .bool (ev_var (a := actual_0) 0 rfl)) (ev_eqD (ev_var (a := actual_0) 0 rfl) (ev_var (a := due_0) 1 rfl))))) (el_guard (et_val (ev_isT .int (ev_var (a := due_0) 1 rfl))) (el_ret (ev_and (ev_isT .int (ev_var (a := actual_0) 0 rfl)) (ev_eqD (ev_var (a := actual_0) 0 rfl) (ev_var (a := due_0) 1 rfl)))) (el_guard (et_val (ev_isT .str (ev_var (a := due_0) 1 rfl))) (el_ret (ev_and (ev_isT .str (ev_var (a := actual_0) 0 rfl)) (ev_eqD (ev_var (a := actual_0) 0 rfl) (ev_var (a := due_0) 1 rfl)))) (el_guard (et_or (et_test (ev_ne scBool (ev_isT .tuple (ev_var (a := due_0) 1 rfl)) (ev_isT .tuple (ev_var (a := actual_0) 0 rfl)))) (et_test (ev_ne scBool (ev_isT .list (ev_var (a := due_0) 1 rfl)) (ev_isT .list (ev_var (a := actual_0) 0 rfl))))) (el_ret ev_bl) (el_guard (et_test (ev_ne scInt (ev_lenD (ev_var (a := actual_0) 0 rfl)) (ev_lenD (ev_var (a := due_0) 1 rfl)))) (el_ret ev_bl) (el_seqF (ef_for (α := Int) (r := rInt) (Γ := (fun (b_1 : Unit) => [.val (rD K) actual_0, .val (rD K) due_0, .any])) (ei_r1 (ev_lenD (ev_var (a := due_0) 1 rfl))) (fun b_1 => (eg_name 2)) (fun k_2 b_1 => (atEf (cfE K none 0 E) [.val (rD K) actual_0, .val (rD K) due_0, .val rInt k_2] (ef_if (et_not (et_val (ev_call0 rfl (ea_cons (ev_ixD (ev_var (a := actual_0) 0 rfl) (ev_var (a := k_2) 2 rfl)) (ea_cons (ev_ixD (ev_var (a := due_0) 1 rfl) (ev_var (a := k_2) 2 rfl)) ea_nil))))) (ef_ol (el_ret ev_bl)) (ef_of (es_wk es_pass (fun _ => (.same (.same (.any .nil)))))))))) (fun b_1 => (atEl (cfE K none 0 E) [.val (rD K) actual_0, .val (rD K) due_0, .any] (el_ret ev_bl))))))))))
  | n + 1 => by
    have ih := ok__law_same T n
    refine okF (n := 2) (j := 1) T.F__law_same sc__law_same (bd_cons (bd_cons bd_nil)) rfl rfl (fun cdv A_ outer s H E hr => ⟨_, (pss_cons (ps_if (pt_cmpR op_isN (pv 1) pe_non (nomark _)) (pss_one (ps_ret (pe_cmpR op_isN (pv 0) pe_non (nomark _)))) pss_nil) (pss_cons (ps_if (PW.pt (pw_or (pt_val (pe_callB (call_isiK (K := K)) (by rfl) T.n_isinstance (by decide +kernel) (pa_cons (pv 1) (pa_cons (pe_bltn (v := .ty "bool") (by rfl) T.n_bool (by decide +kernel) rfl) pa_nil)))) (pw_or1 (pt_val (pe_callB (call_isiK (K := K)) (by rfl) T.n_isinstance (by decide +kernel) (pa_cons (pv 0) (pa_cons (pe_bltn (v := .ty "bool") (by rfl) T.n_bool (by decide +kernel) rfl) pa_nil))))))) (pss_one (ps_ret (pe_and (pe_callB (call_isiK (K := K)) (by rfl) T.n_isinstance (by decide +kernel) (pa_cons (pv 1) (pa_cons (pe_bltn (v := .ty "bool") (by rfl) T.n_bool (by decide +kernel) rfl) pa_nil))) (pe_and (pe_callB (call_isiK (K := K)) (by rfl) T.n_isinstance (by decide +kernel) (pa_cons (pv 0) (pa_cons (pe_bltn (v := .ty "bool") (by rfl) T.n_bool (by decide +kernel) rfl) pa_nil))) (pe_one (pe_cmpR op_eq (pv 0) (pv 1) (nomark _))))))) pss_nil) (pss_cons (ps_if (pt_val (pe_callB (call_isiK (K := K)) (by rfl) T.n_isinstance (by decide +kernel) (pa_cons (pv 1) (pa_cons (pe_bltn (v := .ty "int") (by rfl) T.n_int (by decide +kernel) rfl) pa_nil)))) (pss_one (ps_ret (pe_and (pe_callB (call_isiK (K := K)) (by rfl) T.n_isinstance (by decide +kernel) (pa_cons (pv 0) (pa_cons (pe_bltn (v := .ty "int") (by rfl) T.n_int (by decide +kernel) rfl) pa_nil))) (pe_one (pe_cmpR op_eq (pv 0) (pv 1) (nomark _)))))) pss_nil) (pss_cons (ps_if (pt_val (pe_callB (call_isiK (K := K)) (by rfl) T.n_isinstance (by decide +kernel) (pa_cons (pv 1) (pa_cons (pe_bltn (v := .ty "str") (by rfl) T.n_str (by decide +kernel) rfl) pa_nil)))) (pss_one (ps_ret (pe_and (pe_callB (call_isiK (K := K)) (by rfl) T.n_isinstance (by decide +kernel) (pa_cons (pv 0) (pa_cons (pe_bltn (v := .ty "str") (by rfl) T.n_str (by decide +kernel) rfl) pa_nil))) (pe_one (pe_cmpR op_eq (pv 0) (pv 1) (nomark _)))))) pss_nil) (pss_cons (ps_if (PW.pt (pw_or (pt_cmpR op_ne (pe_callB (call_isiK (K := K)) (by rfl) T.n_isinstance (by decide +kernel) (pa_cons (pv 1) (pa_cons (pe_bltn (v := .ty "tuple") (by rfl) T.n_tuple (by decide +kernel) rfl) pa_nil))) (pe_callB (call_isiK (K := K)) (by rfl) T.n_isinstance (by decide +kernel) (pa_cons (pv 0) (pa_cons (pe_bltn (v := .ty "tuple") (by rfl) T.n_tuple (by decide +kernel) rfl) pa_nil))) (nomark _)) (pw_or1 (pt_cmpR op_ne (pe_callB (call_isiK (K := K)) (by rfl) T.n_isinstance (by decide +kernel) (pa_cons (pv 1) (pa_cons (pe_bltn (v := .ty "list") (by rfl) T.n_list (by decide +kernel) rfl) pa_nil))) (pe_callB (call_isiK (K := K)) (by rfl) T.n_isinstance (by decide +kernel) (pa_cons (pv 0) (pa_cons (pe_bltn (v := .ty "list") (by rfl) T.n_list (by decide +kernel) rfl) pa_nil))) (nomark _))))) (pss_one (ps_ret pe_bl)) pss_nil) (pss_cons (ps_if (pt_cmpR op_ne (pe_callB (call_len_seqK (K := K)) (by rfl) T.n_len PySem.boot_len (pa_cons (pv 0) pa_nil)) (pe_callB (call_len_seqK (K := K)) (by rfl) T.n_len PySem.boot_len (pa_cons (pv 1) pa_nil)) (nomark _)) (pss_one (ps_ret pe_bl)) pss_nil) (pss_cons (ps_for (passes_of rfl) rfl (pi_range1 (by rfl) T.n_range (pa_cons (pe_callB (call_len_seqK (K := K)) (by rfl) T.n_len PySem.boot_len (pa_cons (pv 1) pa_nil)) pa_nil)) (pg_name (i := 2) sc__law_same.nd rfl (Or.inl rfl)) (pss_one (ps_if (pt_not (pt_val (pe_callSD ih (hr.mono (by omega)) (by rfl) T.g__law_same T.F__law_same.kp (bi__law_same T) .nil (fun σ => L2N.passAt (L2N.takes_of rfl rfl rfl rfl) σ) (pa_cons (pe_ix (ix_list.or ix_tup) (pv 0) (pv 2) (fun _ _ => rfl)) (pa_cons (pe_ix (ix_list.or ix_tup) (pv 1) (pv 2) (fun _ _ => rfl)) pa_nil))))) (pss_one (ps_ret pe_bl)) pss_nil))) (pss_one (ps_ret pe_bl))))))))), ?_⟩)
    rintro ⟨actual_0, due_0, ⟨⟩⟩
    show El (cfE K none 0 E) _ True [.val (rD K) actual_0, .val (rD K) due_0, .any] _ (m_law_same ((n + 1) + 1) actual_0 due_0)
    exact (el_guard (et_test (ev_isND (ev_var (a := due_0) 1 rfl))) (el_ret (ev_isND (ev_var (a := actual_0) 0 rfl))) (el_guard (et_or (et_val (ev_isT .bool (ev_var (a := due_0) 1 rfl))) (et_val (ev_isT .bool (ev_var (a := actual_0) 0 rfl)))) (el_ret (ev_and (ev_isT .bool (ev_var (a := due_0) 1 rfl)) (ev_and (ev_isT .bool (ev_var (a := actual_0) 0 rfl)) (ev_eqD (ev_var (a := actual_0) 0 rfl) (ev_var (a := due_0) 1 rfl))))) (el_guard (et_val (ev_isT .int (ev_var (a := due_0) 1 rfl))) (el_ret (ev_and (ev_isT .int (ev_var (a := actual_0) 0 rfl)) (ev_eqD (ev_var (a := actual_0) 0 rfl) (ev_var (a := due_0) 1 rfl)))) (el_guard (et_val (ev_isT .str (ev_var (a := due_0) 1 rfl))) (el_ret (ev_and (ev_isT .str (ev_var (a := actual_0) 0 rfl)) (ev_eqD (ev_var (a := actual_0) 0 rfl) (ev_var (a := due_0) 1 rfl)))) (el_guard (et_or (et_test (ev_ne scBool (ev_isT .tuple (ev_var (a := due_0) 1 rfl)) (ev_isT .tuple (ev_var (a := actual_0) 0 rfl)))) (et_test (ev_ne scBool (ev_isT .list (ev_var (a := due_0) 1 rfl)) (ev_isT .list (ev_var (a := actual_0) 0 rfl))))) (el_ret ev_bl) (el_guard (et_test (ev_ne scInt (ev_lenD (ev_var (a := actual_0) 0 rfl)) (ev_lenD (ev_var (a := due_0) 1 rfl)))) (el_ret ev_bl) (el_seqF (ef_for (α := Int) (r := rInt) (Γ := (fun (b_1 : Unit) => [.val (rD K) actual_0, .val (rD K) due_0, .any])) (ei_r1 (ev_lenD (ev_var (a := due_0) 1 rfl))) (fun b_1 => (eg_name 2)) (fun k_2 b_1 => (atEf (cfE K none 0 E) [.val (rD K) actual_0, .val (rD K) due_0, .val rInt k_2] (ef_if (et_not (et_val (ev_call0 rfl (ea_cons (ev_ixD (ev_var (a := actual_0) 0 rfl) (ev_var (a := k_2) 2 rfl)) (ea_cons (ev_ixD (ev_var (a := due_0) 1 rfl) (ev_var (a := k_2) 2 rfl)) ea_nil))))) (ef_ol (el_ret ev_bl)) (ef_of (es_wk es_pass (fun _ => (.same (.same (.any .nil)))))))))) (fun b_1 => (atEl (cfE K none 0 E) [.val (rD K) actual_0, .val (rD K) due_0, .any] (el_ret ev_bl))))))))))
theorem ok_Walk_end (T : Tx P K mg) : FnOk P w K mg base (L2N.CX P w) 1 (He5.wf K (He.ga K "Walk") "property" "end") T.fd_Walk_end ["self"] (spF K (aCons (r_Walk K) aNil) (fun a => m_Walk_end a.1) rStr) := by
  refine okF (n := 1) (j := 0) T.F_Walk_end sc_Walk_end (bd_cons bd_nil) rfl rfl (fun cdv A_ outer s H E hr => ⟨_, (pss_one (ps_ret (pe_ix (ix_tupK (K := K)) (pe_fldK (K := K) (pv 0)) (pe_un un_neg pe_int) (fun _ _ => rfl)))), ?_⟩)
  rintro ⟨self_0, ⟨⟩⟩
  show El (cfE K none 0 E) _ True [.val (r_Walk K) self_0] _ (m_Walk_end self_0)
  unfold m_Walk_end
  exact (el_ret (ev_ixT (ev_fld 0 T.cls_Walk T.na_Walk_nodes (hn_Walk K) (by decide +kernel) (fun _ => rfl) (ev_var (a := self_0) 0 rfl)) (ev_neg (ev_int (i := 1)))))
theorem ok_Walk_runs (T : Tx P K mg) : FnOk P w K mg base (L2N.CX P w) 1 (He5.wf K (He.ga K "Walk") "property" "runs") T.fd_Walk_runs ["self"] (spF K (aCons (r_Walk K) aNil) (fun a => m_Walk_runs a.1) rInt) := by
  refine okF (n := 1) (j := 1) T.F_Walk_runs sc_Walk_runs (bd_cons bd_nil) rfl rfl (fun cdv A_ outer s H E hr => ⟨_, (pss_one (ps_ret (pe_callB (call_len_seqK (K := K)) (by rfl) T.n_len PySem.boot_len (pa_cons (pe_lc (own := [("k", 1)]) (by rfl) sc_Walk_runs.nd (pi_range1 (by rfl) T.n_range (pa_cons (pe_callB (call_len_seqK (K := K)) (by rfl) T.n_len PySem.boot_len (pa_cons (pe_fldK (K := K) (pv 0)) pa_nil)) pa_nil)) (blkOk_by (N := N_Walk_runs) (sc := defScope (mth 20 4)) (by decide +kernel)) (fun _ _ _ _ _ => (pg_name (i := 1) sc_Walk_runs.nd rfl (Or.inl rfl))) (fun _ _ _ _ _ => (pts_one (PW.pt (pw_or (pt_cmpR op_eq (pv 1) pe_int (nomark _)) (pw_or1 (pt_cmpR op_ne (pe_ix (ix_tupK (K := K)) (pe_fldK (K := K) (pv 0)) (pv 1) (fun _ _ => rfl)) (pe_ix (ix_tupK (K := K)) (pe_fldK (K := K) (pv 0)) (pe_op op_sub (pv 1) pe_int) (fun _ _ => rfl)) (nomark _))))))) (fun _ _ _ _ _ => (pv 1))) pa_nil)))), ?_⟩)
  rintro ⟨self_0, ⟨⟩⟩
  show El (cfE K none 0 E) _ True [.val (r_Walk K) self_0, .any] _ (m_Walk_runs self_0)
  unfold m_Walk_runs
  exact (el_ret (ev_lenL (ev_fz (en_lc (vs := [1]) (ru := rInt) (r := rInt) (ei_r1 (ev_lenT (ev_fld 1 T.cls_Walk T.na_Walk_signs (hn_Walk K) (by decide +kernel) (fun _ => rfl) (ev_var (a := self_0) 0 rfl)))) (eg_name 1) (by decide) (fun k_1 => (atEt (Cf.nox (cfE K none 0 E)) [.val (r_Walk K) self_0, .val rInt k_1] (et_or (et_test (ev_eq scInt (ev_var (a := k_1) 1 rfl) (ev_int (i := 0)))) (et_test (ev_ne scStr (ev_ixT (ev_fld 1 T.cls_Walk T.na_Walk_signs (hn_Walk K) (by decide +kernel) (fun _ => rfl) (ev_var (a := self_0) 0 rfl)) (ev_var (a := k_1) 1 rfl)) (ev_ixT (ev_fld 1 T.cls_Walk T.na_Walk_signs (hn_Walk K) (by decide +kernel) (fun _ => rfl) (ev_var (a := self_0) 0 rfl)) (ev_sub (ev_var (a := k_1) 1 rfl) (ev_int (i := 1))))))))) (fun k_1 => (atEv (Cf.nox (cfE K none 0 E)) [.val (r_Walk K) self_0, .val rInt k_1] (ev_var (a := k_1) 1 rfl)))))))
theorem ok_Walk_first (T : Tx P K mg) : FnOk P w K mg base (L2N.CX P w) 1 (He5.wf K (He.ga K "Walk") "property" "first") T.fd_Walk_first ["self"] (spF K (aCons (r_Walk K) aNil) (fun a => m_Walk_first a.1) rStr) := by
  refine okF (n := 1) (j := 0) T.F_Walk_first sc_Walk_first (bd_cons bd_nil) rfl rfl (fun cdv A_ outer s H E hr => ⟨_, (pss_cons (ps_if (pt_not (pt_truth (pe_fldK (K := K) (pv 0)) (by intro _; rfl))) (pss_one (ps_ret pe_str)) pss_nil) (pss_one (ps_ret (pe_ifExp (pt_cmpR op_eq (pe_ix (ix_tupK (K := K)) (pe_fldK (K := K) (pv 0)) pe_int (fun _ _ => rfl)) pe_str (nomark _)) pe_str pe_str)))), ?_⟩)
  rintro ⟨self_0, ⟨⟩⟩
  show El (cfE K none 0 E) _ True [.val (r_Walk K) self_0] _ (m_Walk_first self_0)
  unfold m_Walk_first
  exact (el_guard (et_not (et_truT (ev_fld 1 T.cls_Walk T.na_Walk_signs (hn_Walk K) (by decide +kernel) (fun _ => rfl) (ev_var (a := self_0) 0 rfl)))) (el_ret (ev_str (by decide +kernel))) (el_ret (ev_if (et_test (ev_eq scStr (ev_ixT (ev_fld 1 T.cls_Walk T.na_Walk_signs (hn_Walk K) (by decide +kernel) (fun _ => rfl) (ev_var (a := self_0) 0 rfl)) (ev_int (i := 0))) (ev_str (by decide +kernel)))) (ev_str (by decide +kernel)) (ev_str (by decide +kernel)))))
theorem ok_Walk___len__ (T : Tx P K mg) : FnOk P w K mg base (L2N.CX P w) 1 (He.fAd K ("Walk", some "__len__")) T.fd_Walk___len__ ["self"] (spF K (aCons (r_Walk K) aNil) (fun a => m_Walk___len__ a.1) rInt) := by
  refine okF (n := 1) (j := 0) T.F_Walk___len__ sc_Walk___len__ (bd_cons bd_nil) rfl rfl (fun cdv A_ outer s H E hr => ⟨_, (pss_one (ps_ret (pe_callB (call_len_seqK (K := K)) (by rfl) T.n_len PySem.boot_len (pa_cons (pe_fldK (K := K) (pv 0)) pa_nil)))), ?_⟩)
  rintro ⟨self_0, ⟨⟩⟩
  show El (cfE K none 0 E) _ True [.val (r_Walk K) self_0] _ (m_Walk___len__ self_0)
  unfold m_Walk___len__
  exact (el_ret (ev_lenT (ev_fld 1 T.cls_Walk T.na_Walk_signs (hn_Walk K) (by decide +kernel) (fun _ => rfl) (ev_var (a := self_0) 0 rfl))))
theorem ok_check_direction (T : Tx P K mg) : FnOk P w K mg base (L2N.CX P w) 1 (He.ga K "check_direction") T.fd_check_direction ["first"] (spF K (aCons rStr aNil) (fun a => m_check_direction a.1) rNone) := by
  refine okF (n := 1) (j := 0) T.F_check_direction sc_check_direction (bd_cons bd_nil) rfl rfl (fun cdv A_ outer s H E hr => ⟨_, (pss_one (ps_if (pt_cmpR (op_notIn_seqK (K := K)) (pv 0) (pe_tup (pa_cons pe_str (pa_cons pe_str pa_nil))) (by rfl)) (pss_one (L2N.ps_raise rfl (L2N.takes_of rfl rfl rfl rfl) (pmk1 T.er_BadDirection sh_BadDirection hr (pa_cons (pv 0) pa_nil) rfl))) pss_nil)), ?_⟩)
  rintro ⟨first_0, ⟨⟩⟩
  show El (cfE K none 0 E) _ True [.val rStr first_0] _ (m_check_direction first_0)
  unfold m_check_direction
  exact (el_if (et_test (ev_ninT sfStr (ev_var (a := first_0) 0 rfl) (ev_tupN (r := rStr) (ea_lcons (ev_str (by decide +kernel)) (ea_lcons (ev_str (by decide +kernel)) ea_lnil))))) (el_raise1 (x := "BadDirection") datStr (ev_var (a := first_0) 0 rfl)) (el_nil trivial))
theorem ok_Walk_counted (T : Tx P K mg) : FnOk P w K mg base (L2N.CX P w) 3 (He.fAd K ("Walk", some "counted")) T.fd_Walk_counted ["self", "direction"] (spF K (aCons (r_Walk K) (aCons rStr aNil)) (fun a => m_Walk_counted a.1 a.2.1) rInt) := by
  refine okF (n := 2) (j := 0) T.F_Walk_counted sc_Walk_counted (bd_cons (bd_cons bd_nil)) rfl rfl (fun cdv A_ outer s H E hr => ⟨_, (pss_cons (ps_expr (pe_callSD (ok_check_direction T) (hr.mono (by decide)) (by rfl) T.g_check_direction T.F_check_direction.kp (bi_check_direction T) .nil (fun σ => L2N.passAt (L2N.takes_of rfl rfl rfl rfl) σ) (pa_cons (pv 1) pa_nil))) (pss_one (ps_ret (pe_op op_add (pe_prop (pv 0) T.cls_Walk T.pr_Walk_runs (ok_Walk_runs T) (hr.mono (by decide)) (bi_Walk_runs T) .nil pass_F rfl) (pe_ifExp (pt_cmpR (op_in_seqK (K := K)) (pe_prop (pv 0) T.cls_Walk T.pr_Walk_first (ok_Walk_first T) (hr.mono (by decide)) (bi_Walk_first T) .nil pass_F rfl) (pe_tup (pa_cons pe_str (pa_cons (pv 1) pa_nil))) (by rfl)) pe_int pe_int))))), ?_⟩)
  rintro ⟨self_0, direction_0, ⟨⟩⟩
  show El (cfE K none 0 E) _ True [.val (r_Walk K) self_0, .val rStr direction_0] _ (m_Walk_counted self_0 direction_0)
  unfold m_Walk_counted
  exact (el_seq (es_expr (ev_call0 rfl (ea_cons (ev_var (a := direction_0) 1 rfl) ea_nil))) (fun _ => (atEl (cfE K none 0 E) [.val (r_Walk K) self_0, .val rStr direction_0] (el_ret (ev_add (ev_prop (f := (fun (x : Walk × Unit) => m_Walk_runs x.1)) (ev_var (a := self_0) 0 rfl)) (ev_if (et_test (ev_inT sfStr (ev_prop (f := (fun (x : Walk × Unit) => m_Walk_first x.1)) (ev_var (a := self_0) 0 rfl)) (ev_tupN (r := rStr) (ea_lcons (ev_str (by decide +kernel)) (ea_lcons (ev_var (a := direction_0) 1 rfl) ea_lnil))))) (ev_int (i := 0)) (ev_int (i := 1))))))))
theorem ok__law_counts_kept (T : Tx P K mg) : FnOk P w K mg base (L2N.CX P w) 8 (He.ga K "_law_counts_kept") T.fd__law_counts_kept ["walk", "nodes", "signs"] (spF K (aCons (r_Walk K) (aCons (rList rStr) (aCons (rList rStr) aNil))) (fun a => m_law_counts_kept a.1 a.2.1 a.2.2.1) rBool) := by
  refine okF (n := 3) (j := 6) T.F__law_counts_kept sc__law_counts_kept (bd_cons (bd_cons (bd_cons bd_nil))) rfl rfl (fun cdv A_ outer s H E hr => ⟨_, (pss_cons (ps_set (i := 3) sc__law_counts_kept.nd rfl (Or.inl rfl) pe_int) (pss_cons (ps_set (i := 4) sc__law_counts_kept.nd rfl (Or.inl rfl) pe_str) (pss_cons (ps_for (passes_of rfl) rfl (pi_listK (K := K) (pv 2)) (pg_name (i := 5) sc__law_counts_kept.nd rfl (Or.inl rfl)) (pss_cons (ps_if (pt_cmpR op_ne (pv 5) (pv 4) (nomark _)) (pss_one (ps_set (i := 3) sc__law_counts_kept.nd rfl (Or.inl rfl) (pe_op op_add (pv 3) pe_int))) pss_nil) (pss_one (ps_set (i := 4) sc__law_counts_kept.nd rfl (Or.inl rfl) (pv 5))))) (pss_cons (ps_set (i := 6) sc__law_counts_kept.nd rfl (Or.inl rfl) pe_str) (pss_cons (ps_if (pt_cmpR op_gt (pe_callB (call_len_seqK (K := K)) (by rfl) T.n_len PySem.boot_len (pa_cons (pv 2) pa_nil)) pe_int (nomark _)) (pss_one (ps_set (i := 6) sc__law_counts_kept.nd rfl (Or.inl rfl) (pe_ix (ix_listK (K := K)) (pe_lst (pa_cons pe_str (pa_cons pe_str pa_nil))) (pe_callTy call_int1 (by rfl) T.n_int (by decide +kernel) (pa_cons (pe_cmpR op_eq (pe_ix (ix_listK (K := K)) (pv 2) pe_int (fun _ _ => rfl)) pe_str (nomark _)) pa_nil)) (fun _ _ => rfl)))) pss_nil) (pss_cons (ps_if (PW.pt (pw_or (pt_not (pt_val (pe_callSD (ok__law_same T 6) (hr.mono (by decide)) (by rfl) T.g__law_same T.F__law_same.kp (bi__law_same T) .nil (fun σ => L2N.passAt (L2N.takes_of rfl rfl rfl rfl) σ) (pa_cons (pe_prop (pv 0) T.cls_Walk T.pr_Walk_start (ok_Walk_start T) (hr.mono (by decide)) (bi_Walk_start T) .nil pass_F rfl) (pa_cons (pe_ix (ix_listK (K := K)) (pv 1) pe_int (fun _ _ => rfl)) pa_nil))))) (pw_or1 (pt_not (pt_val (pe_callSD (ok__law_same T 6) (hr.mono (by decide)) (by rfl) T.g__law_same T.F__law_same.kp (bi__law_same T) .nil (fun σ => L2N.passAt (L2N.takes_of rfl rfl rfl rfl) σ) (pa_cons (pe_prop (pv 0) T.cls_Walk T.pr_Walk_end (ok_Walk_end T) (hr.mono (by decide)) (bi_Walk_end T) .nil pass_F rfl) (pa_cons (pe_ix (ix_listK (K := K)) (pv 1) (pe_un un_neg pe_int) (fun _ _ => rfl)) pa_nil)))))))) (pss_one (ps_ret pe_bl)) pss_nil) (pss_cons (ps_if (PW.pt (pw_or (pt_not (pt_val (pe_callSD (ok__law_same T 6) (hr.mono (by decide)) (by rfl) T.g__law_same T.F__law_same.kp (bi__law_same T) .nil (fun σ => L2N.passAt (L2N.takes_of rfl rfl rfl rfl) σ) (pa_cons (pe_prop (pv 0) T.cls_Walk T.pr_Walk_runs (ok_Walk_runs T) (hr.mono (by decide)) (bi_Walk_runs T) .nil pass_F rfl) (pa_cons (pv 3) pa_nil))))) (pw_or (pt_not (pt_val (pe_callSD (ok__law_same T 6) (hr.mono (by decide)) (by rfl) T.g__law_same T.F__law_same.kp (bi__law_same T) .nil (fun σ => L2N.passAt (L2N.takes_of rfl rfl rfl rfl) σ) (pa_cons (pe_prop (pv 0) T.cls_Walk T.pr_Walk_first (ok_Walk_first T) (hr.mono (by decide)) (bi_Walk_first T) .nil pass_F rfl) (pa_cons (pv 6) pa_nil))))) (pw_or1 (pt_not (pt_val (pe_callSD (ok__law_same T 6) (hr.mono (by decide)) (by rfl) T.g__law_same T.F__law_same.kp (bi__law_same T) .nil (fun σ => L2N.passAt (L2N.takes_of rfl rfl rfl rfl) σ) (pa_cons (pe_lenO (ok_Walk___len__ T) (hr.mono (by decide)) (bi_Walk___len__ T) (fun σ => L2N.passAt (L2N.takes_of rfl rfl rfl rfl) σ) T.m_Walk___len__ (by rfl) T.n_len PySem.boot_len (pa_cons (pv 0) pa_nil)) (pa_cons (pe_callB (call_len_seqK (K := K)) (by rfl) T.n_len PySem.boot_len (pa_cons (pv 2) pa_nil)) pa_nil))))))))) (pss_one (ps_ret pe_bl)) pss_nil) (pss_cons (ps_for (passes_of rfl) rfl (pi_listK (K := K) (pe_lst (pa_cons pe_str (pa_cons pe_str pa_nil)))) (pg_name (i := 7) sc__law_counts_kept.nd rfl (Or.inl rfl)) (pss_cons (ps_set (i := 8) sc__law_counts_kept.nd rfl (Or.inl rfl) (pv 3)) (pss_cons (ps_if (PW.pt (pw_and (pt_cmpR op_ne (pv 6) pe_str (nomark _)) (pw_and1 (pt_cmpR op_ne (pv 6) (pv 7) (nomark _))))) (pss_one (ps_set (i := 8) sc__law_counts_kept.nd rfl (Or.inl rfl) (pe_op op_add (pv 3) pe_int))) pss_nil) (pss_one (ps_if (pt_not (pt_val (pe_callSD (ok__law_same T 6) (hr.mono (by decide)) (by rfl) T.g__law_same T.F__law_same.kp (bi__law_same T) .nil (fun σ => L2N.passAt (L2N.takes_of rfl rfl rfl rfl) σ) (pa_cons (pe_methS (ok_Walk_counted T) (hr.mono (by decide)) (bi_Walk_counted T) .nil (fun σ => L2N.passAt (L2N.takes_of rfl rfl rfl rfl) σ) T.cls_Walk T.m_Walk_counted (pv 0) (pa_cons (pv 7) pa_nil)) (pa_cons (pv 8) pa_nil))))) (pss_one (ps_ret pe_bl)) pss_nil))))) (pss_one (ps_ret pe_bl)))))))))), ?_⟩)
  rintro ⟨walk_0, nodes_0, signs_0, ⟨⟩⟩
  show El (cfE K none 0 E) _ True [.val (r_Walk K) walk_0, .val (rList rStr) nodes_0, .val (rList rStr) signs_0, .any, .any, .any, .any, .any, .any] _ (m_law_counts_kept walk_0 nodes_0 signs_0)
  unfold m_law_counts_kept
  exact (el_seq (esSet (i := 3) (ev_int (i := 0))) (fun runs_1 => (atEl (cfE K none 0 E) [.val (r_Walk K) walk_0, .val (rList rStr) nodes_0, .val (rList rStr) signs_0, .val rInt runs_1, .any, .any, .any, .any, .any] (el_seq (esSet (i := 4) (ev_str (by decide +kernel))) (fun last_2 => (atEl (cfE K none 0 E) [.val (r_Walk K) walk_0, .val (rList rStr) nodes_0, .val (rList rStr) signs_0, .val rInt runs_1, .val rStr last_2, .any, .any, .any, .any] (el_seq (es_for (α := Str) (r := rStr) (b0 := ((runs_1, last_2) : Int × Str)) (Γ := (fun (b_3 : Int × Str) => [.val (r_Walk K) walk_0, .val (rList rStr) nodes_0, .val (rList rStr) signs_0, .val rInt b_3.1, .val rStr b_3.2, .any, .any, .any, .any])) (ei_list (ev_var (a := signs_0) 2 rfl)) (fun b_3 => (eg_name 5)) (fun sign_4 b_3 => (atEs (cfE K none 0 E) [.val (r_Walk K) walk_0, .val (rList rStr) nodes_0, .val (rList rStr) signs_0, .val rInt b_3.1, .val rStr b_3.2, .val rStr sign_4, .any, .any, .any] (es_seq (es_if (Γ' := (fun (b_5 : Int) => [.val (r_Walk K) walk_0, .val (rList rStr) nodes_0, .val (rList rStr) signs_0, .val rInt b_5, .val rStr b_3.2, .val rStr sign_4, .any, .any, .any])) (et_test (ev_ne scStr (ev_var (a := sign_4) 5 rfl) (ev_var (a := b_3.2) 4 rfl))) (es_wk (esSet (i := 3) (ev_add (ev_var (a := b_3.1) 3 rfl) (ev_int (i := 1)))) (fun runs_6 => (.same (.same (.same (.same (.same (.same (.same (.same (.same .nil))))))))))) (es_wk es_pass (fun _ => (.same (.same (.same (.same (.same (.same (.same (.same (.same .nil)))))))))))) (fun b_5 => (atEs (cfE K none 0 E) [.val (r_Walk K) walk_0, .val (rList rStr) nodes_0, .val (rList rStr) signs_0, .val rInt b_5, .val rStr b_3.2, .val rStr sign_4, .any, .any, .any] (es_wk (esSet (i := 4) (ev_var (a := sign_4) 5 rfl)) (fun last_7 => (.same (.same (.same (.same (.same (.any (.same (.same (.same .nil))))))))))))))))) (fun b_3 => (atEl (cfE K none 0 E) [.val (r_Walk K) walk_0, .val (rList rStr) nodes_0, .val (rList rStr) signs_0, .val rInt b_3.1, .val rStr b_3.2, .any, .any, .any, .any] (el_seq (esSet (i := 6) (ev_str (by decide +kernel))) (fun first_8 => (atEl (cfE K none 0 E) [.val (r_Walk K) walk_0, .val (rList rStr) nodes_0, .val (rList rStr) signs_0, .val rInt b_3.1, .val rStr b_3.2, .any, .val rStr first_8, .any, .any] (el_seq (es_if (Γ' := (fun (b_9 : Str) => [.val (r_Walk K) walk_0, .val (rList rStr) nodes_0, .val (rList rStr) signs_0, .val rInt b_3.1, .val rStr b_3.2, .any, .val rStr b_9, .any, .any])) (et_test (ev_gt (ev_lenL (ev_var (a := signs_0) 2 rfl)) (ev_int (i := 0)))) (es_wk (esSet (i := 6) (ev_ixL (ev_fz (en_lst (r := rStr) (ea_lcons (ev_str (by decide +kernel)) (ea_lcons (ev_str (by decide +kernel)) ea_lnil)))) (ev_intB (ev_eq scStr (ev_ixL (ev_var (a := signs_0) 2 rfl) (ev_int (i := 0))) (ev_str (by decide +kernel)))))) (fun first_10 => (.same (.same (.same (.same (.same (.same (.same (.same (.same .nil))))))))))) (es_wk es_pass (fun _ => (.same (.same (.same (.same (.same (.same (.same (.same (.same .nil)))))))))))) (fun b_9 => (atEl (cfE K none 0 E) [.val (r_Walk K) walk_0, .val (rList rStr) nodes_0, .val (rList rStr) signs_0, .val rInt b_3.1, .val rStr b_3.2, .any, .val rStr b_9, .any, .any] (el_guard (et_or (et_not (et_val (ev_call0 rfl (ea_cons (ev_enc datStr (ev_prop (f := (fun (x : Walk × Unit) => m_Walk_start x.1)) (ev_var (a := walk_0) 0 rfl))) (ea_cons (ev_enc datStr (ev_ixL (ev_var (a := nodes_0) 1 rfl) (ev_int (i := 0)))) ea_nil))))) (et_not (et_val (ev_call0 rfl (ea_cons (ev_enc datStr (ev_prop (f := (fun (x : Walk × Unit) => m_Walk_end x.1)) (ev_var (a := walk_0) 0 rfl))) (ea_cons (ev_enc datStr (ev_ixL (ev_var (a := nodes_0) 1 rfl) (ev_neg (ev_int (i := 1))))) ea_nil)))))) (el_ret ev_bl) (el_guard (et_or (et_not (et_val (ev_call0 rfl (ea_cons (ev_enc datInt (ev_prop (f := (fun (x : Walk × Unit) => m_Walk_runs x.1)) (ev_var (a := walk_0) 0 rfl))) (ea_cons (ev_enc datInt (ev_var (a := b_3.1) 3 rfl)) ea_nil))))) (et_or (et_not (et_val (ev_call0 rfl (ea_cons (ev_enc datStr (ev_prop (f := (fun (x : Walk × Unit) => m_Walk_first x.1)) (ev_var (a := walk_0) 0 rfl))) (ea_cons (ev_enc datStr (ev_var (a := b_9) 6 rfl)) ea_nil))))) (et_not (et_val (ev_call0 rfl (ea_cons (ev_enc datInt (ev_lenI (f := (fun (x : Walk × Unit) => m_Walk___len__ x.1)) (ev_var (a := walk_0) 0 rfl))) (ea_cons (ev_enc datInt (ev_lenL (ev_var (a := signs_0) 2 rfl))) ea_nil))))))) (el_ret ev_bl) (el_seqF (ef_for (α := Str) (r := rStr) (Γ := (fun (b_11 : Unit) => [.val (r_Walk K) walk_0, .val (rList rStr) nodes_0, .val (rList rStr) signs_0, .val rInt b_3.1, .val rStr b_3.2, .any, .val rStr b_9, .any, .any])) (ei_list (ev_fz (en_lst (r := rStr) (ea_lcons (ev_str (by decide +kernel)) (ea_lcons (ev_str (by decide +kernel)) ea_lnil))))) (fun b_11 => (eg_name 7)) (fun direction_12 b_11 => (atEf (cfE K none 0 E) [.val (r_Walk K) walk_0, .val (rList rStr) nodes_0, .val (rList rStr) signs_0, .val rInt b_3.1, .val rStr b_3.2, .any, .val rStr b_9, .val rStr direction_12, .any] (ef_seq (esSet (i := 8) (ev_var (a := b_3.1) 3 rfl)) (fun due_13 => (atEf (cfE K none 0 E) [.val (r_Walk K) walk_0, .val (rList rStr) nodes_0, .val (rList rStr) signs_0, .val rInt b_3.1, .val rStr b_3.2, .any, .val rStr b_9, .val rStr direction_12, .val rInt due_13] (ef_seq (es_if (Γ' := (fun (b_14 : Int) => [.val (r_Walk K) walk_0, .val (rList rStr) nodes_0, .val (rList rStr) signs_0, .val rInt b_3.1, .val rStr b_3.2, .any, .val rStr b_9, .val rStr direction_12, .val rInt b_14])) (et_and (et_test (ev_ne scStr (ev_var (a := b_9) 6 rfl) (ev_str (by decide +kernel)))) (et_test (ev_ne scStr (ev_var (a := b_9) 6 rfl) (ev_var (a := direction_12) 7 rfl)))) (es_wk (esSet (i := 8) (ev_add (ev_var (a := b_3.1) 3 rfl) (ev_int (i := 1)))) (fun due_15 => (.same (.same (.same (.same (.same (.same (.same (.same (.same .nil))))))))))) (es_wk es_pass (fun _ => (.same (.same (.same (.same (.same (.same (.same (.same (.same .nil)))))))))))) (fun b_14 => (atEf (cfE K none 0 E) [.val (r_Walk K) walk_0, .val (rList rStr) nodes_0, .val (rList rStr) signs_0, .val rInt b_3.1, .val rStr b_3.2, .any, .val rStr b_9, .val rStr direction_12, .val rInt b_14] (ef_if (et_not (et_val (ev_call0 rfl (ea_cons (ev_enc datInt (ev_meth (f := fun (x : Walk × Str × Unit) => m_Walk_counted x.1 x.2.1) (hn_Walk K) (by decide +kernel) (ev_var (a := walk_0) 0 rfl) (ea_cons (ev_var (a := direction_12) 7 rfl) ea_nil))) (ea_cons (ev_enc datInt (ev_var (a := b_14) 8 rfl)) ea_nil))))) (ef_ol (el_ret ev_bl)) (ef_of (es_wk es_pass (fun _ => (.same (.same (.same (.same (.same (.same (.same (.any (.any .nil)))))))))))))))))))))) (fun b_11 => (atEl (cfE K none 0 E) [.val (r_Walk K) walk_0, .val (rList rStr) nodes_0, .val (rList rStr) signs_0, .val rInt b_3.1, .val rStr b_3.2, .any, .val rStr b_9, .any, .any] (el_ret ev_bl)))))))))))))))))))))
theorem ok__law_bad_direction (T : Tx P K mg) : FnOk P w K mg base (L2N.CX P w) 3 (He.ga K "_law_bad_direction") T.fd__law_bad_direction ["pool"] (spP K aNil (fun a => m_law_bad_direction ) rStr) := by
  refine okP (n := 0) (j := 1) T.F__law_bad_direction sc__law_bad_direction bd_nil rfl rfl (fun cdv A_ outer s H E hr => ⟨_, (pss_cons (ps_set (i := 1) sc__law_bad_direction.nd rfl (Or.inl rfl) (pe_callSD (ok__law_draw T) (hr.mono (by decide)) (by rfl) T.g__law_draw T.F__law_draw.kp (bi__law_draw T) .nil (fun σ => L2N.passAt (L2N.takes_of rfl rfl rfl rfl) σ) (pa_cons (pv 0) (pa_cons pe_int pa_nil)))) (pss_cons (ps_if (pt_cmpR op_eq (pv 1) pe_int (nomark _)) (pss_one (ps_ret (pe_op op_add_str pe_str (pe_callSD (ok__law_word T) (hr.mono (by decide)) (by rfl) T.g__law_word T.F__law_word.kp (bi__law_word T) .nil (fun σ => L2N.passAt (L2N.takes_of rfl rfl rfl rfl) σ) (pa_cons (pv 0) (pa_cons (pe_op op_add pe_int (pe_callSD (ok__law_draw T) (hr.mono (by decide)) (by rfl) T.g__law_draw T.F__law_draw.kp (bi__law_draw T) .nil (fun σ => L2N.passAt (L2N.takes_of rfl rfl rfl rfl) σ) (pa_cons (pv 0) (pa_cons pe_int pa_nil)))) pa_nil)))))) pss_nil) (pss_one (ps_ret (pe_ix (ix_listK (K := K)) (pe_lst (pa_cons pe_str (pa_cons pe_str (pa_cons pe_str (pa_cons pe_str (pa_cons pe_str (pa_cons pe_str (pa_cons pe_str pa_nil)))))))) (pv 1) (fun _ _ => rfl)))))), ?_⟩)
  rintro q sc ⟨⟩
  show El (cfE K (some q) sc E) _ True [.val rPool q, .any] _ (m_law_bad_direction )
  unfold m_law_bad_direction
  exact (el_seq (esSet (i := 1) (ev_callP 0 rfl rfl (ea_cons (ev_int (i := 8)) ea_nil))) (fun way_1 => (atEl (cfE K (some q) sc E) [.val rPool q, .val rInt way_1] (el_guard (et_test (ev_eq scInt (ev_var (a := way_1) 1 rfl) (ev_int (i := 7)))) (el_ret (ev_catS (ev_str (by decide +kernel)) (ev_callP 0 rfl rfl (ea_cons (ev_add (ev_int (i := 1)) (ev_callP 0 rfl rfl (ea_cons (ev_int (i := 3)) ea_nil))) ea_nil)))) (el_ret (ev_ixL (ev_fz (en_lst (r := rStr) (ea_lcons (ev_str (by decide +kernel)) (ea_lcons (ev_str (by decide +kernel)) (ea_lcons (ev_str (by decide +kernel)) (ea_lcons (ev_str (by decide +kernel)) (ea_lcons (ev_str (by decide +kernel)) (ea_lcons (ev_str (by decide +kernel)) (ea_lcons (ev_str (by decide +kernel)) ea_lnil))))))))) (ev_var (a := way_1) 1 rfl)))))))
theorem ok__law_counted_fault (T : Tx P K mg) : FnOk P w K mg base (L2N.CX P w) 4 (He.ga K "_law_counted_fault") T.fd__law_counted_fault ["walk", "direction"] (spF K (aCons (r_Walk K) (aCons rStr aNil)) (fun a => m_law_counted_fault a.1 a.2.1) (rList (rD K))) := by
  refine okF (n := 2) (j := 2) T.F__law_counted_fault sc__law_counted_fault (bd_cons (bd_cons bd_nil)) rfl rfl (fun cdv A_ outer s H E hr => ⟨_, (pss_cons (L2N.ps_try_as (i := 2) rfl rfl sc__law_counted_fault.nd rfl rfl ⟨rfl, by decide, .inl T.g_KindError⟩ (L2N.takes_of rfl rfl rfl rfl) (fun W pn xe tk po => (pss_one (ps_expr (pe_methS (ok_Walk_counted T) (hr.mono (by decide)) (bi_Walk_counted T) .nil (fun σ => L2N.passAt tk σ) T.cls_Walk T.m_Walk_counted (pv 0) (pa_cons (pv 1) pa_nil))))) (fun a oe cls d pn hz hf => (pss_cons (ps_set (i := 3) sc__law_counted_fault.nd rfl (Or.inl rfl) (pe_lst (pa_cons (pe_callB (call_isX hz hf) (by rfl) T.n_isinstance (by decide +kernel) (pa_cons (pv 2) (pa_cons (pe_bltn (v := .ty "ValueError") (by rfl) T.n_ValueError (by decide +kernel) rfl) pa_nil))) (pa_cons (pe_callB (call_isX hz hf) (by rfl) T.n_isinstance (by decide +kernel) (pa_cons (pv 2) (pa_cons (pe_glob (v := .ref (He.ga K "BadSign")) rfl T.g_BadSign rfl) pa_nil))) (pa_cons (pe_callB (call_isX hz hf) (by rfl) T.n_isinstance (by decide +kernel) (pa_cons (pv 2) (pa_cons (pe_glob (v := .ref (He.ga K "NotListed")) rfl T.g_NotListed rfl) pa_nil))) pa_nil))))) (pss_cons (ps_if (pt_val (pe_callB (call_isX hz hf) (by rfl) T.n_isinstance (by decide +kernel) (pa_cons (pv 2) (pa_cons (pe_glob (v := .ref (He.ga K "BadDirection")) rfl T.g_BadDirection rfl) pa_nil)))) (pss_one (ps_expr (tbmK (K := K) (pe_bm PySem.F.plainAttrs_list PySem.F.slot_list_append PySem.F.type_list_append mt_append (pv 3) (pa_cons (pe_fldX hz hf (pv 2)) pa_nil))))) pss_nil) (pss_one (ps_ret (pv 3))))))) (pss_one (ps_ret (pe_lst pa_nil)))), ?_⟩)
  rintro ⟨walk_0, direction_0, ⟨⟩⟩
  show El (cfE K none 0 E) _ True [.val (r_Walk K) walk_0, .val rStr direction_0, .any, .any] _ (m_law_counted_fault walk_0 direction_0)
  unfold m_law_counted_fault
  exact (el_seqF (ef_tryAs (Γ' := (fun (b_1 : Unit) => [.val (r_Walk K) walk_0, .val rStr direction_0, .any, .any])) (Γs := (fun (b_1 : Unit) => [.val (r_Walk K) walk_0, .val rStr direction_0, .any, .any])) 2 T.et_KindError [.val (r_Walk K) walk_0, .val rStr direction_0, .any, .any] (.same (.same (.same (.same .nil)))) rfl (fun z => List.cons_ne_nil _ _ z) (fun W => (atEf ({ (cfE K none 0 E) with W := W, s := ⟨((cfE K none 0 E)).s.a, [.val (r_Walk K) walk_0, .val rStr direction_0, .any, .any], ((cfE K none 0 E)).s.L⟩ } : Cf) [.val (r_Walk K) walk_0, .val rStr direction_0, .any, .any] (ef_of (es_wk (es_expr (ev_meth (f := fun (x : Walk × Str × Unit) => m_Walk_counted x.1 x.2.1) (hn_Walk K) (by decide +kernel) (ev_var (a := walk_0) 0 rfl) (ea_cons (ev_var (a := direction_0) 1 rfl) ea_nil))) (fun _ => (.same (.same (.same (.same .nil))))))))) (fun a cls d ex => (atEf (Cf.nox (cfE K none 0 E)) [.val (r_Walk K) walk_0, .val rStr direction_0, .val (rX K a cls d) ex, .any] (ef_seq (esNew (i := 3) (en_lst (r := (rD K)) (ea_lcons (ev_enc datBool (ev_isX (tv := .ty "ValueError") (Tv := .type "ValueError") 2 T.ec T.ei_ValueError (fun _ h => h) rfl)) (ea_lcons (ev_enc datBool (ev_isX (tv := .ref (He.ga K "BadSign")) (Tv := .ref (He.ga K "BadSign")) 2 T.ec T.ei_BadSign (fun _ h => h) rfl)) (ea_lcons (ev_enc datBool (ev_isX (tv := .ref (He.ga K "NotListed")) (Tv := .ref (He.ga K "NotListed")) 2 T.ec T.ei_NotListed (fun _ h => h) rfl)) ea_lnil))))) (fun found_2 => (atEf (Cf.nox (cfE K none 0 E)) [.val (r_Walk K) walk_0, .val rStr direction_0, .val (rX K a cls d) ex, .own (oList (rD K)) found_2] (ef_seq (es_if (Γ' := (fun (b_3 : (List PyData)) => [.val (r_Walk K) walk_0, .val rStr direction_0, .val (rX K a cls d) ex, .own (oList (rD K)) b_3])) (et_val (ev_isX (tv := .ref (He.ga K "BadDirection")) (Tv := .ref (He.ga K "BadDirection")) 2 T.ec T.ei_BadDirection (fun _ h => h) rfl)) (es_wk (es_app (l := found_2) 3 rfl (ev_fldX 2 T.ec T.ef_direction rfl)) (fun found_4 => (.same (.same (.same (.same .nil)))))) (es_wk es_pass (fun _ => (.same (.same (.same (.same .nil))))))) (fun b_3 => (atEf (Cf.nox (cfE K none 0 E)) [.val (r_Walk K) walk_0, .val rStr direction_0, .val (rX K a cls d) ex, .own (oList (rD K)) b_3] (ef_ol (elFz (i := 3) rfl (el_ret (ev_var (a := b_3) 3 rfl)))))))))))) (fun _ => rfl)) (fun b_1 => (atEl (cfE K none 0 E) [.val (r_Walk K) walk_0, .val rStr direction_0, .any, .any] (el_ret (ev_fz (en_lst (r := (rD K)) ea_lnil))))))
theorem ok_Walk___init___1 (T : Tx P K mg) : FnOk P w K mg base (L2N.CX P w) 3 (He.fAd K ("Walk", some "__init__")) T.fd_Walk___init__ ["self", "nodes", "signs"] (spI K "Walk" (f_Walk K) (aCons (rList rStr) (aCons (rTup K rStr) aNil)) (fun a => m_Walk___init___1 a.1 a.2.1)) := by
  refine okInit (n := 2) (j := 2) T.F_Walk___init__ sc_Walk___init__ (bd_cons (bd_cons bd_nil)) rfl rfl (fun cdv A_ outer s H E hr => ⟨_, (pss_cons (ps_for (passes_of rfl) rfl (pi_listK (K := K) (pv 1)) (pg_name (i := 3) sc_Walk___init__.nd rfl (Or.inl rfl)) (pss_one (ps_expr (pe_callSD (ok_check_node T) (hr.mono (by decide)) (by rfl) T.g_check_node T.F_check_node.kp (bi_check_node T) .nil (fun σ => L2N.passAt (L2N.takes_of rfl rfl rfl rfl) σ) (pa_cons (pv 3) pa_nil))))) (pss_cons (ps_for (passes_of rfl) rfl (pi_tupK (K := K) (pv 2)) (pg_name (i := 4) sc_Walk___init__.nd rfl (Or.inl rfl)) (pss_one (ps_expr (pe_callSD (ok_check_sign T) (hr.mono (by decide)) (by rfl) T.g_check_sign T.F_check_sign.kp (bi_check_sign T) .nil (fun σ => L2N.passAt (L2N.takes_of rfl rfl rfl rfl) σ) (pa_cons (pv 4) pa_nil))))) (pss_cons (ps_if (pt_cmpR op_ne (pe_callB (call_len_seqK (K := K)) (by rfl) T.n_len PySem.boot_len (pa_cons (pv 2) pa_nil)) (pe_op op_sub (pe_callB (call_len_seqK (K := K)) (by rfl) T.n_len PySem.boot_len (pa_cons (pv 1) pa_nil)) pe_int) (nomark _)) (pss_one (L2N.ps_raise rfl (L2N.takes_of rfl rfl rfl rfl) (pmk1 T.er_BadCount sh_BadCount hr (pa_cons (pe_callB (call_len_seqK (K := K)) (by rfl) T.n_len PySem.boot_len (pa_cons (pv 2) pa_nil)) pa_nil) rfl))) pss_nil) (pss_cons (ps_fld (pv 0) (pe_callTy (call_tuple_ofK (K := K)) (by rfl) T.n_tuple (by decide +kernel) (pa_cons (pv 1) pa_nil)) rfl) (pss_one (ps_fld (pv 0) (pe_callTy (call_tuple_ofK (K := K)) (by rfl) T.n_tuple (by decide +kernel) (pa_cons (pv 2) pa_nil)) rfl)))))), ?_⟩)
  rintro y ⟨nodes_0, signs_0, ⟨⟩⟩
  show El { cfE K none 0 E with s := ⟨0, gSelf y 4, fun _ => none⟩ } _ True [.own (oI (He.ga K "Walk") []) (), .val (rList rStr) nodes_0, .val (rTup K rStr) signs_0, .any, .any] _ (m_Walk___init___1 nodes_0 signs_0)
  unfold m_Walk___init___1
  exact (el_seq (es_for (α := Str) (r := rStr) (Γ := (fun (b_1 : Unit) => [.own (oI (He.ga K "Walk") []) (), .val (rList rStr) nodes_0, .val (rTup K rStr) signs_0, .any, .any])) (ei_list (ev_var (a := nodes_0) 1 rfl)) (fun b_1 => (eg_name 3)) (fun name_2 b_1 => (atEs ({ cfE K none 0 E with s := ⟨0, gSelf y 4, fun _ => none⟩ } : Cf) [.own (oI (He.ga K "Walk") []) (), .val (rList rStr) nodes_0, .val (rTup K rStr) signs_0, .val rStr name_2, .any] (es_wk (es_expr (ev_call (ea_cons (ev_var (a := name_2) 3 rfl) ea_nil))) (fun _ => (.same (.same (.same (.any (.same .nil)))))))))) (fun b_1 => (atEl ({ cfE K none 0 E with s := ⟨0, gSelf y 4, fun _ => none⟩ } : Cf) [.own (oI (He.ga K "Walk") []) (), .val (rList rStr) nodes_0, .val (rTup K rStr) signs_0, .any, .any] (el_seq (es_for (α := Str) (r := rStr) (Γ := (fun (b_3 : Unit) => [.own (oI (He.ga K "Walk") []) (), .val (rList rStr) nodes_0, .val (rTup K rStr) signs_0, .any, .any])) (ei_tup (ev_var (a := signs_0) 2 rfl)) (fun b_3 => (eg_name 4)) (fun sign_4 b_3 => (atEs ({ cfE K none 0 E with s := ⟨0, gSelf y 4, fun _ => none⟩ } : Cf) [.own (oI (He.ga K "Walk") []) (), .val (rList rStr) nodes_0, .val (rTup K rStr) signs_0, .any, .val rStr sign_4] (es_wk (es_expr (ev_call (ea_cons (ev_var (a := sign_4) 4 rfl) ea_nil))) (fun _ => (.same (.same (.same (.same (.any .nil)))))))))) (fun b_3 => (atEl ({ cfE K none 0 E with s := ⟨0, gSelf y 4, fun _ => none⟩ } : Cf) [.own (oI (He.ga K "Walk") []) (), .val (rList rStr) nodes_0, .val (rTup K rStr) signs_0, .any, .any] (el_guard (et_test (ev_ne scInt (ev_lenT (ev_var (a := signs_0) 2 rfl)) (ev_sub (ev_lenL (ev_var (a := nodes_0) 1 rfl)) (ev_int (i := 1))))) (el_raise1 (x := "BadCount") datInt (ev_lenT (ev_var (a := signs_0) 2 rfl))) (el_seq (es_fld 0 T.cls_Walk T.na_Walk_nodes rfl (show ¬ (("nodes" : Str) ∈ ([] : List Str)) by decide +kernel) (show (0 : Nat) < 900 by decide) (ev_tupL (ev_var (a := nodes_0) 1 rfl))) (fun nodes_5 => (atEl ({ cfE K none 0 E with s := ⟨0, gSelf y 4, fun _ => none⟩ } : Cf) [.own (oI (He.ga K "Walk") [⟨"nodes", (rTup K rStr), nodes_5⟩]) (), .val (rList rStr) nodes_0, .val (rTup K rStr) signs_0, .any, .any] (el_last (es_fld 0 T.cls_Walk T.na_Walk_signs rfl (show ¬ (("signs" : Str) ∈ (["nodes"] : List Str)) by decide +kernel) (show (1 : Nat) < 900 by decide) (ev_tupT (ev_var (a := signs_0) 2 rfl))) (fun signs_6 => (atEl ({ cfE K none 0 E with s := ⟨0, gSelf y 4, fun _ => none⟩ } : Cf) [.own (oI (He.ga K "Walk") [⟨"nodes", (rTup K rStr), nodes_5⟩, ⟨"signs", (rTup K rStr), signs_6⟩]) (), .val (rList rStr) nodes_0, .val (rTup K rStr) signs_0, .any, .any] (el_initEnd rfl rfl rfl))))))))))))))
theorem ok__law_counts_kept_1 (T : Tx P K mg) : FnOk P w K mg base (L2N.CX P w) 8 (He.ga K "_law_counts_kept") T.fd__law_counts_kept ["walk", "nodes", "signs"] (spF K (aCons (r_Walk K) (aCons (rList rStr) (aCons (rList rStr) aNil))) (fun a => m_law_counts_kept_1 a.1 a.2.1 a.2.2.1) rBool) := by
  refine okF (n := 3) (j := 6) T.F__law_counts_kept sc__law_counts_kept (bd_cons (bd_cons (bd_cons bd_nil))) rfl rfl (fun cdv A_ outer s H E hr => ⟨_, (pss_cons (ps_set (i := 3) sc__law_counts_kept.nd rfl (Or.inl rfl) pe_int) (pss_cons (ps_set (i := 4) sc__law_counts_kept.nd rfl (Or.inl rfl) pe_str) (pss_cons (ps_for (passes_of rfl) rfl (pi_listK (K := K) (pv 2)) (pg_name (i := 5) sc__law_counts_kept.nd rfl (Or.inl rfl)) (pss_cons (ps_if (pt_cmpR op_ne (pv 5) (pv 4) (nomark _)) (pss_one (ps_set (i := 3) sc__law_counts_kept.nd rfl (Or.inl rfl) (pe_op op_add (pv 3) pe_int))) pss_nil) (pss_one (ps_set (i := 4) sc__law_counts_kept.nd rfl (Or.inl rfl) (pv 5))))) (pss_cons (ps_set (i := 6) sc__law_counts_kept.nd rfl (Or.inl rfl) pe_str) (pss_cons (ps_if (pt_cmpR op_gt (pe_callB (call_len_seqK (K := K)) (by rfl) T.n_len PySem.boot_len (pa_cons (pv 2) pa_nil)) pe_int (nomark _)) (pss_one (ps_set (i := 6) sc__law_counts_kept.nd rfl (Or.inl rfl) (pe_ix (ix_listK (K := K)) (pe_lst (pa_cons pe_str (pa_cons pe_str pa_nil))) (pe_callTy call_int1 (by rfl) T.n_int (by decide +kernel) (pa_cons (pe_cmpR op_eq (pe_ix (ix_listK (K := K)) (pv 2) pe_int (fun _ _ => rfl)) pe_str (nomark _)) pa_nil)) (fun _ _ => rfl)))) pss_nil) (pss_cons (ps_if (PW.pt (pw_or (pt_not (pt_val (pe_callSD (ok__law_same T 6) (hr.mono (by decide)) (by rfl) T.g__law_same T.F__law_same.kp (bi__law_same T) .nil (fun σ => L2N.passAt (L2N.takes_of rfl rfl rfl rfl) σ) (pa_cons (pe_prop (pv 0) T.cls_Walk T.pr_Walk_start (ok_Walk_start T) (hr.mono (by decide)) (bi_Walk_start T) .nil pass_F rfl) (pa_cons (pe_ix (ix_listK (K := K)) (pv 1) pe_int (fun _ _ => rfl)) pa_nil))))) (pw_or1 (pt_not (pt_val (pe_callSD (ok__law_same T 6) (hr.mono (by decide)) (by rfl) T.g__law_same T.F__law_same.kp (bi__law_same T) .nil (fun σ => L2N.passAt (L2N.takes_of rfl rfl rfl rfl) σ) (pa_cons (pe_prop (pv 0) T.cls_Walk T.pr_Walk_end (ok_Walk_end T) (hr.mono (by decide)) (bi_Walk_end T) .nil pass_F rfl) (pa_cons (pe_ix (ix_listK (K := K)) (pv 1) (pe_un un_neg pe_int) (fun _ _ => rfl)) pa_nil)))))))) (pss_one (ps_ret pe_bl)) pss_nil) (pss_cons (ps_if (PW.pt (pw_or (pt_not (pt_val (pe_callSD (ok__law_same T 6) (hr.mono (by decide)) (by rfl) T.g__law_same T.F__law_same.kp (bi__law_same T) .nil (fun σ => L2N.passAt (L2N.takes_of rfl rfl rfl rfl) σ) (pa_cons (pe_prop (pv 0) T.cls_Walk T.pr_Walk_runs (ok_Walk_runs T) (hr.mono (by decide)) (bi_Walk_runs T) .nil pass_F rfl) (pa_cons (pv 3) pa_nil))))) (pw_or (pt_not (pt_val (pe_callSD (ok__law_same T 6) (hr.mono (by decide)) (by rfl) T.g__law_same T.F__law_same.kp (bi__law_same T) .nil (fun σ => L2N.passAt (L2N.takes_of rfl rfl rfl rfl) σ) (pa_cons (pe_prop (pv 0) T.cls_Walk T.pr_Walk_first (ok_Walk_first T) (hr.mono (by decide)) (bi_Walk_first T) .nil pass_F rfl) (pa_cons (pv 6) pa_nil))))) (pw_or1 (pt_not (pt_val (pe_callSD (ok__law_same T 6) (hr.mono (by decide)) (by rfl) T.g__law_same T.F__law_same.kp (bi__law_same T) .nil (fun σ => L2N.passAt (L2N.takes_of rfl rfl rfl rfl) σ) (pa_cons (pe_lenO (ok_Walk___len__ T) (hr.mono (by decide)) (bi_Walk___len__ T) (fun σ => L2N.passAt (L2N.takes_of rfl rfl rfl rfl) σ) T.m_Walk___len__ (by rfl) T.n_len PySem.boot_len (pa_cons (pv 0) pa_nil)) (pa_cons (pe_callB (call_len_seqK (K := K)) (by rfl) T.n_len PySem.boot_len (pa_cons (pv 2) pa_nil)) pa_nil))))))))) (pss_one (ps_ret pe_bl)) pss_nil) (pss_cons (ps_for (passes_of rfl) rfl (pi_listK (K := K) (pe_lst (pa_cons pe_str (pa_cons pe_str pa_nil)))) (pg_name (i := 7) sc__law_counts_kept.nd rfl (Or.inl rfl)) (pss_cons (ps_set (i := 8) sc__law_counts_kept.nd rfl (Or.inl rfl) (pv 3)) (pss_cons (ps_if (PW.pt (pw_and (pt_cmpR op_ne (pv 6) pe_str (nomark _)) (pw_and1 (pt_cmpR op_ne (pv 6) (pv 7) (nomark _))))) (pss_one (ps_set (i := 8) sc__law_counts_kept.nd rfl (Or.inl rfl) (pe_op op_add (pv 3) pe_int))) pss_nil) (pss_one (ps_if (pt_not (pt_val (pe_callSD (ok__law_same T 6) (hr.mono (by decide)) (by rfl) T.g__law_same T.F__law_same.kp (bi__law_same T) .nil (fun σ => L2N.passAt (L2N.takes_of rfl rfl rfl rfl) σ) (pa_cons (pe_methS (ok_Walk_counted T) (hr.mono (by decide)) (bi_Walk_counted T) .nil (fun σ => L2N.passAt (L2N.takes_of rfl rfl rfl rfl) σ) T.cls_Walk T.m_Walk_counted (pv 0) (pa_cons (pv 7) pa_nil)) (pa_cons (pv 8) pa_nil))))) (pss_one (ps_ret pe_bl)) pss_nil))))) (pss_one (ps_ret pe_bl)))))))))), ?_⟩)
  rintro ⟨walk_0, nodes_0, signs_0, ⟨⟩⟩
  show El (cfE K none 0 E) _ True [.val (r_Walk K) walk_0, .val (rList rStr) nodes_0, .val (rList rStr) signs_0, .any, .any, .any, .any, .any, .any] _ (m_law_counts_kept_1 walk_0 nodes_0 signs_0)
  unfold m_law_counts_kept_1
  exact (el_seq (esSet (i := 3) (ev_int (i := 0))) (fun runs_1 => (atEl (cfE K none 0 E) [.val (r_Walk K) walk_0, .val (rList rStr) nodes_0, .val (rList rStr) signs_0, .val rInt runs_1, .any, .any, .any, .any, .any] (el_seq (esSet (i := 4) (ev_str (by decide +kernel))) (fun last_2 => (atEl (cfE K none 0 E) [.val (r_Walk K) walk_0, .val (rList rStr) nodes_0, .val (rList rStr) signs_0, .val rInt runs_1, .val rStr last_2, .any, .any, .any, .any] (el_seq (es_for (α := Str) (r := rStr) (b0 := ((runs_1, last_2) : Int × Str)) (Γ := (fun (b_3 : Int × Str) => [.val (r_Walk K) walk_0, .val (rList rStr) nodes_0, .val (rList rStr) signs_0, .val rInt b_3.1, .val rStr b_3.2, .any, .any, .any, .any])) (ei_list (ev_var (a := signs_0) 2 rfl)) (fun b_3 => (eg_name 5)) (fun sign_4 b_3 => (atEs (cfE K none 0 E) [.val (r_Walk K) walk_0, .val (rList rStr) nodes_0, .val (rList rStr) signs_0, .val rInt b_3.1, .val rStr b_3.2, .val rStr sign_4, .any, .any, .any] (es_seq (es_if (Γ' := (fun (b_5 : Int) => [.val (r_Walk K) walk_0, .val (rList rStr) nodes_0, .val (rList rStr) signs_0, .val rInt b_5, .val rStr b_3.2, .val rStr sign_4, .any, .any, .any])) (et_test (ev_ne scStr (ev_var (a := sign_4) 5 rfl) (ev_var (a := b_3.2) 4 rfl))) (es_wk (esSet (i := 3) (ev_add (ev_var (a := b_3.1) 3 rfl) (ev_int (i := 1)))) (fun runs_6 => (.same (.same (.same (.same (.same (.same (.same (.same (.same .nil))))))))))) (es_wk es_pass (fun _ => (.same (.same (.same (.same (.same (.same (.same (.same (.same .nil)))))))))))) (fun b_5 => (atEs (cfE K none 0 E) [.val (r_Walk K) walk_0, .val (rList rStr) nodes_0, .val (rList rStr) signs_0, .val rInt b_5, .val rStr b_3.2, .val rStr sign_4, .any, .any, .any] (es_wk (esSet (i := 4) (ev_var (a := sign_4) 5 rfl)) (fun last_7 => (.same (.same (.same (.same (.same (.any (.same (.same (.same .nil))))))))))))))))) (fun b_3 => (atEl (cfE K none 0 E) [.val (r_Walk K) walk_0, .val (rList rStr) nodes_0, .val (rList rStr) signs_0, .val rInt b_3.1, .val rStr b_3.2, .any, .any, .any, .any] (el_seq (esSet (i := 6) (ev_str (by decide +kernel))) (fun first_8 => (atEl (cfE K none 0 E) [.val (r_Walk K) walk_0, .val (rList rStr) nodes_0, .val (rList rStr) signs_0, .val rInt b_3.1, .val rStr b_3.2, .any, .val rStr first_8, .any, .any] (el_seq (es_if (Γ' := (fun (b_9 : Str) => [.val (r_Walk K) walk_0, .val (rList rStr) nodes_0, .val (rList rStr) signs_0, .val rInt b_3.1, .val rStr b_3.2, .any, .val rStr b_9, .any, .any])) (et_test (ev_gt (ev_lenL (ev_var (a := signs_0) 2 rfl)) (ev_int (i := 0)))) (es_wk (esSet (i := 6) (ev_ixL (ev_fz (en_lst (r := rStr) (ea_lcons (ev_str (by decide +kernel)) (ea_lcons (ev_str (by decide +kernel)) ea_lnil)))) (ev_intB (ev_eq scStr (ev_ixL (ev_var (a := signs_0) 2 rfl) (ev_int (i := 0))) (ev_str (by decide +kernel)))))) (fun first_10 => (.same (.same (.same (.same (.same (.same (.same (.same (.same .nil))))))))))) (es_wk es_pass (fun _ => (.same (.same (.same (.same (.same (.same (.same (.same (.same .nil)))))))))))) (fun b_9 => (atEl (cfE K none 0 E) [.val (r_Walk K) walk_0, .val (rList rStr) nodes_0, .val (rList rStr) signs_0, .val rInt b_3.1, .val rStr b_3.2, .any, .val rStr b_9, .any, .any] (el_guard (et_or (et_not (et_val (ev_call0 rfl (ea_cons (ev_enc datStr (ev_prop (f := (fun (x : Walk × Unit) => m_Walk_start x.1)) (ev_var (a := walk_0) 0 rfl))) (ea_cons (ev_enc datStr (ev_ixL (ev_var (a := nodes_0) 1 rfl) (ev_int (i := 0)))) ea_nil))))) (et_not (et_val (ev_call0 rfl (ea_cons (ev_enc datStr (ev_prop (f := (fun (x : Walk × Unit) => m_Walk_end x.1)) (ev_var (a := walk_0) 0 rfl))) (ea_cons (ev_enc datStr (ev_ixL (ev_var (a := nodes_0) 1 rfl) (ev_neg (ev_int (i := 1))))) ea_nil)))))) (el_ret ev_bl) (el_guard (et_or (et_not (et_val (ev_call0 rfl (ea_cons (ev_enc datInt (ev_prop (f := (fun (x : Walk × Unit) => m_Walk_runs x.1)) (ev_var (a := walk_0) 0 rfl))) (ea_cons (ev_enc datInt (ev_var (a := b_3.1) 3 rfl)) ea_nil))))) (et_or (et_not (et_val (ev_call0 rfl (ea_cons (ev_enc datStr (ev_prop (f := (fun (x : Walk × Unit) => m_Walk_first x.1)) (ev_var (a := walk_0) 0 rfl))) (ea_cons (ev_enc datStr (ev_var (a := b_9) 6 rfl)) ea_nil))))) (et_not (et_val (ev_call0 rfl (ea_cons (ev_enc datInt (ev_lenI (f := (fun (x : Walk × Unit) => m_Walk___len__ x.1)) (ev_var (a := walk_0) 0 rfl))) (ea_cons (ev_enc datInt (ev_lenL (ev_var (a := signs_0) 2 rfl))) ea_nil))))))) (el_ret ev_bl) (el_seqF (ef_for (α := Str) (r := rStr) (Γ := (fun (b_11 : Unit) => [.val (r_Walk K) walk_0, .val (rList rStr) nodes_0, .val (rList rStr) signs_0, .val rInt b_3.1, .val rStr b_3.2, .any, .val rStr b_9, .any, .any])) (ei_list (ev_fz (en_lst (r := rStr) (ea_lcons (ev_str (by decide +kernel)) (ea_lcons (ev_str (by decide +kernel)) ea_lnil))))) (fun b_11 => (eg_name 7)) (fun direction_12 b_11 => (atEf (cfE K none 0 E) [.val (r_Walk K) walk_0, .val (rList rStr) nodes_0, .val (rList rStr) signs_0, .val rInt b_3.1, .val rStr b_3.2, .any, .val rStr b_9, .val rStr direction_12, .any] (ef_seq (esSet (i := 8) (ev_var (a := b_3.1) 3 rfl)) (fun due_13 => (atEf (cfE K none 0 E) [.val (r_Walk K) walk_0, .val (rList rStr) nodes_0, .val (rList rStr) signs_0, .val rInt b_3.1, .val rStr b_3.2, .any, .val rStr b_9, .val rStr direction_12, .val rInt due_13] (ef_seq (es_if (Γ' := (fun (b_14 : Int) => [.val (r_Walk K) walk_0, .val (rList rStr) nodes_0, .val (rList rStr) signs_0, .val rInt b_3.1, .val rStr b_3.2, .any, .val rStr b_9, .val rStr direction_12, .val rInt b_14])) (et_and (et_test (ev_ne scStr (ev_var (a := b_9) 6 rfl) (ev_str (by decide +kernel)))) (et_test (ev_ne scStr (ev_var (a := b_9) 6 rfl) (ev_var (a := direction_12) 7 rfl)))) (es_wk (esSet (i := 8) (ev_add (ev_var (a := b_3.1) 3 rfl) (ev_int (i := 1)))) (fun due_15 => (.same (.same (.same (.same (.same (.same (.same (.same (.same .nil))))))))))) (es_wk es_pass (fun _ => (.same (.same (.same (.same (.same (.same (.same (.same (.same .nil)))))))))))) (fun b_14 => (atEf (cfE K none 0 E) [.val (r_Walk K) walk_0, .val (rList rStr) nodes_0, .val (rList rStr) signs_0, .val rInt b_3.1, .val rStr b_3.2, .any, .val rStr b_9, .val rStr direction_12, .val rInt b_14] (ef_if (et_not (et_val (ev_call0 rfl (ea_cons (ev_enc datInt (ev_meth (f := fun (x : Walk × Str × Unit) => m_Walk_counted x.1 x.2.1) (hn_Walk K) (by decide +kernel) (ev_var (a := walk_0) 0 rfl) (ea_cons (ev_var (a := direction_12) 7 rfl) ea_nil))) (ea_cons (ev_enc datInt (ev_var (a := b_14) 8 rfl)) ea_nil))))) (ef_ol (el_ret ev_bl)) (ef_of (es_wk es_pass (fun _ => (.same (.same (.same (.same (.same (.same (.same (.any (.any .nil)))))))))))))))))))))) (fun b_11 => (atEl (cfE K none 0 E) [.val (r_Walk K) walk_0, .val (rList rStr) nodes_0, .val (rList rStr) signs_0, .val rInt b_3.1, .val rStr b_3.2, .any, .val rStr b_9, .any, .any] (el_ret ev_bl)))))))))))))))))))))
theorem ok_law (T : Tx P K mg) (hm : ∀ ns : List Int, ns.length ≤ 63 → ∃ p', m_law (pool0 ns) = (.ok true, p')) : FnOk P w K mg base (L2N.CX P w) 9 (He.ga K "law") T.fd_law ["script"] (spLaw K) := by
  refine okLaw (j := 6) T.F_law sc_law rfl rfl hm (fun cdv A_ outer s H E hr => ⟨_, pss_cons (ps_set (i := 1) sc_law.nd rfl (Or.inr rfl) (pe_callSD (ok_pool T) (hr.mono (by decide)) (by rfl) T.g__law_pool T.F__law_pool.kp (bi__law_pool T) .nil (L2N.passAt (L2N.takes_of rfl rfl rfl rfl)) (pa_cons (pv 0) pa_nil))) (pss_cons (ps_set (i := 2) sc_law.nd rfl (Or.inr rfl) (pe_op op_cat (pe_callSD (ok__law_names T) (hr.mono (by decide)) (by rfl) T.g__law_names T.F__law_names.kp (bi__law_names T) .nil (fun σ => L2N.passAt (L2N.takes_of rfl rfl rfl rfl) σ) (pa_cons (pv 1) (pa_cons (pe_op op_add pe_int (pe_callSD (ok__law_draw T) (hr.mono (by decide)) (by rfl) T.g__law_draw T.F__law_draw.kp (bi__law_draw T) .nil (fun σ => L2N.passAt (L2N.takes_of rfl rfl rfl rfl) σ) (pa_cons (pv 1) (pa_cons pe_int pa_nil)))) pa_nil))) (pe_callSD (ok__law_unknowns T) (hr.mono (by decide)) (by rfl) T.g__law_unknowns T.F__law_unknowns.kp (bi__law_unknowns T) .nil (fun σ => L2N.passAt (L2N.takes_of rfl rfl rfl rfl) σ) (pa_cons (pv 1) (pa_cons (pe_callSD (ok__law_draw T) (hr.mono (by decide)) (by rfl) T.g__law_draw T.F__law_draw.kp (bi__law_draw T) .nil (fun σ => L2N.passAt (L2N.takes_of rfl rfl rfl rfl) σ) (pa_cons (pv 1) (pa_cons pe_int pa_nil))) pa_nil))))) (pss_cons (ps_set (i := 3) sc_law.nd rfl (Or.inl rfl) (pe_callSD (ok__law_signs T) (hr.mono (by decide)) (by rfl) T.g__law_signs T.F__law_signs.kp (bi__law_signs T) .nil (fun σ => L2N.passAt (L2N.takes_of rfl rfl rfl rfl) σ) (pa_cons (pv 1) pa_nil))) (pss_cons (ps_setLc (i := 4) (own := [("k", 7)]) (by rfl) sc_law.nd rfl rfl (sw_true rfl rfl rfl (by decide +kernel)) (pi_range1 (by rfl) T.n_range (pa_cons (pe_op op_add (pe_callB (call_len_seqK (K := K)) (by rfl) T.n_len PySem.boot_len (pa_cons (pv 3) pa_nil)) pe_int) pa_nil)) (blkOk_by (N := N_law) (sc := defScope (top 33)) (by decide +kernel)) (fun _ _ _ _ _ => (pg_name (i := 7) sc_law.nd rfl (Or.inl rfl))) (fun _ _ _ _ _ => pts_nil) (fun _ _ _ _ _ => (pe_ix (ix_listK (K := K)) (pv 2) (pe_callSD (ok__law_draw T) (hr.mono (by decide)) (by rfl) T.g__law_draw T.F__law_draw.kp (bi__law_draw T) .nil (fun σ => L2N.passAt takesN σ) (pa_cons (pv 1) (pa_cons (pe_callB (call_len_seqK (K := K)) (by rfl) T.n_len PySem.boot_len (pa_cons (pv 2) pa_nil)) pa_nil))) (fun _ _ => rfl)))) (pss_cons (ps_set (i := 5) sc_law.nd rfl (Or.inl rfl) (pe_makeS T.mk_Walk (ok_Walk___init__ T) (hr.mono (by decide)) (by rfl) T.g_Walk (bi_Walk___init__ T) .nil (fun σ => L2N.passAt (L2N.takes_of rfl rfl rfl rfl) σ) (pa_cons (pe_callTy (call_list_ofK (K := K)) (by rfl) T.n_list (by decide +kernel) (pa_cons (pv 4) pa_nil)) (pa_cons (pe_callTy (call_list_ofK (K := K)) (by rfl) T.n_list (by decide +kernel) (pa_cons (pv 3) pa_nil)) pa_nil)))) (pss_cons (ps_if (pt_not (pt_val (pe_callSD (ok__law_counts_kept T) (hr.mono (by decide)) (by rfl) T.g__law_counts_kept T.F__law_counts_kept.kp (bi__law_counts_kept T) .nil (fun σ => L2N.passAt (L2N.takes_of rfl rfl rfl rfl) σ) (pa_cons (pv 5) (pa_cons (pv 4) (pa_cons (pv 3) pa_nil)))))) (pss_one (ps_ret pe_bl)) pss_nil) (pss_cons (ps_if (PW.pt (pw_and (pt_cmpR op_gt (pe_callB (call_len_seqK (K := K)) (by rfl) T.n_len PySem.boot_len (pa_cons (pv 3) pa_nil)) pe_int (nomark _)) (pw_and1 (pt_not (pt_val (pe_callSD (ok__law_counts_kept T) (hr.mono (by decide)) (by rfl) T.g__law_counts_kept T.F__law_counts_kept.kp (bi__law_counts_kept T) .nil (fun σ => L2N.passAt (L2N.takes_of rfl rfl rfl rfl) σ) (pa_cons (pe_makeS T.mk_Walk (ok_Walk___init__ T) (hr.mono (by decide)) (by rfl) T.g_Walk (bi_Walk___init__ T) .nil (fun σ => L2N.passAt (L2N.takes_of rfl rfl rfl rfl) σ) (pa_cons (pe_slice (sl_listK (K := K)) (pv 4) po_none (po_some (pe_un un_neg pe_int))) (pa_cons (pe_slice (sl_listK (K := K)) (pv 3) po_none (po_some (pe_un un_neg pe_int))) pa_nil))) (pa_cons (pe_slice (sl_listK (K := K)) (pv 4) po_none (po_some (pe_un un_neg pe_int))) (pa_cons (pe_slice (sl_listK (K := K)) (pv 3) po_none (po_some (pe_un un_neg pe_int))) pa_nil))))))))) (pss_one (ps_ret pe_bl)) pss_nil) (pss_cons (ps_for (passes_of rfl) rfl (pi_listK (K := K) (pe_lst (pa_cons pe_str (pa_cons pe_str (pa_cons (pe_op op_add_str (pe_prop (pv 5) T.cls_Walk T.pr_Walk_start (ok_Walk_start T) (hr.mono (by decide)) (bi_Walk_start T) .nil pass_F rfl) pe_str) (pa_cons (pe_callSD (ok__law_bad_direction T) (hr.mono (by decide)) (by rfl) T.g__law_bad_direction T.F__law_bad_direction.kp (bi__law_bad_direction T) .nil (fun σ => L2N.passAt (L2N.takes_of rfl rfl rfl rfl) σ) (pa_cons (pv 1) pa_nil)) pa_nil)))))) (pg_name (i := 6) sc_law.nd rfl (Or.inl rfl)) (pss_one (ps_if (pt_not (pt_val (pe_callSD (ok__law_same T 6) (hr.mono (by decide)) (by rfl) T.g__law_same T.F__law_same.kp (bi__law_same T) .nil (fun σ => L2N.passAt (L2N.takes_of rfl rfl rfl rfl) σ) (pa_cons (pe_callSD (ok__law_counted_fault T) (hr.mono (by decide)) (by rfl) T.g__law_counted_fault T.F__law_counted_fault.kp (bi__law_counted_fault T) .nil (fun σ => L2N.passAt (L2N.takes_of rfl rfl rfl rfl) σ) (pa_cons (pv 5) (pa_cons (pv 6) pa_nil))) (pa_cons (pe_lst (pa_cons pe_bl (pa_cons pe_bl (pa_cons pe_bl (pa_cons (pv 6) pa_nil))))) pa_nil))))) (pss_one (ps_ret pe_bl)) pss_nil))) (pss_cons (ps_if (pt_not (pt_val (pe_callSD (ok__law_counts_kept T) (hr.mono (by decide)) (by rfl) T.g__law_counts_kept T.F__law_counts_kept.kp (bi__law_counts_kept T) .nil (fun σ => L2N.passAt (L2N.takes_of rfl rfl rfl rfl) σ) (pa_cons (pe_makeS T.mk_Walk (ok_Walk___init___1 T) (hr.mono (by decide)) (by rfl) T.g_Walk (bd_Walk___init__ T).choose_spec.2 (bd_Walk___init__ T).choose_spec.1 (fun σ => L2N.passAt (L2N.takes_of rfl rfl rfl rfl) σ) (pa_cons (pe_lst (pa_cons (pe_ix (ix_listK (K := K)) (pv 4) (pe_un un_neg pe_int) (fun _ _ => rfl)) pa_nil)) pa_nil)) (pa_cons (pe_lst (pa_cons (pe_ix (ix_listK (K := K)) (pv 4) (pe_un un_neg pe_int) (fun _ _ => rfl)) pa_nil)) (pa_cons (pe_lst pa_nil) pa_nil)))))) (pss_one (ps_ret pe_bl)) pss_nil) (pss_one (ps_ret (pe_callSD (ok__law_counts_kept T) (hr.mono (by decide)) (by rfl) T.g__law_counts_kept T.F__law_counts_kept.kp (bi__law_counts_kept T) .nil (fun σ => L2N.passAt (L2N.takes_of rfl rfl rfl rfl) σ) (pa_cons (pv 5) (pa_cons (pv 4) (pa_cons (pv 3) pa_nil)))))))))))))), fun q sc => ?_⟩)
  show El (cfE K (some q) sc E) _ True [.any, .val rPool q, .any, .any, .any, .any, .any, .any] _ m_law
  unfold m_law
  exact (el_seq (esSet (i := 2) (ev_fz (en_cat (ev_callP 1 rfl rfl (ea_cons (ev_add (ev_int (i := 1)) (ev_callP 1 rfl rfl (ea_cons (ev_int (i := 4)) ea_nil))) ea_nil)) (ev_callP 1 rfl rfl (ea_cons (ev_callP 1 rfl rfl (ea_cons (ev_int (i := 4)) ea_nil)) ea_nil))))) (fun menu_1 => (atEl (cfE K (some q) sc E) [.any, .val rPool q, .val (rList rStr) menu_1, .any, .any, .any, .any, .any] (el_seq (esSet (i := 3) (ev_callP 1 rfl rfl ea_nil)) (fun signs_2 => (atEl (cfE K (some q) sc E) [.any, .val rPool q, .val (rList rStr) menu_1, .val (rList rStr) signs_2, .any, .any, .any, .any] (el_seq (esSet (i := 4) (ev_fz (en_lcE (vs := [7]) (ru := rInt) (r := rStr) (ei_r1 (ev_add (ev_lenL (ev_var (a := signs_2) 3 rfl)) (ev_int (i := 1)))) (eg_name 7) (by decide) (fun k_3 => (atEv (Cf.nox (cfE K (some q) sc E)) [.any, .val rPool q, .val (rList rStr) menu_1, .val (rList rStr) signs_2, .any, .any, .any, .val rInt k_3] (ev_ixL (ev_var (a := menu_1) 2 rfl) (ev_callP 1 rfl rfl (ea_cons (ev_lenL (ev_var (a := menu_1) 2 rfl)) ea_nil)))))))) (fun nodes_4 => (atEl (cfE K (some q) sc E) [.any, .val rPool q, .val (rList rStr) menu_1, .val (rList rStr) signs_2, .val (rList rStr) nodes_4, .any, .any, .any] (el_seq (esSet (i := 5) (ev_make (x := "Walk") (fl := f_Walk K) (ea_cons (ev_fz (en_listL (ev_var (a := nodes_4) 4 rfl))) (ea_cons (ev_fz (en_listL (ev_var (a := signs_2) 3 rfl))) ea_nil)))) (fun walk_5 => (atEl (cfE K (some q) sc E) [.any, .val rPool q, .val (rList rStr) menu_1, .val (rList rStr) signs_2, .val (rList rStr) nodes_4, .val (r_Walk K) walk_5, .any, .any] (el_guard (et_not (et_val (ev_call (ea_cons (ev_var (a := walk_5) 5 rfl) (ea_cons (ev_var (a := nodes_4) 4 rfl) (ea_cons (ev_var (a := signs_2) 3 rfl) ea_nil)))))) (el_ret ev_bl) (el_guard (et_and (et_test (ev_gt (ev_lenL (ev_var (a := signs_2) 3 rfl)) (ev_int (i := 0)))) (et_not (et_val (ev_call (ea_cons (ev_make (x := "Walk") (fl := f_Walk K) (ea_cons (ev_fz (en_slL (ev_var (a := nodes_4) 4 rfl) eo_none (eo_some (ev_neg (ev_int (i := 1)))))) (ea_cons (ev_fz (en_slL (ev_var (a := signs_2) 3 rfl) eo_none (eo_some (ev_neg (ev_int (i := 1)))))) ea_nil))) (ea_cons (ev_fz (en_slL (ev_var (a := nodes_4) 4 rfl) eo_none (eo_some (ev_neg (ev_int (i := 1)))))) (ea_cons (ev_fz (en_slL (ev_var (a := signs_2) 3 rfl) eo_none (eo_some (ev_neg (ev_int (i := 1)))))) ea_nil))))))) (el_ret ev_bl) (el_seqF (ef_for (α := Str) (r := rStr) (Γ := (fun (b_6 : Unit) => [.any, .val rPool q, .val (rList rStr) menu_1, .val (rList rStr) signs_2, .val (rList rStr) nodes_4, .val (r_Walk K) walk_5, .any, .any])) (ei_list (ev_fz (en_lst (r := rStr) (ea_lcons (ev_str (by decide +kernel)) (ea_lcons (ev_str (by decide +kernel)) (ea_lcons (ev_catS (ev_prop (f := (fun (x : Walk × Unit) => m_Walk_start x.1)) (ev_var (a := walk_5) 5 rfl)) (ev_str (by decide +kernel))) (ea_lcons (ev_callP 1 rfl rfl ea_nil) ea_lnil))))))) (fun b_6 => (eg_name 6)) (fun bad_7 b_6 => (atEf (cfE K (some q) sc E) [.any, .val rPool q, .val (rList rStr) menu_1, .val (rList rStr) signs_2, .val (rList rStr) nodes_4, .val (r_Walk K) walk_5, .val rStr bad_7, .any] (ef_if (et_not (et_val (ev_call (ea_cons (ev_enc (datList datD) (ev_call (ea_cons (ev_var (a := walk_5) 5 rfl) (ea_cons (ev_var (a := bad_7) 6 rfl) ea_nil)))) (ea_cons (ev_enc (datList datD) (ev_fz (en_lst (r := (rD K)) (ea_lcons (ev_enc datBool ev_bl) (ea_lcons (ev_enc datBool ev_bl) (ea_lcons (ev_enc datBool ev_bl) (ea_lcons (ev_enc datStr (ev_var (a := bad_7) 6 rfl)) ea_lnil))))))) ea_nil))))) (ef_ol (el_ret ev_bl)) (ef_of (es_wk es_pass (fun _ => (.same (.same (.same (.same (.same (.same (.any (.same .nil))))))))))))))) (fun b_6 => (atEl (cfE K (some q) sc E) [.any, .val rPool q, .val (rList rStr) menu_1, .val (rList rStr) signs_2, .val (rList rStr) nodes_4, .val (r_Walk K) walk_5, .any, .any] (el_guard (et_not (et_val (ev_call (ea_cons (ev_makeD (x := "Walk") (fl := f_Walk K) (f := (fun (a : (List Str) × (List Str) × Unit) => m_Walk___init___1 a.1 a.2.1)) (fun (a : (List Str) × Unit) => (a.1, [], ())) T.dc_Walk___init___1 (ea_cons (ev_fz (en_lst (r := rStr) (ea_lcons (ev_ixL (ev_var (a := nodes_4) 4 rfl) (ev_neg (ev_int (i := 1)))) ea_lnil))) ea_nil)) (ea_cons (ev_fz (en_lst (r := rStr) (ea_lcons (ev_ixL (ev_var (a := nodes_4) 4 rfl) (ev_neg (ev_int (i := 1)))) ea_lnil))) (ea_cons (ev_fz (en_lst (r := rStr) ea_lnil)) ea_nil)))))) (el_ret ev_bl) (el_ret (ev_call (ea_cons (ev_var (a := walk_5) 5 rfl) (ea_cons (ev_var (a := nodes_4) 4 rfl) (ea_cons (ev_var (a := signs_2) 3 rfl) ea_nil)))))))))))))))))))))))
end
end My

namespace My
open PySem PySem.Spec L2 Kf
open PyProof.Rows hiding St
theorem draw_okW (b : Int) (hb : 2 ≤ b → b.natAbs.log2 < 9000) : Dr (m_law_draw b) (fun v => 0 ≤ v ∧ (2 ≤ b → v < b) ∧ (b < 2 → v = 0)) := by
  unfold m_law_draw
  simp only [pure_bind, bind_assoc]
  refine Dr.ite (fun h => .pure ?_) fun h => ?_
  · simp only [decide_eq_true_eq] at h
    omega
  simp only [decide_eq_true_eq] at h
  have hm : ∀ x : Int, Dr (modM x b) (fun v => 0 ≤ v ∧ (2 ≤ b → v < b) ∧ (b < 2 → v = 0)) := fun x => by
    rw [modM_ok (by omega)]
    exact .pure ⟨Int.emod_nonneg _ (by omega), fun _ => Int.emod_lt_of_pos _ (by omega), fun h => by omega⟩
  refine .bind (.poolGet 3) fun x _ => .bind (Q := fun x => x = .nx () ∨ x = .rt 0) (.ite (fun _ => .item (.pure (.inr rfl)) fun v => ?_) fun _ => .pure (.inl rfl)) fun x hx => ?_
  · refine .bind (.poolSet 2 (by omega)) fun _ _ => .bind (.poolGet 1) fun w hw => .bind (.poolSet 1 fun _ => by have := hw rfl; omega) fun _ _ => .bind (.poolSet 3 (by omega)) fun _ _ => .bind (.poolSet 4 (by omega)) fun _ _ => .bind (.poolGet 2) fun _ _ => ?_
    rw [powM_ok (by decide), pure_bind]
    exact .bind (.ite (fun _ => .bind (.poolSet 3 (by omega)) fun _ _ => .bind (.poolSet 4 (by omega)) fun _ _ => .pure trivial) fun _ => .pure trivial) fun _ (_ : True) => .pure (.inl rfl)
  rcases hx with rfl | rfl
  · refine .bind (.poolGet 3) fun _ _ => .bind (.poolSet 3 (by omega)) fun _ _ => .bind (.poolGet 4) fun _ _ => .ite (fun _ => ?_) fun _ => ?_
    · refine .bind (.poolGet 2) fun y _ => .bind (hm y) fun z hz => .bind (.poolGet 2) fun _ _ => ?_
      rw [divM_okW (by omega) (hb (by omega)), pure_bind]
      exact .bind (.poolSet 2 (by omega)) fun _ _ => .bind (.poolGet 2) fun _ _ => .bind (.ite (fun _ => .bind (.poolSet 3 (by omega)) fun _ _ => .pure trivial) fun _ => .pure trivial) fun _ (_ : True) => .pure hz
    · refine .bind (.poolGet 2) fun y _ => ?_
      simp only [modM_ok (show (0 : Int) < 1000003 by decide), modM_ok (show (0 : Int) < 2147483647 by decide), modM_ok (show (0 : Int) < 2147483399 by decide), mulM_r (show -(2 ^ 64 : Int) < 48271 by decide) (by decide), mulM_r (show -(2 ^ 64 : Int) < 69621 by decide) (by decide), mulM_r (show -(2 ^ 64 : Int) < 7919 by decide) (by decide), mulM_r (show -(2 ^ 64 : Int) < 40692 by decide) (by decide), mulM_r (show -(2 ^ 64 : Int) < 31 by decide) (by decide), divM_ok (show (0 : Int) < 9 by decide) (by decide), pure_bind]
      exact .bind (.poolGet 3) fun _ _ => .bind (.poolGet 1) fun _ _ => hm _
  · exact .pure ⟨Int.le_refl 0, fun _ => by omega, fun _ => rfl⟩
theorem draw_ok (b : Int) (hb : b < 1073741824) : Dr (m_law_draw b) (fun v => 0 ≤ v ∧ (2 ≤ b → v < b) ∧ (b < 2 → v = 0)) := draw_okW b fun h => log2_small (by omega) hb
/-- a drawn sign of a text -/
theorem Dr.pick (x : Str) (b : Int) (h0 : 2 ≤ b) (h1 : b ≤ x.length) (h2 : b < 1073741824) {β : Type} {f : Str → PM β} {R : β → Prop} (k : ∀ c, c ∈ tx x → Dr (f (chr1 c)) R) : Dr (m_law_draw b >>= fun i => getS x i >>= f) R :=
  .bind (draw_ok b h2) fun i hi => by
    have := hi.2.1 h0
    rw [getS_sgn hi.1 (by omega), pure_bind]
    exact k _ (sgn_mem (by have := hi.1; omega))
theorem word_ok (n : Int) (hn : 0 ≤ n) (h : n ≤ 1000000) : Dr (m_law_word n) (fun x => WD x ∧ x.length = max 1 n.toNat) := by
  unfold m_law_word
  simp only [pure_bind, bind_assoc, bind_pure]
  refine Dr.pick _ _ (by decide) (by decide +kernel) (by decide) fun c hc => ?_
  rw [rangeM_ok (by decide) (by decide) (by omega) (by omega), pure_bind]
  refine (Dr.forAn (I := fun k b => WD b ∧ b.length = k + 1) (n := (irange 0 (n - 1)).length) (k := 0) rfl ⟨WD.chr hc, rfl⟩ fun a ha j b hj hb => Dr.pick _ _ (by decide) (by decide +kernel) (by decide) fun c hc => ?_).imp fun x hx => ?_
  · rw [irange_length] at hj
    show Dr (catS b (chr1 c)) _
    rw [catS_ok (by rw [len_chr1]; omega)]
    exact .pure ⟨hb.1.appc hc, by rw [len_app, len_chr1]; omega⟩
  · rw [irange_length] at hx
    exact ⟨hx.1, by omega⟩
theorem fresh_ok (w : Str) (names : List Str) (h : w.length ≤ 20 ∨ w.length = 24) (hn : names.length ≤ 90) (hw : WD w) : ∃ x, m_law_fresh w names = pure x ∧ x ∉ names ∧ KN x := by
  unfold m_law_fresh
  simp only [pure_bind, bind_assoc, bind_pure]
  rw [rangeM_ok (by decide) (by decide) (by omega) (by omega), pure_bind]
  have hlen : (cutS w none (some 20)).length ≤ 20 := by
    rw [len_tx, show tx (cutS w none (some 20)) = (tx w).take 20 from tx_take_any (i := 20), List.length_take]; omega
  have step : ∀ k ∈ irange 0 ((names.length : Int) + 1), ∀ (f : Str → PM (Fl Unit Str)), ((if decide (0 < k) = true then strM k >>= fun a => catS (cutS w none (some 20)) a else pure w) >>= f) = f (cand w k.toNat) := fun k hk f => by
    rw [mem_irange] at hk
    obtain ⟨j, rfl⟩ : ∃ j : Nat, k = (j : Int) := ⟨k.toNat, by omega⟩
    by_cases h0 : 0 < j
    · have l := strI_tab j (List.mem_range.mpr (by omega))
      rw [if_pos (by simp; omega), strM_ok (by omega), pure_bind, catS_ok (by omega), pure_bind, Int.toNat_natCast]
      unfold cand
      rw [if_pos h0]
    · rw [if_neg (by simp; omega), pure_bind, Int.toNat_natCast]
      unfold cand
      rw [if_neg h0]
  obtain ⟨k, hk, ht, e⟩ := forF_first (ρ := Str) (f := fun k_2 b_1 => (if decide (0 < k_2) = true then strM k_2 >>= fun a => catS (cutS w none (some 20)) a else pure w) >>= fun x => if (!decide (x ∈ names)) = true then pure (Fl.rt x) else pure (Fl.nx ())) (t := fun k => cand w k.toNat ∉ names) (r := fun k => cand w k.toNat) (l := irange 0 ((names.length : Int) + 1))
    (fun a ha ht => by
      show ((if decide (0 < a) = true then strM a >>= fun a => catS (cutS w none (some 20)) a else pure w) >>= _) = _
      rw [step a ha, if_pos (by simp [ht])])
    (fun a ha ht => by
      show ((if decide (0 < a) = true then strM a >>= fun a => catS (cutS w none (some 20)) a else pure w) >>= _) = _
      rw [step a ha, if_neg (by simpa using ht)])
    (fresh_has h hn)
  refine ⟨cand w k.toNat, ?_, ht, ?_⟩
  · rw [e]
    rfl
  · rw [mem_irange] at hk
    unfold cand
    by_cases h0 : 0 < k.toNat
    · rw [if_pos h0]
      have l := strI_tab k.toNat (List.mem_range.mpr (by omega))
      exact ⟨(hw.take (i := 20) (by decide)).app l.2.2, by rw [len_app]; omega⟩
    · rw [if_neg h0]
      exact ⟨hw, by omega⟩
/-- what a fresh name is -/
theorem fresh_find (w : Str) (names : List Str) (h : w.length ≤ 1000) (hn : names.length ≤ 90) : m_law_fresh w names = match (irange 0 ((names.length : Int) + 1)).find? fun k => !decide (cand w k.toNat ∈ names) with | some k => pure (cand w k.toNat) | none => pure w := by
  unfold m_law_fresh
  simp only [pure_bind, bind_assoc, bind_pure]
  rw [rangeM_ok (by decide) (by decide) (by omega) (by omega), pure_bind]
  have hlen : (cutS w none (some 20)).length ≤ 20 := by
    rw [len_tx, show tx (cutS w none (some 20)) = (tx w).take 20 from tx_take_any (i := 20), List.length_take]; omega
  have step : ∀ k ∈ irange 0 ((names.length : Int) + 1), ∀ (f : Str → PM (Fl Unit Str)), ((if decide (0 < k) = true then strM k >>= fun a => catS (cutS w none (some 20)) a else pure w) >>= f) = f (cand w k.toNat) := fun k hk f => by
    rw [mem_irange] at hk
    obtain ⟨j, rfl⟩ : ∃ j : Nat, k = (j : Int) := ⟨k.toNat, by omega⟩
    by_cases h0 : 0 < j
    · have l := strI_tab j (List.mem_range.mpr (by omega))
      rw [if_pos (by simp; omega), strM_ok (by omega), pure_bind, catS_ok (by omega), pure_bind, Int.toNat_natCast]
      unfold cand
      rw [if_pos h0]
    · rw [if_neg (by simp; omega), pure_bind, Int.toNat_natCast]
      unfold cand
      rw [if_neg h0]
  have key : ∀ l : List Int, (∀ k ∈ l, k ∈ irange 0 ((names.length : Int) + 1)) → (forF (fun k_2 (b_1 : Unit) => (if decide (0 < k_2) = true then strM k_2 >>= fun a => catS (cutS w none (some 20)) a else pure w) >>= fun x => if (!decide (x ∈ names)) = true then pure (Fl.rt x) else pure (Fl.nx ())) l () >>= orElse fun b_1 => pure w) = match l.find? fun k => !decide (cand w k.toNat ∈ names) with | some k => pure (cand w k.toNat) | none => pure w := by
    intro l
    induction l with
    | nil => intro _; rfl
    | cons a l ih =>
      intro hl
      have e : forF (fun k_2 (b_1 : Unit) => (if decide (0 < k_2) = true then strM k_2 >>= fun a => catS (cutS w none (some 20)) a else pure w) >>= fun x => if (!decide (x ∈ names)) = true then pure (Fl.rt x) else pure (Fl.nx ())) (a :: l) () = ((if decide (0 < a) = true then strM a >>= fun a => catS (cutS w none (some 20)) a else pure w) >>= fun x => if (!decide (x ∈ names)) = true then pure (Fl.rt x) else pure (Fl.nx ())) >>= andThen fun b' => forF (fun k_2 (b_1 : Unit) => (if decide (0 < k_2) = true then strM k_2 >>= fun a => catS (cutS w none (some 20)) a else pure w) >>= fun x => if (!decide (x ∈ names)) = true then pure (Fl.rt x) else pure (Fl.nx ())) l b' := rfl
      rw [e, step a (hl a List.mem_cons_self), List.find?_cons]
      cases c : !decide (cand w a.toNat ∈ names) with
      | true => rfl
      | false =>
        rw [if_neg (by simp)]
        show (pure (Fl.nx ()) >>= andThen _) >>= _ = _
        rw [pure_bind, andThen_nx]
        exact ih fun k hk => hl k (List.mem_cons_of_mem _ hk)
  exact key _ fun k hk => hk
theorem fresh_is {w : Str} {names : List Str} (h : w.length ≤ 1000) (hn : names.length ≤ 90) : ∃ x, m_law_fresh w names = pure x ∧ (x = w ∨ (w ∈ names ∧ x.length ≤ min 20 w.length + 2)) := by
  rw [fresh_find w names h hn]
  cases e : (irange 0 ((names.length : Int) + 1)).find? fun k => !decide (cand w k.toNat ∈ names) with
  | none => exact ⟨w, rfl, .inl rfl⟩
  | some k =>
    refine ⟨_, rfl, ?_⟩
    have hk := mem_irange.mp (List.mem_of_find?_eq_some e)
    by_cases h0 : 0 < k.toNat
    · refine .inr ⟨?_, ?_⟩
      · obtain ⟨_, as, bs, el, ha⟩ := List.find?_eq_some_iff_append.mp e
        have e0 : irange 0 ((names.length : Int) + 1) = 0 :: irange 1 ((names.length : Int) + 1) := by
          unfold irange
          rw [show ((names.length : Int) + 1 - 0).toNat = ((names.length : Int) + 1 - 1).toNat + 1 by omega, List.range_succ_eq_map, List.map_cons, List.map_map]
          congr 1
          refine List.map_congr_left fun i _ => ?_
          simp only [Function.comp]
          omega
        rw [e0] at el
        cases as with
        | nil =>
          injection el with z _
          omega
        | cons x as =>
          injection el with z _
          have := ha x List.mem_cons_self
          rw [← z] at this
          have : cand w 0 ∈ names := by simpa using this
          exact this
      · have l := strI_tab k.toNat (List.mem_range.mpr (by omega))
        have hc : (cutS w none (some 20)).length = min 20 w.length := by
          rw [len_tx, show tx (cutS w none (some 20)) = (tx w).take 20 from tx_take_any (i := 20), List.length_take, ← len_tx]
        unfold cand
        rw [if_pos h0, len_app, hc]
        omega
    · left
      unfold cand
      rw [if_neg h0]
/-- a name of 21 to 23 signs stands beside one of 24 -/
def LongOk (l : List Str) : Prop := (∃ x ∈ l, 21 ≤ x.length ∧ x.length ≤ 23) → ∃ x ∈ l, x.length = 24
theorem names_okL (n : Int) (h0 : 0 ≤ n) (h : n ≤ 26) : Dr (m_law_names n) (fun l => (l.length = n.toNat ∧ l.Nodup ∧ ∀ x ∈ l, KN x) ∧ LongOk l) := by
  obtain ⟨m, rfl⟩ : ∃ m : Nat, n = (m : Int) := ⟨n.toNat, by omega⟩
  unfold m_law_names
  simp only [pure_bind, bind_assoc, bind_pure]
  refine .bind (draw_ok 2 (by decide)) fun _ _ => .ite (fun _ => ?_) fun _ => ?_
  · refine .bind (draw_ok 6 (by decide)) fun s hs => .bind (word_ok (1 + s) (by omega) (by have := hs.2.1; omega)) fun stem hstem => .bind (draw_ok _ (by have := hs.2.1; omega)) fun p hp => .bind (draw_ok 26 (by decide)) fun sh hsh => ?_
    have hs1 := hs.2.1 (by decide)
    have hsh1 := hsh.2.1 (by decide)
    obtain ⟨hstem1, hstem2⟩ := hstem
    have hp1 : p ≤ stem.length := by have := hp.2.1; have := hp.2.2; omega
    obtain ⟨i, rfl⟩ : ∃ i : Nat, p = (i : Int) := ⟨p.toNat, by omega⟩
    have hi : i ≤ stem.length := by omega
    rw [rangeM_ok (by decide) (by decide) (by omega) (by omega), pure_bind]
    let L : Nat → Nat := fun k => sgn (Str.ofString "abcdefghijklmnopqrstuvwxyz") ((3 * (k : Int) + sh) % 26).toNat
    let nm : Nat → Str := fun k => (cutS stem none (some (i : Int)) ++ chr1 (L k)) ++ cutS stem (some (i : Int)) none
    have hL : ∀ k, L k ∈ AZ := fun k => sgn_mem (x := Str.ofString "abcdefghijklmnopqrstuvwxyz") (by
      rw [show (Str.ofString "abcdefghijklmnopqrstuvwxyz").length = 26 by decide +kernel]
      omega)
    have htx : ∀ k, tx (nm k) = (tx stem).take i ++ L k :: (tx stem).drop i := fun k => by
      show tx ((cutS stem none (some (i : Int)) ++ chr1 (L k)) ++ cutS stem (some (i : Int)) none) = _
      rw [tx_app, tx_app, tx_take hi, tx_drop hi, tx_chr1]
      simp
    have hAZnd : AZ.Nodup := by decide +kernel
    have hAZlen : AZ.length = 26 := by decide +kernel
    have hLinj : ∀ a b, a < 26 → b < 26 → L a = L b → a = b := fun a b ha hb e => by
      have ga : ∀ k : Nat, ∃ h : ((3 * (k : Int) + sh) % 26).toNat < AZ.length, L k = AZ[((3 * (k : Int) + sh) % 26).toNat] := fun k => by
        have : ((3 * (k : Int) + sh) % 26).toNat < AZ.length := by rw [hAZlen]; omega
        refine ⟨this, ?_⟩
        show (tx (Str.ofString "abcdefghijklmnopqrstuvwxyz")).getD _ 0 = _
        rw [List.getD_eq_getElem?_getD]
        show (AZ[_]?).getD 0 = _
        rw [List.getElem?_eq_getElem this]
        rfl
      obtain ⟨ha1, ea⟩ := ga a
      obtain ⟨hb1, eb⟩ := ga b
      rw [ea, eb] at e
      have := (List.getElem_inj hAZnd).mp e
      omega
    have hKN : ∀ k, KN (nm k) := fun k => by
      constructor
      · constructor
        · rcases Nat.eq_zero_or_pos i with rfl | hi0
          · exact ⟨L k, hL k, _, by rw [htx]; rfl⟩
          · obtain ⟨⟨c, hc, t, e⟩, _⟩ := hstem1
            refine ⟨c, hc, t.take (i - 1) ++ L k :: (tx stem).drop i, ?_⟩
            rw [htx, e]
            obtain ⟨j, rfl⟩ : ∃ j, i = j + 1 := ⟨i - 1, by omega⟩
            simp
        · intro d hd
          rw [htx] at hd
          rcases List.mem_append.mp hd with z | z
          · exact hstem1.2 d (List.mem_of_mem_take z)
          · rcases List.mem_cons.mp z with rfl | z
            · exact AZ_AN _ (hL k)
            · exact hstem1.2 d (List.mem_of_mem_drop z)
      · rw [len_tx, htx]
        rw [len_tx] at hstem2 hi
        simp
        omega
    refine (Dr.forR (n := m) (I := fun j b => b.length = j ∧ b.Nodup ∧ ∀ x ∈ b, ∃ k, k < j ∧ x = nm k) ⟨rfl, List.nodup_nil, by simp⟩ fun j hj b hb => ?_).imp fun l hl => ⟨⟨by rw [hl.1]; omega, hl.2.1, fun x hx => by
      obtain ⟨k, _, rfl⟩ := hl.2.2 x hx
      exact hKN k⟩, fun ⟨x, hx, z1, _⟩ => by
      obtain ⟨k, _, rfl⟩ := hl.2.2 x hx
      rw [len_tx, htx] at z1
      rw [len_tx] at hstem2 hi
      simp at z1
      omega⟩
    have l1 : (cutS stem none (some (i : Int))).length = i := by rw [len_tx, tx_take hi, List.length_take, ← len_tx]; omega
    have l2 : (cutS stem (some (i : Int)) none).length ≤ 24 := by rw [len_tx, tx_drop hi, List.length_drop, ← len_tx]; omega
    rw [mulM_r (by omega) (by omega), pure_bind, modM_ok (by decide), pure_bind, getS_sgn (by omega) (by
      rw [show (Str.ofString "abcdefghijklmnopqrstuvwxyz").length = 26 by decide +kernel]
      omega), pure_bind, catS_ok (by rw [len_chr1]; omega), pure_bind, catS_ok (by rw [len_app, len_chr1]; omega), pure_bind, appM_ok (by omega)]
    obtain ⟨h1, h2, h3⟩ := hb
    refine .pure ⟨by rw [List.length_append, h1]; rfl, ?_, fun x hx => ?_⟩
    · rw [List.nodup_append]
      refine ⟨h2, by simp, fun x hx y hy e => ?_⟩
      have hy : y = nm j := by simpa using hy
      obtain ⟨k, hk, rfl⟩ := h3 x hx
      subst hy
      have e2 := congrArg tx e
      rw [htx, htx] at e2
      have e3 := List.append_cancel_left e2
      injection e3 with e4 _
      have := hLinj k j (by omega) (by omega) e4
      omega
    · rcases List.mem_append.mp hx with z | z
      · obtain ⟨k, hk, rfl⟩ := h3 x z
        exact ⟨k, by omega, rfl⟩
      · have : x = nm j := by simpa using z
        exact ⟨j, by omega, this⟩
  · rw [rangeM_ok (by decide) (by decide) (by omega) (by omega), pure_bind]
    refine (Dr.forR (n := m) (I := fun j b => (b.length = j ∧ b.Nodup ∧ ∀ x ∈ b, KN x) ∧ LongOk b) ⟨⟨rfl, List.nodup_nil, by simp⟩, by rintro ⟨x, hx, _⟩; simp at hx⟩ fun j hj b hb => ?_).imp fun l hl => ⟨⟨by rw [hl.1.1]; omega, hl.1.2⟩, hl.2⟩
    obtain ⟨⟨h1, h2, h3⟩, hL⟩ := hb
    refine .bind (draw_ok 5 (by decide)) fun s hs => .bind (draw_ok 9 (by decide)) fun q hq => ?_
    have hs1 := hs.2.1 (by decide)
    have main : ∀ z : Int, (1 ≤ z ∧ z ≤ 18 ∨ z = 24) → Dr (noX (m_law_word z >>= fun a => frame (m_law_fresh a b)) >>= fun x => appM b x) (fun b => (b.length = j + 1 ∧ b.Nodup ∧ ∀ x ∈ b, KN x) ∧ LongOk b) := fun z hz => by
      refine .bind (Q := fun x => (x ∉ b ∧ KN x) ∧ (21 ≤ x.length ∧ x.length ≤ 23 → ∃ y ∈ b, y.length = 24)) (.noX (.bind (word_ok z (by omega) (by omega)) fun w hw => ?_)) fun x hx => ?_
      · obtain ⟨x, e, h4, h5⟩ := fresh_ok w b (by omega) (by omega) hw.1
        obtain ⟨x', e', hx'⟩ := fresh_is (w := w) (names := b) (by omega) (by omega)
        obtain rfl : x = x' := by
          rw [e] at e'
          have := congrFun e' (pool0 [])
          injection this with this
          injection this
        rw [e, frame_pure]
        refine .pure ⟨⟨h4, h5⟩, fun hl => ?_⟩
        rcases hx' with rfl | ⟨k1, k2⟩
        · omega
        · exact ⟨w, k1, by omega⟩
      · obtain ⟨hx, hxl⟩ := hx
        rw [appM_ok (by omega)]
        refine .pure ⟨⟨by rw [List.length_append, h1]; rfl, ?_, fun y hy => ?_⟩, fun ⟨y, hy, hyl⟩ => ?_⟩
        · rw [List.nodup_append]
          refine ⟨h2, by simp, fun u hu v hv e => ?_⟩
          have hv : v = x := by simpa using hv
          subst hv e
          exact hx.1 hu
        · rcases List.mem_append.mp hy with z | z
          · exact h3 y z
          · have : y = x := by simpa using z
            subst this; exact hx.2
        · rcases List.mem_append.mp hy with z | z
          · obtain ⟨u, hu, hl⟩ := hL ⟨y, z, hyl⟩
            exact ⟨u, List.mem_append_left _ hu, hl⟩
          · have : y = x := by simpa using z
            subst this
            obtain ⟨u, hu, hl⟩ := hxl hyl
            exact ⟨u, List.mem_append_left _ hu, hl⟩
    exact .bind (Q := fun z => z = 24 ∨ z = 1 + s) (.ite (fun _ => .pure (.inl rfl)) fun _ => .pure (.inr rfl)) fun z hz => main z (by omega)
theorem names_ok (n : Int) (h0 : 0 ≤ n) (h : n ≤ 26) : Dr (m_law_names n) (fun l => l.length = n.toNat ∧ l.Nodup ∧ ∀ x ∈ l, KN x) := (names_okL n h0 h).imp fun _ h => h.1
/-- a fresh name, whatever the word -/
theorem fresh_okL {w : Str} {names : List Str} (h : w.length ≤ 24) (hn : names.length ≤ 90) (nd : names.Nodup) (hL : LongOk names) : ∃ x, m_law_fresh w names = pure x ∧ x ∉ names ∧ x.length ≤ 24 := by
  have hex : ∃ k ∈ irange 0 ((names.length : Int) + 1), cand w k.toNat ∉ names := by
    by_cases h1 : w.length ≤ 20 ∨ w.length = 24
    · exact fresh_has h1 hn
    · refine Classical.byContradiction fun hne => ?_
      have hall : ∀ k : Nat, k < names.length + 1 → cand w k ∈ names := fun k hk => Classical.byContradiction fun z => hne ⟨(k : Int), by
        rw [mem_irange]; omega, by rw [Int.toNat_natCast]; exact z⟩
      have hc : (cutS w none (some 20)).length = 20 := by
        rw [len_tx, show tx (cutS w none (some 20)) = (tx w).take 20 from tx_take_any (i := 20), List.length_take, ← len_tx]; omega
      have hlen : ∀ k : Nat, 0 < k → k < 99 → 21 ≤ (cand w k).length ∧ (cand w k).length ≤ 23 := fun k h0 h9 => by
        have l := strI_tab k (List.mem_range.mpr h9)
        unfold cand
        rw [if_pos h0, len_app, hc]
        omega
      have ndc : ((List.range names.length).map fun k => cand w (k + 1)).Nodup := by
        rw [List.Nodup, List.pairwise_map]
        refine List.Pairwise.imp_of_mem (R := (· < ·)) (fun {a b} ha hb hab e => ?_) List.pairwise_lt_range
        have ha := List.mem_range.mp ha
        have hb := List.mem_range.mp hb
        unfold cand at e
        rw [if_pos (by omega), if_pos (by omega)] at e
        have e2 := congrArg tx e
        rw [tx_app, tx_app] at e2
        have := strI_inj (i := a + 1) (j := b + 1) (by omega) (by omega) (tx_inj (List.append_cancel_left e2))
        omega
      have sub : ∀ x ∈ (List.range names.length).map (fun k => cand w (k + 1)), x ∈ names := fun x hx => by
        obtain ⟨k, hk, rfl⟩ := List.mem_map.mp hx
        have := List.mem_range.mp hk
        exact hall (k + 1) (by omega)
      obtain ⟨y, hy, hyl⟩ := hL ⟨w, hall 0 (by omega), by omega, by omega⟩
      have hny : y ∉ (List.range names.length).map (fun k => cand w (k + 1)) := fun z => by
        obtain ⟨k, hk, rfl⟩ := List.mem_map.mp z
        have := List.mem_range.mp hk
        have := hlen (k + 1) (by omega) (by omega)
        omega
      have := (List.nodup_cons.mpr ⟨hny, ndc⟩).length_le_of_subset (l₂ := names) fun x hx => by
        rcases List.mem_cons.mp hx with rfl | hx
        · exact hy
        · exact sub x hx
      simp at this
      omega
  rw [fresh_find w names (by omega) hn]
  obtain ⟨k, hk, hf⟩ := hex
  cases e : (irange 0 ((names.length : Int) + 1)).find? fun k => !decide (cand w k.toNat ∈ names) with
  | none =>
    have := List.find?_eq_none.mp e k hk
    simp at this
    exact (hf this).elim
  | some j =>
    have hj := mem_irange.mp (List.mem_of_find?_eq_some e)
    refine ⟨_, rfl, ?_, ?_⟩
    · have := List.find?_some e
      simpa using this
    · unfold cand
      by_cases h0 : 0 < j.toNat
      · have l := strI_tab j.toNat (List.mem_range.mpr (by omega))
        have hlen : (cutS w none (some 20)).length ≤ 20 := by
          rw [len_tx, show tx (cutS w none (some 20)) = (tx w).take 20 from tx_take_any (i := 20), List.length_take]; omega
        rw [if_pos h0, len_app]
        omega
      · rw [if_neg h0]; exact h
theorem kind_name_ok {x : Str} (h : KN x) : m_is_kind_name x = pure true := by
  obtain ⟨⟨⟨c, hc, t, e⟩, h2⟩, h3⟩ := h
  have h1 : 1 ≤ x.length := by rw [len_tx, e]; simp
  unfold m_is_kind_name
  simp only [pure_bind, bind_assoc]
  have hs : sgn x 0 = c := by unfold sgn; rw [e]; rfl
  have hall : ∀ d ∈ tx x, d ∈ tx (Str.ofString "abcdefghijklmnopqrstuvwxyz0123456789.") := fun d hd => by
    have : ∀ c ∈ AN, c ∈ tx (Str.ofString "abcdefghijklmnopqrstuvwxyz0123456789.") := by decide +kernel
    exact this d (h2 d hd)
  have hc' : c ∈ tx (Str.ofString "abcdefghijklmnopqrstuvwxyz") := hc
  rw [if_pos (by simp; omega), pure_bind, getS_sgn (by omega) (by omega)]
  simp only [pure_bind]
  rw [show (0 : Int).toNat = 0 from rfl, hs, inSign_chr, pure_bind]
  rw [if_neg (by simp; omega), pure_bind, if_neg (by simp [hc'])]
  rw [compE_pure (g := fun a => decide ((tx a).headD 0 ∈ tx (Str.ofString "abcdefghijklmnopqrstuvwxyz0123456789."))) (fun a ha => by
    rw [signsL_eq] at ha
    obtain ⟨c, _, rfl⟩ := List.mem_map.mp ha
    rfl), sized_pure (by rw [sizeLine_val, List.length_map, signsL_eq, List.length_map, ← len_tx]; omega), pure_bind]
  rw [signsL_eq, List.map_map, List.all_map]
  congr 1
  rw [List.all_eq_true]
  intro d hd
  show decide (d ∈ tx (Str.ofString "abcdefghijklmnopqrstuvwxyz0123456789.")) = true
  exact decide_eq_true (hall d hd)
open Classical in
noncomputable def kB (x : Str) : Bool := decide (KN x)
theorem kB_iff {x : Str} : kB x = true ↔ KN x := @decide_eq_true_iff _ (Classical.propDecidable _)
theorem kB_no {x : Str} (h : ¬ KN x) : kB x = false := @decide_eq_false _ (Classical.propDecidable _) h
theorem kn_of {x : Str} (h1 : 1 ≤ x.length) (h2 : x.length ≤ 24) (hc : sgn x 0 ∈ AZ) (ha : ∀ d ∈ tx x, d ∈ AN) : KN x := by
  refine ⟨⟨⟨sgn x 0, hc, (tx x).tail, ?_⟩, ha⟩, h2⟩
  unfold sgn
  rw [len_tx] at h1
  cases e : tx x with
  | nil => rw [e] at h1; simp at h1
  | cons c t => rfl
theorem kn_sgn {x : Str} (h : KN x) : sgn x 0 ∈ AZ := by
  obtain ⟨⟨⟨c, hc, t, e⟩, _⟩, _⟩ := h
  unfold sgn
  rw [e]
  exact hc
theorem kind_name_all (x : Str) : m_is_kind_name x = pure (kB x) := by
  by_cases h : KN x
  · rw [kind_name_ok h, kB_iff.mpr h]
  · rw [kB_no h]
    unfold m_is_kind_name
    simp only [pure_bind, bind_assoc]
    by_cases h1 : 1 ≤ (x.length : Int)
    · rw [if_pos (decide_eq_true h1), pure_bind]
      by_cases h2 : (x.length : Int) ≤ 24
      · rw [decide_eq_true h2]
        simp only [Bool.not_true, Bool.false_eq_true, if_false]
        rw [getS_sgn (by omega) (by omega), pure_bind, inSign_chr]
        simp only [pure_bind]
        rw [show (0 : Int).toNat = 0 from rfl]
        by_cases hc : sgn x 0 ∈ tx (Str.ofString "abcdefghijklmnopqrstuvwxyz")
        · rw [decide_eq_true hc]
          simp only [Bool.not_true, Bool.false_eq_true, if_false]
          rw [compE_pure (g := fun a => decide ((tx a).headD 0 ∈ tx (Str.ofString "abcdefghijklmnopqrstuvwxyz0123456789."))) (fun a ha => by
            rw [signsL_eq] at ha
            obtain ⟨c, _, rfl⟩ := List.mem_map.mp ha
            rfl), sized_pure (by rw [sizeLine_val, List.length_map, signsL_eq, List.length_map, ← len_tx]; omega), pure_bind]
          rw [signsL_eq, List.map_map, List.all_map]
          congr 1
          rw [Bool.eq_false_iff]
          intro z
          rw [List.all_eq_true] at z
          refine h (kn_of (by omega) (by omega) hc fun d hd => ?_)
          have z1 : d ∈ tx (Str.ofString "abcdefghijklmnopqrstuvwxyz0123456789.") := of_decide_eq_true (z d hd)
          have : ∀ c ∈ tx (Str.ofString "abcdefghijklmnopqrstuvwxyz0123456789."), c ∈ AN := by decide +kernel
          exact this d z1
        · rw [decide_eq_false hc]
          rfl
      · rw [decide_eq_false h2]
        rfl
    · rw [if_neg (by simpa using h1)]
      rfl
/-- unknown names -/
def UN (x : Str) : Prop := ∃ y, x = "?" ++ y ∧ 1 ≤ y.length ∧ y.length ≤ 24 ∧ ∀ d ∈ tx y, d ∈ AN
theorem un_ok {x : Str} (h : UN x) : m_is_unknown_name x = pure true := by
  obtain ⟨y, rfl, h1, h2, h3⟩ := h
  have e : tx (Str.ofString "?" ++ y) = 63 :: tx y := by rw [tx_app]; rfl
  have el : (Str.ofString "?" ++ y).length = y.length + 1 := by
    show (tx (Str.ofString "?" ++ y)).length = _
    rw [e, List.length_cons]
    rfl
  have hs : sgn (Str.ofString "?" ++ y) 0 = 63 := by unfold sgn; rw [e]; rfl
  have hall : ∀ d ∈ tx y, d ∈ tx (Str.ofString "abcdefghijklmnopqrstuvwxyz0123456789.") := fun d hd => by
    have : ∀ c ∈ AN, c ∈ tx (Str.ofString "abcdefghijklmnopqrstuvwxyz0123456789.") := by decide +kernel
    exact this d (h3 d hd)
  unfold m_is_unknown_name
  simp only [pure_bind, bind_assoc]
  rw [if_pos (by simp; omega), pure_bind, decide_eq_true (by omega)]
  simp only [Bool.not_true, Bool.false_eq_true, if_false]
  rw [getS_sgn (by omega) (by omega), pure_bind, show (0 : Int).toNat = 0 from rfl, hs, show decide (chr1 63 = Str.ofString "?") = true by decide +kernel, pure_bind]
  rw [if_neg (by simp)]
  have ec : cutS (Str.ofString "?" ++ y) (some 1) none = y := tx_inj (by
    rw [show (some (1 : Int)) = some ((1 : Nat) : Int) from rfl, tx_drop (by omega), e]
    rfl)
  rw [ec, compE_pure (g := fun a => decide ((tx a).headD 0 ∈ tx (Str.ofString "abcdefghijklmnopqrstuvwxyz0123456789."))) (fun a ha => by
    rw [signsL_eq] at ha
    obtain ⟨c, _, rfl⟩ := List.mem_map.mp ha
    rfl), sized_pure (by rw [sizeLine_val, List.length_map, signsL_eq, List.length_map, ← len_tx]; omega), pure_bind]
  rw [signsL_eq, List.map_map, List.all_map]
  congr 1
  rw [List.all_eq_true]
  intro d hd
  exact decide_eq_true (hall d hd)
theorem same_bool (a b : Bool) : m_law_same 7 (.bool a) (.bool b) = pure (decide (a = b)) := by
  cases a <;> cases b <;> rfl
theorem same_str (a b : Str) : m_law_same 7 (.str a) (.str b) = pure (decide (a = b)) := rfl
def Dp : Nat → PyData → Prop
  | 0, _ => False
  | _ + 1, .none => True
  | _ + 1, .bool _ => True
  | _ + 1, .int _ => True
  | _ + 1, .str _ => True
  | n + 1, .list xs => xs.length < 1000000000 ∧ ∀ x ∈ xs, Dp n x
  | n + 1, .tuple xs => xs.length < 1000000000 ∧ ∀ x ∈ xs, Dp n x
  | _ + 1, .dict _ => False
theorem same_items (n : Nat) (ih : ∀ d, Dp n d → m_law_same n d d = pure true) (g : PyData → Int → PM PyData) (xs : List PyData) (d : PyData) (hg : ∀ i, g d i = getM xs i) (hl : xs.length < 1000000000) (h : ∀ x ∈ xs, Dp n x) :
    (rangeM 0 (xs.length : Int) >>= fun l => forF (fun k_2 (b_1 : Unit) => g d k_2 >>= fun a => g d k_2 >>= fun b => m_law_same n a b >>= fun a => if (!a) = true then pure (.rt false) else pure (.nx ())) l () >>= orElse fun b_1 => pure true) = (pure true : PM Bool) := by
  rw [rangeM_ok (by decide) (by decide) (by omega) (by omega), pure_bind, forF_nx, pure_bind]
  · rfl
  · intro i hi
    rw [mem_irange] at hi
    obtain ⟨x, e, k⟩ := getM_in (l := xs) (i := i) hi.1 hi.2
    rw [hg, k, pure_bind, pure_bind, ih x (h x (List.mem_of_getElem? e)), pure_bind]
    rfl
theorem same_refl : ∀ (n : Nat) (d : PyData), Dp n d → m_law_same n d d = pure true
  | 0, _, h => h.elim
  | n + 1, .none, _ => rfl
  | n + 1, .bool b, _ => by
    unfold m_law_same
    simp [isND, isT, dn, isTN, eqD]
  | n + 1, .int b, _ => by
    unfold m_law_same
    simp [isND, isT, dn, isTN, eqD]
  | n + 1, .str b, _ => by
    unfold m_law_same
    simp [isND, isT, dn, isTN, eqD]
  | n + 1, .list xs, h => by
    unfold m_law_same
    simp only [pure_bind, bind_assoc, bind_pure, isND, isT, dn, isTN, lenD, itemsD, Bool.false_eq_true, if_false, decide_true, Bool.not_true]
    exact same_items n (same_refl n) _ xs (.list xs) (fun _ => rfl) h.1 h.2
  | n + 1, .tuple xs, h => by
    unfold m_law_same
    simp only [pure_bind, bind_assoc, bind_pure, isND, isT, dn, isTN, lenD, itemsD, Bool.false_eq_true, if_false, decide_true, Bool.not_true]
    exact same_items n (same_refl n) _ xs (.tuple xs) (fun _ => rfl) h.1 h.2
theorem isX_in {CLx : List Str} {c : Str} {pay : Pay} (h : c ∈ CLx) (T : Str) : isX CLx ⟨c, pay⟩ T = pure (errSub c T) := guardM_pos h
theorem fldX_one {CLx : List Str} {c f : Str} {d : PyData} (h : c ∈ CLx) : fldX CLx ⟨c, .one f d⟩ f = pure d := by
  unfold fldX
  rw [if_pos h]
  exact if_pos rfl
theorem not_KN {x : Str} {c : Nat} (h : c ∈ tx x) (hc : c ∉ AN) : ¬ KN x := fun z => hc (z.1.2 c h)
theorem getM_at {α : Type} {l : List α} {i : Nat} {x : α} (h : l[i]? = some x) : getM l (i : Int) = pure x := by
  have hi : i < l.length := (List.getElem?_eq_some_iff.mp h).1
  obtain ⟨a, e, k⟩ := getM_in (l := l) (i := (i : Int)) (by omega) (by omega)
  rw [Int.toNat_natCast, h] at e
  obtain rfl := Option.some.inj e
  exact k
theorem dir_ok {f : Str} (h : f = "up" ∨ f = "down") : m_check_direction f = pure () := by
  unfold m_check_direction
  simp only [pure_bind, bind_assoc, bind_pure]
  have : (f ∈ [Str.ofString "up", Str.ofString "down"]) := by
    simp only [List.mem_cons, List.not_mem_nil, or_false]
    exact h
  rw [decide_eq_true this]
  rfl
theorem dir_no {f : Str} (h1 : f ≠ "up") (h2 : f ≠ "down") : m_check_direction f = raise ⟨"BadDirection", .one "direction" (PyData.str f)⟩ := by
  unfold m_check_direction
  simp only [pure_bind, bind_assoc, bind_pure]
  have : ¬ (f ∈ [Str.ofString "up", Str.ofString "down"]) := by
    simp only [List.mem_cons, List.not_mem_nil, or_false]
    rintro (z | z)
    · exact h1 z
    · exact h2 z
  rw [decide_eq_false this]
  rfl
theorem baddir_ok : Dr m_law_bad_direction (fun f => (f ≠ "up" ∧ f ≠ "down") ∧ f.length ≤ 1000) := by
  unfold m_law_bad_direction
  simp only [pure_bind, bind_assoc, bind_pure]
  refine .bind (draw_ok 8 (by decide)) fun w hw => .ite (fun _ => ?_) fun hc => ?_
  · refine .bind (draw_ok 3 (by decide)) fun d hd => .bind (word_ok _ (by have := hd.1; omega) (by have := hd.2.1; have := hd.2.2; omega)) fun x hx => ?_
    have lx := hx.1.pos
    have lx2 : x.length ≤ 3 := by have := hx.2; have := hd.1; have := hd.2.1; have := hd.2.2; omega
    rw [catS_ok (by show 2 + x.length ≤ _; omega)]
    have e : tx ("up" ++ x) = tx "up" ++ tx x := tx_app _ _
    refine .pure ⟨⟨fun z => ?_, fun z => ?_⟩, ?_⟩
    · have := congrArg (fun y => (tx y).length) z
      simp only [tx_app, List.length_append] at this
      have l2 : (tx x).length = x.length := rfl
      have l3 : (tx "up").length = 2 := rfl
      have l3 : (tx (Str.ofString "up")).length = 2 := rfl
      omega
    · have := congrArg (fun y => (tx y).head?) z
      simp only [tx_app] at this
      rw [List.head?_append] at this
      have h1 : (tx (Str.ofString "up")).head? = some 117 := by decide +kernel
      have h2 : (tx (Str.ofString "down")).head? = some 100 := by decide +kernel
      rw [h1, h2] at this
      cases this
    · show (tx (_ ++ x)).length ≤ _
      rw [tx_app, List.length_append]
      show 2 + x.length ≤ _
      omega
  · have h1 := hw.1
    have h2 := hw.2.1 (by decide)
    have h3 : w ≠ 7 := by simpa using hc
    have all : ∀ f ∈ ([("" : Str), ("Up" : Str), ("up " : Str), (" down" : Str), ("downs" : Str), ("dow" : Str), ("u" : Str)] : List Str), (f ≠ "up" ∧ f ≠ "down") ∧ f.length ≤ 1000 := by decide +kernel
    obtain ⟨y, ey, gy⟩ := getM_in (l := ([("" : Str), ("Up" : Str), ("up " : Str), (" down" : Str), ("downs" : Str), ("dow" : Str), ("u" : Str)] : List Str)) (i := w) h1 (by simp; omega)
    rw [gy]
    exact .pure (all y (List.mem_of_getElem? ey))
theorem filt_p {α : Type} {t : α → PM Bool} {u : α → Bool} {l : List α} (h : ∀ a ∈ l, t a = pure (u a)) : compF t (fun x => (pure x : PM α)) l = pure (l.filter u) := by
  rw [compF_pure (e := fun x => (pure x : PM α)) (u := u) (g := fun x => x) h (fun _ _ _ => rfl), List.map_id']
theorem getM_getD {α : Type} {l : List α} {i : Int} (h0 : 0 ≤ i) (h1 : i < l.length) (d : α) : getM l i = pure (l.getD i.toNat d) := by
  obtain ⟨a, e, h⟩ := getM_in h0 h1
  rw [h, List.getD_eq_getElem?_getD, e]
  rfl
def ND (x : Str) : Prop := KN x ∨ UN x
def SG (x : Str) : Prop := x = "<" ∨ x = ">"
theorem node_ok {x : Str} (h : ND x) : m_check_node x = pure () := by
  unfold m_check_node
  simp only [pure_bind, bind_assoc]
  rw [kind_name_all, pure_bind]
  rcases h with h | h
  · rw [kB_iff.mpr h]
    rfl
  · cases e : kB x with
    | true => rfl
    | false =>
      rw [if_pos (by rfl), un_ok h, pure_bind, pure_bind]
      rfl
theorem sign_ok {x : Str} (h : SG x) : m_check_sign x = pure () := by
  unfold m_check_sign
  simp only [pure_bind]
  rcases h with rfl | rfl
  · rw [if_neg (by decide +kernel)]
  · rw [if_neg (by decide +kernel)]
theorem walk_init {nodes signs : List Str} (hn : ∀ x ∈ nodes, ND x) (hs : ∀ x ∈ signs, SG x) (hl : signs.length + 1 = nodes.length) : m_Walk___init__ nodes signs = pure ⟨nodes, signs⟩ := by
  unfold m_Walk___init__
  simp only [pure_bind, bind_assoc, bind_pure]
  rw [forA_pure (g := fun b _ => b) (fun a ha b => by rw [node_ok (hn a ha), frame_pure]; rfl), pure_bind, forA_pure (g := fun b _ => b) (fun a ha b => by rw [sign_ok (hs a ha), frame_pure]; rfl), pure_bind, if_neg (by simp; omega)]
/-- how often the sign changes, behind a first one -/
def cnt : Str → List Str → Nat
  | _, [] => 0
  | l, s :: t => (if s = l then 0 else 1) + cnt s t
theorem cnt_idx : ∀ (t : List Str) (s : Str), ((List.range t.length).filter fun k => !decide ((s :: t).getD (k + 1) "" = (s :: t).getD k "")).length = cnt s t
  | [], s => rfl
  | a :: t, s => by
    rw [List.length_cons, List.range_succ_eq_map, List.filter_cons, List.filter_map, show cnt s (a :: t) = (if a = s then 0 else 1) + cnt a t from rfl, ← cnt_idx t a]
    have e : ((List.range t.length).filter ((fun k => !decide ((s :: a :: t).getD (k + 1) "" = (s :: a :: t).getD k "")) ∘ Nat.succ)) = (List.range t.length).filter fun k => !decide ((a :: t).getD (k + 1) "" = (a :: t).getD k "") := List.filter_congr fun k _ => rfl
    rw [e]
    by_cases c : a = s
    · rw [if_pos c, if_neg (by simp [c]), List.length_map, Nat.zero_add]
    · rw [if_neg c, if_pos (by simp [c]), List.length_cons, List.length_map, Nat.add_comm]
theorem runs_ok {w : Walk} (hs : ∀ x ∈ w.signs, SG x) (hl : w.signs.length ≤ 1000) : m_Walk_runs w = pure (cnt "" w.signs : Int) := by
  unfold m_Walk_runs
  simp only [pure_bind, bind_assoc]
  rw [rangeM_ok (by decide) (by decide) (by omega) (by omega), pure_bind]
  rw [filt_p (u := fun k => decide (k = 0) || !decide (w.signs.getD k.toNat "" = w.signs.getD (k - 1).toNat "")) (fun k hk => by
    have hk := mem_irange.mp hk
    by_cases c : k = 0
    · rw [if_pos (decide_eq_true c), decide_eq_true c]; rfl
    · rw [if_neg (by simpa using c), decide_eq_false c, getM_getD hk.1 hk.2 "", pure_bind, getM_getD (l := w.signs) (i := k - 1) (by omega) (by omega) ("" : Str), pure_bind]
      rfl), sized_pure (by rw [sizeLine_val]; refine Nat.le_trans (List.length_filter_le _ _) ?_; rw [irange_length]; omega), pure_bind]
  congr 2
  cases e : w.signs with
  | nil => rfl
  | cons s t =>
    have hi : irange 0 (((s :: t : List Str).length : Nat) : Int) = (List.range (t.length + 1)).map fun (k : Nat) => (k : Int) := by
      unfold irange
      rw [List.length_cons, show (((t.length + 1 : Nat) : Int) - 0).toNat = t.length + 1 by omega]
      exact List.map_congr_left fun k _ => by omega
    rw [hi, List.filter_map, List.length_map, List.range_succ_eq_map, List.filter_cons, if_pos (by rfl), List.length_cons, List.filter_map, List.length_map]
    have e2 : ((List.range t.length).filter (((fun k : Int => decide (k = 0) || !decide ((s :: t).getD k.toNat "" = (s :: t).getD (k - 1).toNat "")) ∘ fun (k : Nat) => (k : Int)) ∘ Nat.succ)) = (List.range t.length).filter fun k => !decide ((s :: t).getD (k + 1) "" = (s :: t).getD k "") := List.filter_congr fun k _ => by
      simp only [Function.comp]
      rw [decide_eq_false (by omega), Bool.false_or, show ((Nat.succ k : Nat) : Int).toNat = k + 1 by omega, show (((Nat.succ k : Nat) : Int) - 1).toNat = k by omega]
    rw [e2, cnt_idx]
    have hs0 : s ≠ "" := by
      have := hs s (by rw [e]; exact List.mem_cons_self)
      rcases this with rfl | rfl <;> decide +kernel
    show _ = (if s = "" then 0 else 1) + cnt s t
    rw [if_neg hs0, Nat.add_comm]
def fst1 (signs : List Str) : Str := match signs with
  | [] => ""
  | s :: _ => if s = "<" then "up" else "down"
theorem first_ok (w : Walk) : m_Walk_first w = pure (fst1 w.signs) := by
  unfold m_Walk_first
  simp only [pure_bind, bind_assoc]
  cases e : w.signs with
  | nil => rfl
  | cons s t =>
    rw [if_neg (by simp), show getM (s :: t) 0 = pure s from getM_at (i := 0) rfl, pure_bind]
    unfold fst1
    by_cases c : s = "<"
    · rw [if_pos (decide_eq_true c)]
      simp [c]
    · rw [if_neg (by simpa using c)]
      simp [c]
theorem counted_ok {w : Walk} (hs : ∀ x ∈ w.signs, SG x) (hl : w.signs.length ≤ 1000) {d : Str} (hd : d = "up" ∨ d = "down") : m_Walk_counted w d = pure ((cnt "" w.signs : Int) + if fst1 w.signs ≠ "" ∧ fst1 w.signs ≠ d then 1 else 0) := by
  unfold m_Walk_counted
  simp only [pure_bind, bind_assoc, bind_pure]
  rw [dir_ok hd, pure_bind, runs_ok hs hl, frame_pure, noX_pure, pure_bind, first_ok, frame_pure, noX_pure, pure_bind]
  by_cases c : fst1 w.signs ∈ [("" : Str), d]
  · rw [if_pos (decide_eq_true c), pure_bind, if_neg]
    simp only [List.mem_cons, List.not_mem_nil, or_false] at c
    rcases c with c | c
    · exact fun z => z.1 c
    · exact fun z => z.2 c
  · rw [if_neg (by simpa using c), pure_bind, if_pos]
    simp only [List.mem_cons, List.not_mem_nil, or_false, not_or] at c
    exact c
theorem law_runs {l : List Str} : ∀ {r : Int} {x : Str}, forA (fun (sign_4 : Str) (b_3 : Int × Str) => (if (!decide (sign_4 = b_3.2)) = true then pure (b_3.1 + 1) else pure b_3.1) >>= fun b_5 => pure (b_5, sign_4)) l (r, x) = pure (r + cnt x l, (x :: l).getLast (by simp)) := by
  induction l with
  | nil => intro r x; show pure _ = _; simp [cnt]
  | cons s t ih =>
    intro r x
    show ((if (!decide (s = x)) = true then pure (r + 1) else pure r) >>= fun b_5 => pure (b_5, s)) >>= (fun b' => forA _ t b') = _
    by_cases c : s = x
    · rw [if_neg (by simp [c]), pure_bind, pure_bind, ih]
      simp [cnt, c]
    · rw [if_pos (by simp [c]), pure_bind, pure_bind, ih]
      simp only [cnt, if_neg c]
      rw [show r + 1 + (cnt s t : Int) = r + ((1 + cnt s t : Nat) : Int) by omega]
      simp
theorem getM_last {α : Type} {l : List α} (h : 0 < l.length) : ∃ y, getM l (-1) = pure y ∧ y ∈ l := by
  have e : L2.ixN l.length (-1) = some (l.length - 1) := by
    unfold L2.ixN
    first
    | (rw [if_pos (by omega)]; congr 1; omega)
    | (rw [if_neg (by omega), if_pos (by omega)]; congr 1; omega)
    | (simp; omega)
  have hl : l.length - 1 < l.length := by omega
  refine ⟨l[l.length - 1], ?_, List.getElem_mem hl⟩
  unfold getM L2.atI
  rw [e]
  show (match l[l.length - 1]? with | some a => pure a | none => stuck) = _
  rw [List.getElem?_eq_getElem hl]
theorem kept_ok {nodes signs : List Str} (hs : ∀ x ∈ signs, SG x) (hl : signs.length ≤ 1000) (hn : signs.length + 1 = nodes.length) : m_law_counts_kept ⟨nodes, signs⟩ nodes signs = pure true := by
  have hne : nodes ≠ [] := fun z => by rw [z] at hn; simp at hn
  unfold m_law_counts_kept m_Walk_start m_Walk_end m_Walk___len__
  simp only [pure_bind, bind_assoc, bind_pure]
  rw [law_runs, pure_bind]
  have e0 : getM nodes 0 = pure (nodes.getD 0 "") := getM_getD (by omega) (by omega) ("" : Str)
  have ef : (if decide (0 < (signs.length : Int)) = true then (getM signs 0 >>= fun a => getM [("up" : Str), ("down" : Str)] (if decide (a = (">" : Str)) = true then 1 else 0)) else pure ("" : Str)) = pure (fst1 signs) := by
    cases signs with
    | nil => rfl
    | cons s t =>
      rw [if_pos (by simp), show getM (s :: t) 0 = pure s from getM_at (i := 0) rfl, pure_bind]
      rcases hs s List.mem_cons_self with rfl | rfl
      · rw [if_neg (by decide +kernel)]
        exact getM_at (i := 0) rfl
      · rw [if_pos (by decide +kernel)]
        exact getM_at (i := 1) rfl
  obtain ⟨y, ey, _⟩ := getM_last (l := nodes) (by omega)
  rw [ef, pure_bind, e0, frame_pure, noX_pure, pure_bind, pure_bind, same_str, decide_eq_true rfl, pure_bind, if_neg (by simp), ey, frame_pure, noX_pure, pure_bind, pure_bind, same_str, decide_eq_true rfl, pure_bind, pure_bind, if_neg (by simp), runs_ok hs hl, frame_pure, noX_pure, pure_bind]
  dsimp only
  rw [show (0 : Int) + (cnt "" signs : Int) = (cnt "" signs : Int) by omega, same_refl 7 _ (show Dp 7 (PyData.int _) from trivial), pure_bind, if_neg (by simp), first_ok, frame_pure, noX_pure, pure_bind, same_str, decide_eq_true rfl, pure_bind, if_neg (by simp), frame_pure, pure_bind, guardM_pos ⟨by omega, by omega⟩, pure_bind, same_refl 7 _ (show Dp 7 (PyData.int _) from trivial), pure_bind, pure_bind, if_neg (by simp)]
  rw [forF_nx, pure_bind, orElse_nx]
  intro d hd
  have hd : d = "up" ∨ d = "down" := by simpa using hd
  have e2 : (if (!decide (fst1 signs = ("" : Str))) = true then (pure (!decide (fst1 signs = d)) : PM Bool) else pure false) = pure (decide (fst1 signs ≠ "" ∧ fst1 signs ≠ d)) := by
    by_cases c : fst1 signs = ""
    · rw [if_neg (by simp [c]), decide_eq_false (fun z => z.1 c)]
    · rw [if_pos (by simp [c])]
      congr 1
      by_cases c2 : fst1 signs = d
      · rw [decide_eq_true c2, decide_eq_false fun z => z.2 c2]; rfl
      · rw [decide_eq_false c2, decide_eq_true ⟨c, c2⟩]; rfl
  rw [e2, pure_bind, counted_ok hs hl hd, frame_pure]
  dsimp only
  by_cases c : fst1 signs ≠ "" ∧ fst1 signs ≠ d
  · rw [if_pos (decide_eq_true c), if_pos c, pure_bind, pure_bind, same_refl 7 _ (show Dp 7 (PyData.int _) from trivial), pure_bind]
    rfl
  · rw [if_neg (by simpa using c), if_neg c, pure_bind, pure_bind, Int.add_zero, same_refl 7 _ (show Dp 7 (PyData.int _) from trivial), pure_bind]
    rfl
theorem fault_ok {w : Walk} {d : Str} (h1 : d ≠ "up") (h2 : d ≠ "down") : m_law_counted_fault w d = pure [.bool true, .bool false, .bool false, .str d] := by
  have c1 : ("BadDirection" : Str) ∈ CL := by decide +kernel
  unfold m_law_counted_fault m_Walk_counted
  simp only [pure_bind, bind_assoc, bind_pure]
  rw [dir_no h1 h2, Kf.raise_bind, frame_raise, Kf.raise_bind, tryX_raise c1 (show errSub "BadDirection" "KindError" = true by decide +kernel)]
  simp only [isX_in c1, fldX_one c1, pure_bind]
  rw [show errSub "BadDirection" "ValueError" = true by decide +kernel, show errSub "BadDirection" "BadSign" = false by decide +kernel, show errSub "BadDirection" "NotListed" = false by decide +kernel, show errSub "BadDirection" "BadDirection" = true by decide +kernel]
  simp only [if_true, pure_bind]
  rw [appM_ok (by simp)]
  rfl
theorem unknowns_ok (n : Int) (h0 : 0 ≤ n) (h : n ≤ 20) : Dr (m_law_unknowns n) (fun l => l.length = n.toNat ∧ ∀ x ∈ l, UN x) := by
  obtain ⟨m, rfl⟩ : ∃ m : Nat, n = (m : Int) := ⟨n.toNat, by omega⟩
  unfold m_law_unknowns
  simp only [pure_bind, bind_assoc, bind_pure]
  have l1 : ("?" : Str).length = 1 := rfl
  refine .bind (draw_ok 3 (by decide)) fun _ _ => .ite (fun _ => ?_) fun _ => ?_
  · rw [rangeM_ok (by decide) (by decide) (by omega) (by omega), pure_bind]
    rw [compE_pure (g := fun k : Int => "?" ++ strI (k.toNat : Int)) (fun k hk => by
      have hk := mem_irange.mp hk
      obtain ⟨j, rfl⟩ : ∃ j : Nat, k = (j : Int) := ⟨k.toNat, by omega⟩
      have l := strI_tab j (List.mem_range.mpr (by omega))
      rw [strM_ok (by omega), pure_bind, catS_ok (by rw [l1]; omega)]
      rfl), sized_pure (by rw [sizeLine_val, List.length_map, irange_length]; omega)]
    refine .pure ⟨by rw [List.length_map, irange_length]; omega, fun x hx => ?_⟩
    obtain ⟨k, hk, rfl⟩ := List.mem_map.mp hx
    have hk := mem_irange.mp hk
    have l := strI_tab k.toNat (List.mem_range.mpr (by omega))
    exact ⟨_, rfl, l.2.1, by omega, l.2.2⟩
  · refine .bind (names_ok (m : Int) (by omega) (by omega)) fun names hn => ?_
    obtain ⟨n1, n2, n3⟩ := hn
    rw [compE_pure (g := fun x : Str => "?" ++ x) (fun x hx => by
      have := (n3 x hx).2
      rw [catS_ok (by rw [l1]; omega)]), sized_pure (by rw [sizeLine_val, List.length_map]; omega)]
    refine .pure ⟨by rw [List.length_map, n1], fun x hx => ?_⟩
    obtain ⟨y, hy, rfl⟩ := List.mem_map.mp hx
    exact ⟨y, rfl, (n3 y hy).1.pos, (n3 y hy).2, (n3 y hy).1.2⟩
theorem signs_ok : Dr m_law_signs (fun l => l.length ≤ 1000 ∧ ∀ x ∈ l, SG x) := by
  unfold m_law_signs
  simp only [pure_bind, bind_assoc, bind_pure]
  have pick : ∀ {k : Int}, 0 ≤ k → k < 2 → ∃ y : Str, getM [("<" : Str), (">" : Str)] k = pure y ∧ SG y := fun {k} h1 h2 => by
    have : k = 0 ∨ k = 1 := by omega
    rcases this with rfl | rfl
    · exact ⟨_, getM_at (i := 0) rfl, .inl rfl⟩
    · exact ⟨_, getM_at (i := 1) rfl, .inr rfl⟩
  refine .bind (draw_ok 2 (by decide)) fun k hk => ?_
  obtain ⟨s, e, hs⟩ := pick hk.1 (hk.2.1 (by decide))
  rw [e, pure_bind]
  refine .bind (draw_ok 6 (by decide)) fun n hn => ?_
  have hn2 := hn.2.1 (by decide)
  have hn1 := hn.1
  rw [rangeM_ok (by decide) (by decide) (by omega) (by omega), pure_bind]
  obtain ⟨m, rfl⟩ : ∃ m : Nat, n = (m : Int) := ⟨n.toNat, by omega⟩
  refine .bind (Dr.forR (n := m) (I := fun j b => (b.1.length ≤ 50 * j ∧ ∀ x ∈ b.1, SG x) ∧ SG b.2) ⟨⟨by simp, by simp⟩, hs⟩ fun j hj b hb => ?_) fun b hb => .pure ⟨by have := hb.1.1; omega, hb.1.2⟩
  obtain ⟨⟨b1, b2⟩, b3⟩ := hb
  refine .bind (draw_ok 4 (by decide)) fun d1 z1 => .bind (draw_ok 8 (by decide)) fun d2 z2 => ?_
  have q1 := z1.2.1 (by decide)
  refine .bind (Q := fun z : Int => 0 ≤ z ∧ z ≤ 40) (.ite (fun _ => ?_) fun _ => .pure ⟨by have := z1.1; omega, by omega⟩) fun z hz => ?_
  · refine .bind (draw_ok 40 (by decide)) fun d3 z3 => .pure ⟨by have := z3.1; omega, by have := z3.2.1 (by decide); omega⟩
  rw [rangeM_ok (by decide) (by decide) (by omega) (by omega), pure_bind, compE_pure (g := fun _ => b.2) (fun _ _ => rfl), sized_pure (by rw [sizeLine_val, List.length_map, irange_length]; omega), pure_bind, catL_ok (by rw [List.length_map, irange_length]; omega), pure_bind]
  have hl : (b.1 ++ (irange 0 z).map fun _ => b.2).length ≤ 50 * (j + 1) := by
    rw [List.length_append, List.length_map, irange_length]
    omega
  have ha : ∀ x ∈ b.1 ++ (irange 0 z).map fun _ => b.2, SG x := fun x hx => by
    rcases List.mem_append.mp hx with h | h
    · exact b2 x h
    · obtain ⟨_, _, rfl⟩ := List.mem_map.mp h
      exact b3
  refine .bind (draw_ok 4 (by decide)) fun d4 z4 => .bind (Q := SG) (.ite (fun _ => ?_) fun _ => .pure b3) fun s2 hs2 => .pure ⟨⟨hl, ha⟩, hs2⟩
  by_cases c : b.2 = ">"
  · rw [if_pos (decide_eq_true c), show getM [(">" : Str), ("<" : Str)] 1 = pure "<" from getM_at (i := 1) rfl]
    exact .pure (.inl rfl)
  · rw [if_neg (by simpa using c), show getM [(">" : Str), ("<" : Str)] 0 = pure ">" from getM_at (i := 0) rfl]
    exact .pure (.inr rfl)
theorem init1_eq : m_Walk___init___1 = m_Walk___init__ := rfl
theorem Dr.compEP {α β : Type} {e : α → PM β} {P : β → Prop} : ∀ {l : List α}, (∀ a ∈ l, Dr (e a) P) → Dr (Kf.compE e l) (fun r => r.length = l.length ∧ ∀ x ∈ r, P x)
  | [], _ => .pure ⟨rfl, fun x h => by cases h⟩
  | a :: l, h => by
    refine .bind (.noX (h a List.mem_cons_self)) fun y hy => .bind (Dr.compEP fun b hb => h b (List.mem_cons_of_mem _ hb)) fun r hr => .pure ⟨by rw [List.length_cons, List.length_cons, hr.1], fun x hx => ?_⟩
    rcases List.mem_cons.mp hx with rfl | hx
    · exact hy
    · exact hr.2 x hx
theorem sized_drP {α : Type} {m : PM (List α)} {Q : List α → Prop} (h : Dr m fun l => l.length ≤ 16777216 ∧ Q l) : Dr (sized m) Q := by
  unfold sized
  exact h.bind fun l hl => by
    rw [guardM_pos (by rw [sizeLine_val]; exact hl.1)]
    exact .pure hl.2
theorem cut_last {α : Type} {l : List α} (h : 0 < l.length) : cutL l none (some (-1)) = l.dropLast := by
  unfold cutL
  rw [List.dropLast_eq_take]
  have e1 : HT.sIx l.length 0 none = 0 := rfl
  have e2 : HT.sIx l.length l.length (some (-1)) = l.length - 1 := by
    unfold HT.sIx
    simp
    omega
  rw [e1, e2]
  rfl
theorem nd_len {x : Str} (h : ND x) : x.length ≤ 25 := by
  rcases h with h | ⟨y, rfl, _, h, _⟩
  · have := h.2; omega
  · rw [len_app]
    show 1 + y.length ≤ 25
    omega
theorem law_ok : Dr m_law (fun b => b = true) := by
  unfold m_law
  simp only [pure_bind, bind_assoc, bind_pure, init1_eq]
  refine .bind (draw_ok 4 (by decide)) fun a ha => ?_
  have a1 := ha.1
  have a2 := ha.2.1 (by decide)
  refine .bind (names_ok _ (by omega) (by omega)) fun names hn => ?_
  obtain ⟨n1, n2, n3⟩ := hn
  refine .bind (draw_ok 4 (by decide)) fun b hb => ?_
  have b1 := hb.1
  have b2 := hb.2.1 (by decide)
  refine .bind (unknowns_ok b b1 (by omega)) fun us hu => ?_
  rw [catL_ok (by rw [hu.1]; omega), pure_bind]
  have hm : ∀ x ∈ names ++ us, ND x := fun x hx => by
    rcases List.mem_append.mp hx with h | h
    · exact .inl (n3 x h)
    · exact .inr (hu.2 x h)
  have lm : 1 ≤ (names ++ us).length ∧ (names ++ us).length ≤ 100 := by rw [List.length_append, hu.1]; omega
  generalize names ++ us = menu at hm lm ⊢
  refine .bind signs_ok fun signs hs => ?_
  have ls := hs.1
  rw [rangeM_ok (by decide) (by decide) (by omega) (by omega), pure_bind]
  refine .bind (Q := fun l : List Str => l.length = signs.length + 1 ∧ ∀ x ∈ l, ND x) (sized_drP ((Dr.compEP (P := ND) fun k _ => ?_).imp fun l hl => ?_)) fun nodes hno => ?_
  · refine .bind (draw_ok _ (by omega)) fun i hi => ?_
    obtain ⟨x, ex, gx⟩ := getM_in (l := menu) (i := i) hi.1 (by have := hi.2.1; have := hi.2.2; omega)
    rw [gx]
    exact .pure (hm x (List.mem_of_getElem? ex))
  · have := hl.1
    rw [irange_length] at this
    exact ⟨by omega, by omega, hl.2⟩
  obtain ⟨ln, hnd⟩ := hno
  rw [walk_init hnd hs.2 (by omega), frame_pure, pure_bind, kept_ok hs.2 hs.1 (by omega), frame_pure, pure_bind, if_neg (by simp)]
  have cut : ∀ {α : Type} {l : List α}, 0 < l.length → cutL l none (some (-1)) = l.dropLast := cut_last
  have e2 : (if decide (0 < (signs.length : Int)) = true then (frame (m_Walk___init__ (cutL nodes none (some (-1))) (cutL signs none (some (-1)))) >>= fun x => frame (m_law_counts_kept x (cutL nodes none (some (-1))) (cutL signs none (some (-1)))) >>= fun a => pure !a) else pure false) = pure false := by
    by_cases c : 0 < signs.length
    · have hs' : ∀ x ∈ signs.dropLast, SG x := fun x hx => hs.2 x (List.dropLast_subset _ hx)
      have hl' : signs.dropLast.length + 1 = nodes.dropLast.length := by rw [List.length_dropLast, List.length_dropLast]; omega
      rw [if_pos (by simpa using c), cut c, cut (by omega), walk_init (fun x hx => hnd x (List.dropLast_subset _ hx)) hs' hl', frame_pure, pure_bind, kept_ok hs' (by rw [List.length_dropLast]; omega) hl', frame_pure, pure_bind]
      rfl
    · rw [if_neg (by simpa using c)]
  rw [e2, pure_bind, if_neg (by simp)]
  have e0 : getM nodes 0 = pure (nodes.getD 0 "") := getM_getD (by omega) (by omega) ("" : Str)
  have hst : ND (nodes.getD 0 ("" : Str)) := hnd _ (by
    rw [List.getD_eq_getElem?_getD, List.getElem?_eq_getElem (show 0 < nodes.length by omega)]
    exact List.getElem_mem _)
  have lst := nd_len hst
  have est : m_Walk_start ⟨nodes, signs⟩ = pure (nodes.getD 0 "") := by
    unfold m_Walk_start
    simp only [pure_bind]
    exact e0
  rw [est, frame_pure, noX_pure, pure_bind, catS_ok (by show _ + 1 ≤ _; omega), pure_bind]
  refine .bind baddir_ok fun bad hbad => ?_
  generalize nodes.getD 0 ("" : Str) = st at hst lst ⊢
  rw [forF_nx, pure_bind, orElse_nx]
  · obtain ⟨y, ey, hy⟩ := getM_last (l := nodes) (by omega)
    rw [ey, pure_bind, walk_init (nodes := [y]) (signs := []) (fun x hx => by rw [List.mem_singleton.mp hx]; exact hnd y hy) (by simp) (by simp), frame_pure, pure_bind, pure_bind, kept_ok (nodes := [y]) (signs := []) (by simp) (by simp) (by simp), frame_pure, pure_bind, if_neg (by simp)]
    exact .pure rfl
  · intro x hx
    have hx2 : (x ≠ "up" ∧ x ≠ "down") ∧ x.length ≤ 1000 := by
      simp only [List.mem_cons, List.not_mem_nil, or_false] at hx
      rcases hx with rfl | rfl | rfl | rfl
      · exact ⟨⟨by decide +kernel, by decide +kernel⟩, by decide⟩
      · exact ⟨⟨by decide +kernel, by decide +kernel⟩, by decide⟩
      · have hm : 32 ∈ tx (st ++ " ") := by rw [tx_app]; exact List.mem_append_right _ (by decide +kernel)
        refine ⟨⟨fun z => ?_, fun z => ?_⟩, ?_⟩
        · rw [z] at hm; exact absurd hm (by decide +kernel)
        · rw [z] at hm; exact absurd hm (by decide +kernel)
        · rw [len_app]; show st.length + 1 ≤ _; omega
      · exact hbad
    rw [fault_ok hx2.1.1 hx2.1.2, frame_pure, pure_bind]
    rw [show (PyData.list (List.map id [PyData.bool true, PyData.bool false, PyData.bool false, PyData.str x])) = PyData.list [PyData.bool true, PyData.bool false, PyData.bool false, PyData.str x] from rfl, same_refl 7 (.list [.bool true, .bool false, .bool false, .str x]) ⟨by simp, fun z hz => by
      simp only [List.mem_cons, List.not_mem_nil, or_false] at hz
      rcases hz with rfl | rfl | rfl | rfl <;> trivial⟩, frame_pure, pure_bind]
    rfl
theorem law_holds : ∀ ns : List Int, ns.length ≤ 63 → ∃ p', m_law (pool0 ns) = (.ok true, p') := fun ns _ => law_ok.run (Int.le_refl 0)
end My

namespace My
open PySem PySem.Spec L2 Kf
open PyProof.Rows hiding St
theorem facts (hm : ∀ ns : List Int, ns.length ≤ 63 → ∃ p', m_law (pool0 ns) = (.ok true, p')) {w : World} {K : PySem.W.Frag} {h : Heap} {mg : Str → Option Value} {f : Addr} (X : K.In h) (G : h.Ns mainGlobals mg) (hfa : mg ("law" : Str) = some (.ref f)) (c : SaysW fa fn en wn ex K) :
    ∃ fd : FuncData, (∀ (s : Shared) (v : Value), BindsTo s fd ⟨[v], []⟩ [("script", v)]) ∧ ∀ base : Heap, K.In base → base.Ns mainGlobals mg → FnOk PySem.Challenge.pw_kindsfill_k40_walk_counts w K mg base (L2N.CX PySem.Challenge.pw_kindsfill_k40_walk_counts w) 9 f fd ["script"] (spLaw K) := by
  obtain ⟨fd__law_draw, F__law_draw⟩ := c.k.d.def_ 0 rfl
  obtain ⟨fd__law_word, F__law_word⟩ := c.k.d.def_ 1 rfl
  obtain ⟨fd__law_fresh, F__law_fresh⟩ := c.k.d.def_ 2 rfl
  obtain ⟨fd__law_names, F__law_names⟩ := c.k.d.def_ 3 rfl
  obtain ⟨fd__law_unknowns, F__law_unknowns⟩ := c.k.d.def_ 4 rfl
  obtain ⟨fd__law_signs, F__law_signs⟩ := c.k.d.def_ 5 rfl
  obtain ⟨fd_is_kind_name, F_is_kind_name⟩ := c.k.d.def_ 6 rfl
  obtain ⟨fd_is_unknown_name, F_is_unknown_name⟩ := c.k.d.def_ 7 rfl
  obtain ⟨fd_check_node, F_check_node⟩ := c.k.d.def_ 8 rfl
  obtain ⟨fd_check_sign, F_check_sign⟩ := c.k.d.def_ 9 rfl
  obtain ⟨fd_Walk___init__, F_Walk___init__⟩ := c.k.d.def_ 10 rfl
  obtain ⟨fd_Walk_start, F_Walk_start⟩ := c.a.def_ 0 rfl
  obtain ⟨fd__law_same, F__law_same⟩ := c.k.d.def_ 11 rfl
  obtain ⟨fd_Walk_end, F_Walk_end⟩ := c.a.def_ 1 rfl
  obtain ⟨fd_Walk_runs, F_Walk_runs⟩ := c.a.def_ 2 rfl
  obtain ⟨fd_Walk_first, F_Walk_first⟩ := c.a.def_ 3 rfl
  obtain ⟨fd_Walk___len__, F_Walk___len__⟩ := c.k.d.def_ 12 rfl
  obtain ⟨fd_check_direction, F_check_direction⟩ := c.k.d.def_ 13 rfl
  obtain ⟨fd_Walk_counted, F_Walk_counted⟩ := c.k.d.def_ 14 rfl
  obtain ⟨fd__law_counts_kept, F__law_counts_kept⟩ := c.k.d.def_ 15 rfl
  obtain ⟨fd__law_bad_direction, F__law_bad_direction⟩ := c.k.d.def_ 16 rfl
  obtain ⟨fd__law_counted_fault, F__law_counted_fault⟩ := c.k.d.def_ 17 rfl
  obtain ⟨fd_law, F_law⟩ := c.k.d.def_ 18 rfl
  obtain ⟨fd__law_pool, F__law_pool⟩ := c.k.d.def_ 19 rfl
  have er_BadName := er_ok (P := PySem.Challenge.pw_kindsfill_k40_walk_counts) (d := ⟨"BadName", "BadName.__init__", defArgs (mth 2 0), defBody (mth 2 0), defScope (mth 2 0)⟩) (fs := ["name"]) X G (c.k.init _ (List.mem_of_getElem? (i := 0) rfl)) (exAt c.k.more 6 rfl) rfl rfl
  have er_BadSign := er_ok (P := PySem.Challenge.pw_kindsfill_k40_walk_counts) (d := ⟨"BadSign", "BadSign.__init__", defArgs (mth 6 0), defBody (mth 6 0), defScope (mth 6 0)⟩) (fs := ["sign"]) X G (c.k.init _ (List.mem_of_getElem? (i := 1) rfl)) (exAt c.k.more 7 rfl) rfl rfl
  have er_BadCount := er_ok (P := PySem.Challenge.pw_kindsfill_k40_walk_counts) (d := ⟨"BadCount", "BadCount.__init__", defArgs (mth 4 0), defBody (mth 4 0), defScope (mth 4 0)⟩) (fs := ["number"]) X G (c.k.init _ (List.mem_of_getElem? (i := 2) rfl)) (exAt c.k.more 8 rfl) rfl rfl
  have er_BadDirection := er_ok (P := PySem.Challenge.pw_kindsfill_k40_walk_counts) (d := ⟨"BadDirection", "BadDirection.__init__", defArgs (mth 5 0), defBody (mth 5 0), defScope (mth 5 0)⟩) (fs := ["direction"]) X G (c.k.init _ (List.mem_of_getElem? (i := 3) rfl)) (exAt c.k.more 9 rfl) rfl rfl
  have T : Tx PySem.Challenge.pw_kindsfill_k40_walk_counts K mg := ⟨fd__law_draw, F__law_draw, (He.glo_ok X G (c.k.d.fact 0 rfl)), fd__law_word, F__law_word, (He.glo_ok X G (c.k.d.fact 1 rfl)), fd__law_fresh, F__law_fresh, (He.glo_ok X G (c.k.d.fact 2 rfl)), fd__law_names, F__law_names, (He.glo_ok X G (c.k.d.fact 3 rfl)), fd__law_unknowns, F__law_unknowns, (He.glo_ok X G (c.k.d.fact 4 rfl)), fd__law_signs, F__law_signs, (He.glo_ok X G (c.k.d.fact 5 rfl)), fd_is_kind_name, F_is_kind_name, (He.glo_ok X G (c.k.d.fact 6 rfl)), fd_is_unknown_name, F_is_unknown_name, (He.glo_ok X G (c.k.d.fact 7 rfl)), fd_check_node, F_check_node, (He.glo_ok X G (c.k.d.fact 8 rfl)), fd_check_sign, F_check_sign, (He.glo_ok X G (c.k.d.fact 9 rfl)), fd_Walk___init__, F_Walk___init__, fd_Walk_start, F_Walk_start, fd__law_same, F__law_same, (He.glo_ok X G (c.k.d.fact 10 rfl)), fd_Walk_end, F_Walk_end, fd_Walk_runs, F_Walk_runs, fd_Walk_first, F_Walk_first, fd_Walk___len__, F_Walk___len__, fd_check_direction, F_check_direction, (He.glo_ok X G (c.k.d.fact 11 rfl)), fd_Walk_counted, F_Walk_counted, fd__law_counts_kept, F__law_counts_kept, (He.glo_ok X G (c.k.d.fact 12 rfl)), fd__law_bad_direction, F__law_bad_direction, (He.glo_ok X G (c.k.d.fact 13 rfl)), fd__law_counted_fault, F__law_counted_fault, (He.glo_ok X G (c.k.d.fact 14 rfl)), fd_law, F_law, (He.glo_ok X G (c.k.d.fact 15 rfl)), fd__law_pool, F__law_pool, (He.glo_ok X G (c.k.d.fact 16 rfl)), (He.free_ok X G (c.k.d.fact 17 rfl)), (He.free_ok X G (c.k.d.fact 18 rfl)), (He.free_ok X G (c.k.d.fact 19 rfl)), (He.free_ok X G (c.k.d.fact 20 rfl)), (He.free_ok X G (c.k.d.fact 21 rfl)), (He.free_ok X G (c.k.d.fact 22 rfl)), (He.free_ok X G (c.k.d.fact 23 rfl)), (He.free_ok X G (c.k.d.fact 24 rfl)), (He.free_ok X G (c.k.d.fact 25 rfl)), (He.free_ok X G (c.k.d.fact 26 rfl)), (He.free_ok X G (c.k.d.fact 27 rfl)), (He.str_ok X G (c.k.d.fact 28 rfl)), (He.str_ok X G (c.k.d.fact 29 rfl)), (He.int_ok X G (c.k.d.fact 30 rfl)), (He.glo_ok X G (c.k.d.fact 31 rfl)), (He.cls_ok (c.k.d.fact 32 rfl)), (He.noat_ok (c.k.d.fact 33 rfl)), (He.noat_ok (c.k.d.fact 34 rfl)), (He.mkr_ok (c.k.d.fact 35 rfl)), (He.meth_ok (c.k.d.fact 36 rfl)), (He.meth_ok (c.k.d.fact 37 rfl)), (He.glo_ok X G (c.k.d.fact 38 rfl)), (He.tupB_ok (exAt c.k.more 0 rfl)), (prB_ok (exAt c.k.more 1 rfl)), (prB_ok (exAt c.k.more 2 rfl)), (prB_ok (exAt c.k.more 3 rfl)), (prB_ok (exAt c.k.more 4 rfl)), (emptyTB_ok (exAt c.k.more 5 rfl)), er_BadName.1, er_BadName.2, (He.glo_ok X G (c.k.d.fact 39 rfl)), er_BadSign.1, er_BadSign.2, (He.glo_ok X G (c.k.d.fact 40 rfl)), er_BadCount.1, er_BadCount.2, (He.glo_ok X G (c.k.d.fact 41 rfl)), er_BadDirection.1, er_BadDirection.2, (He.glo_ok X G (c.k.d.fact 42 rfl)), (He.glo_ok X G (c.k.d.fact 43 rfl)), (etB_ok (exAt c.k.more 10 rfl)), (eiB_ok (exAt c.k.more 11 rfl)), (eiB_ok (exAt c.k.more 12 rfl)), (He.glo_ok X G (c.k.d.fact 44 rfl)), (eiB_ok (exAt c.k.more 13 rfl)), (eiB_ok (exAt c.k.more 14 rfl)), (efB_ok (exAt c.k.more 15 rfl))⟩
  have e := hfa.symm.trans T.g_law
  cases e
  have b := FunD.bindsA (ps := ["script"]) T.F_law fun _ _ _ _ _ _ us hl => match us, hl with | [_], _ => rfl
  exact ⟨T.fd_law, fun s v => b s [v] rfl, fun base _ _ => ok_law T hm⟩
end My

set_option maxRecDepth 100000
open PySem PySem.W PySem.Calls PyProof.Rows
set_option maxHeartbeats 0 in
theorem PySem.Challenge.cw_kindsfill_k40_walk_counts_holds : PySem.Challenge.rw_kindsfill_k40_walk_counts.Holds := by
  w_on; o_law
  refine HandSHeadRun.head_any (r := OpenLaw.row PySem.Challenge.rw_kindsfill_k40_walk_counts) (q := view (OpenLaw.row PySem.Challenge.rw_kindsfill_k40_walk_counts).prog [33]) (H := My.hk) (ob := My.ob) (M := 8000) (loose := My.loose) (d := HandSHeadRun.topDef (OpenLaw.row PySem.Challenge.rw_kindsfill_k40_walk_counts).prog 33) (kwd := []) My.ob_eq
    (by kernel_rfl) (fun s => by kernel_rfl) My.run (by kernel_rfl) (by kernel_rfl) (by kernel_rfl) (by rfl) (by first | assumption | decide +kernel) (by decide +kernel) ⟨rfl, rfl, rfl, rfl, rfl, by decide +kernel⟩ ?hw ?hc
  case hw => w_witness2
  case hc =>
    refine L2.walk_ofE (l := PySem.Challenge.rw_kindsfill_k40_walk_counts) (n := 63) (k := 9) (x := "script") (CX := Kf.CXw (PySem.Challenge.rw_kindsfill_k40_walk_counts).prog) rfl (by decide) (by kernel_rfl) ⟨rfl, by decide, by decide⟩ ?F Kf.cxw_none
    intro w mg fa h Y G hmg0
    obtain ⟨K, KX, c⟩ := Y
    have hmg : mg ("law" : PySem.Str) = some (.ref fa) := by
      have e : (HandSHeadRun.topDef (OpenLaw.row PySem.Challenge.rw_kindsfill_k40_walk_counts).prog 33).name = ("law" : PySem.Str) := by kernel_rfl
      rw [← e]
      exact hmg0
    obtain ⟨fd, hb, hF⟩ := My.facts My.law_holds (w := w) KX G hmg c
    exact ⟨K, fd, Kf.spLaw K, KX, hb, fun H a ns hl _ hS => ⟨a, ns, rfl, hS, hl, fun _ => rfl⟩, fun base h1 h2 => Kf.fn_cxw (hF base h1 h2)⟩

