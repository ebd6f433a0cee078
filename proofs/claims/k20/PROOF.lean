import PyProof.Rows.All
import Wide.All
import OpenK.AllK
import Wide.FinOn
import HandS.ForMost
import HandS.Defaults
import HandS.HeadHook2
import HandS.Flow
import HandS.Wide
import HandS.TupAny
import HandS.IsInst
import HandS.Iter
import HandS.Conv
import HandS.Star
import HandS.More
import HandS.HeadEnd
import HandS.Deep
import HandS.TupMul
import HandS.RaiseMore
import HandS.Style
import HandS.Head0
import HandS.Head1
import HandS.Head2
import HandS.HeadHook1
import PySem.Challenge.RW_turnedblind_k20_whole_moves_and_kinds_of
set_option Elab.async false
set_option linter.all false
set_option maxRecDepth 100000
set_option maxHeartbeats 0
/-! The abstract layer: data as trees, a numbered heap of what is mutable, and how both stand for a HandS heap. -/
namespace Ab
open PySem PySem.Spec L2

/-- a value: a tree of what never changes, or the number of something that may -/
inductive D where
  | non | bl (b : Bool) | int (i : Int) | str (x : Str) | glo (x : Str) | ty (n : String)
  | tup (ds : List D) | lst (ds : List D) | scr (ds : List D) | loc (n : Nat)
/-- what stands at a number -/
inductive AO where
  | lst (ds : List D)
  | dct (kvs : List (List Key × D))
abbrev AH := List AO
abbrev En := List (Option D)
abbrev Ro := Nat → Option Addr

/-- how a computation ends -/
inductive R (α : Type) where
  | ok (a : α) (h : AH)
  | exc (x : Str) (fs : List (Str × D)) (h : AH)
  | bad
def R.bind {α β : Type} (r : R α) (k : α → AH → R β) : R β := match r with
  | .ok a h => k a h
  | .exc x fs h => .exc x fs h
  | .bad => .bad
abbrev M (α : Type) := En → AH → R α

section
variable (K : PySem.W.Frag)
def NoR (ρ : Ro) (a : Addr) : Prop := ∀ n, ρ n ≠ some a
mutual
/-- how a value stands: by the numbers' addresses ρ and the part of the heap that never changes P -/
inductive Rep (ρ : Ro) (P : Hp) : D → V → Prop
  | non : Rep ρ P .non .non
  | bl (b : Bool) : Rep ρ P (.bl b) (.bl b)
  | int (i : Int) : Rep ρ P (.int i) (.int i)
  | str (x : Str) : Rep ρ P (.str x) (.str x)
  | glo (x : Str) : Rep ρ P (.glo x) (.ref (He.ga K x))
  | ty (n : String) : Rep ρ P (.ty n) (.ty n)
  | tup {a : Addr} {vs : List V} {ds : List D} : P a = some (.tup vs) → RepL ρ P ds vs → Rep ρ P (.tup ds) (.ref a)
  | lst {a : Addr} {vs : List V} {ds : List D} : P a = some (.lst vs) → RepL ρ P ds vs → Rep ρ P (.lst ds) (.ref a)
  | scr {a : Addr} {vs : List V} {ds : List D} : SqL K P a vs → RepL ρ P ds vs → Rep ρ P (.scr ds) (.ref a)
  | loc {n : Nat} {a : Addr} : ρ n = some a → Rep ρ P (.loc n) (.ref a)
inductive RepL (ρ : Ro) (P : Hp) : List D → List V → Prop
  | nil : RepL ρ P [] []
  | cons {d : D} {v : V} {ds : List D} {vs : List V} : Rep ρ P d v → RepL ρ P ds vs → RepL ρ P (d :: ds) (v :: vs)
end
/-- an object -/
def RO (ρ : Ro) (P H : Hp) (a : Addr) : AO → Prop
  | .lst ds => ∃ vs, H a = some (.lst vs) ∧ RepL K ρ P ds vs
  | .dct kvs => ∃ kws : List (List Key × V), H a = some (.dT kws) ∧ kws.map (·.1) = kvs.map (·.1) ∧ RepL K ρ P (kvs.map (·.2)) (kws.map (·.2))
/-- the heaps -/
structure SR (ρ : Ro) (P H : Hp) (h : AH) : Prop where
  sub : ∀ a o, P a = some o → H a = some o
  apart : ∀ n a, ρ n = some a → P a = none
  inj : ∀ n m a, ρ n = some a → ρ m = some a → n = m
  obj : ∀ n o, h[n]? = some o → ∃ a, ρ n = some a ∧ RO K ρ P H a o
  dom : ∀ n, h.length ≤ n → ρ n = none
/-- the frame -/
def RE (ρ : Ro) (P : Hp) (env : En) (σ : L2.St) : Prop := env.length = σ.length ∧ ∀ (i : Nat) (d : D), env[i]? = some (some d) → ∃ v, σ[i]? = some (some v) ∧ Rep K ρ P d v
end
/-- what a computation may do to what stood -/
structure Step (ρ : Ro) (P H : Hp) (ρ' : Ro) (P' H' : Hp) : Prop where
  mono : ∀ n a, ρ n = some a → ρ' n = some a
  pure : ∀ a o, P a = some o → P' a = some o
  newr : ∀ n a, ρ n = none → ρ' n = some a → H a = none
  newp : ∀ a o, P' a = some o → P a = some o ∨ H a = none
  keep : ∀ a o, H a = some o → NoR ρ a → H' a = some o
  there : ∀ a, H a ≠ none → H' a ≠ none
section
variable {K : PySem.W.Frag} {ρ ρ' ρ1 : Ro} {P H P' H' P1 H1 : Hp}
theorem Step.refl (ρ : Ro) (P H : Hp) : Step ρ P H ρ P H := ⟨fun _ _ h => h, fun _ _ h => h, fun n a h h' => (by rw [h] at h'; cases h'), fun _ _ h => .inl h, fun _ _ h _ => h, fun _ h => h⟩
theorem Step.noR (s : Step ρ P H ρ' P' H') {a : Addr} (ha : H a ≠ none) (h : NoR ρ a) : NoR ρ' a := fun n e => by
  cases q : ρ n with
  | none => exact ha (s.newr n a q e)
  | some b =>
    have := s.mono n b q
    rw [this] at e
    cases e
    exact h n q
theorem Step.noP (s : Step ρ P H ρ' P' H') {a : Addr} (ha : H a ≠ none) (h : P a = none) : P' a = none := by
  cases q : P' a with
  | none => rfl
  | some o =>
    rcases s.newp a o q with z | z
    · rw [h] at z; cases z
    · exact absurd z ha
theorem Step.free (s : Step ρ P H ρ' P' H') {a : Addr} (h : H' a = none) : H a = none := by
  cases w : H a with
  | none => rfl
  | some o => exact absurd h (s.there a (by rw [w]; simp))
theorem Step.trans (s : Step ρ P H ρ1 P1 H1) (t : Step ρ1 P1 H1 ρ' P' H') : Step ρ P H ρ' P' H' := by
  refine ⟨fun n a h => t.mono n a (s.mono n a h), fun a o h => t.pure a o (s.pure a o h), fun n a h h' => ?_, fun a o h => ?_, fun a o h hn => t.keep a o (s.keep a o h hn) (s.noR (by rw [h]; simp) hn), fun a h => t.there a (s.there a h)⟩
  · cases q : ρ1 n with
    | none => exact s.free (t.newr n a q h')
    | some b =>
      have e := t.mono n b q
      rw [e] at h'
      cases h'
      exact s.newr n a h q
  · rcases t.newp a o h with z | z
    · exact s.newp a o z
    · exact .inr (s.free z)
theorem sqL_sub (s : ∀ a o, P a = some o → P' a = some o) {a : Addr} {xs : List V} (h : SqL K P a xs) : SqL K P' a xs := h.imp (fun q => q.imp (s _ _) fun ⟨o, q⟩ => ⟨o, s _ _ q⟩) fun q => q
theorem sqT_tk (s : ∀ a o, P a = some o → P' a = some o) {a : Addr} {xs : List V} (h : P a = some (.tup xs)) : SqT K P' a xs := .of (s _ _ h)
theorem sqT_sub (s : ∀ a o, P a = some o → P' a = some o) {a : Addr} {xs : List V} (h : SqT K P a xs) : SqT K P' a xs := h.imp (fun q => q.imp (s _ _) fun ⟨o, q⟩ => ⟨o, s _ _ q⟩) fun q => q
mutual
theorem Rep.up (r : ∀ n a, ρ n = some a → ρ' n = some a) (s : ∀ a o, P a = some o → P' a = some o) : ∀ {d : D} {v : V}, Rep K ρ P d v → Rep K ρ' P' d v
  | _, _, .non => .non
  | _, _, .bl b => .bl b
  | _, _, .int i => .int i
  | _, _, .str x => .str x
  | _, _, .glo x => .glo x
  | _, _, .ty n => .ty n
  | _, _, .tup p q => .tup (s _ _ p) (RepL.up r s q)
  | _, _, .lst p q => .lst (s _ _ p) (RepL.up r s q)
  | _, _, .scr p q => .scr (sqL_sub s p) (RepL.up r s q)
  | _, _, .loc e => .loc (r _ _ e)
theorem RepL.up (r : ∀ n a, ρ n = some a → ρ' n = some a) (s : ∀ a o, P a = some o → P' a = some o) : ∀ {ds : List D} {vs : List V}, RepL K ρ P ds vs → RepL K ρ' P' ds vs
  | _, _, .nil => .nil
  | _, _, .cons a b => .cons (Rep.up r s a) (RepL.up r s b)
end
theorem Rep.step (s : Step ρ P H ρ' P' H') {d : D} {v : V} (h : Rep K ρ P d v) : Rep K ρ' P' d v := h.up s.mono s.pure
theorem RepL.step (s : Step ρ P H ρ' P' H') {d : List D} {v : List V} (h : RepL K ρ P d v) : RepL K ρ' P' d v := h.up s.mono s.pure
theorem RE.step (s : Step ρ P H ρ' P' H') {env : En} {σ : L2.St} (r : RE K ρ P env σ) : RE K ρ' P' env σ := ⟨r.1, fun i d e => let ⟨v, h, q⟩ := r.2 i d e; ⟨v, h, q.step s⟩⟩
theorem RepL.length : ∀ {ds : List D} {vs : List V}, RepL K ρ P ds vs → vs.length = ds.length
  | _, _, .nil => rfl
  | _, _, .cons _ b => by simp [RepL.length b]
theorem RepL.get : ∀ {ds : List D} {vs : List V} {i : Nat} {d : D}, RepL K ρ P ds vs → ds[i]? = some d → ∃ v, vs[i]? = some v ∧ Rep K ρ P d v
  | _, _, _, _, .nil, e => by simp at e
  | _, _, 0, _, .cons a b, e => by simp at e; subst e; exact ⟨_, rfl, a⟩
  | _, _, i + 1, d, .cons a b, e => by
    obtain ⟨v, h1, h2⟩ := RepL.get (i := i) (d := d) b (by simpa using e)
    exact ⟨v, by simpa using h1, h2⟩
theorem RepL.getV : ∀ {ds : List D} {vs : List V} {i : Nat} {v : V}, RepL K ρ P ds vs → vs[i]? = some v → ∃ d, ds[i]? = some d ∧ Rep K ρ P d v
  | _, _, _, _, .nil, e => by simp at e
  | _, _, 0, _, .cons a b, e => by simp at e; subst e; exact ⟨_, rfl, a⟩
  | _, _, i + 1, v, .cons a b, e => by
    obtain ⟨d, h1, h2⟩ := RepL.getV (i := i) (v := v) b (by simpa using e)
    exact ⟨d, by simpa using h1, h2⟩
theorem RepL.append : ∀ {ds es : List D} {vs ws : List V}, RepL K ρ P ds vs → RepL K ρ P es ws → RepL K ρ P (ds ++ es) (vs ++ ws)
  | _, _, _, _, .nil, s => s
  | _, _, _, _, .cons a b, s => .cons a (RepL.append b s)
theorem RepL.set {d : D} {v : V} (r : Rep K ρ P d v) : ∀ {ds : List D} {vs : List V} (i : Nat), RepL K ρ P ds vs → RepL K ρ P (ds.set i d) (vs.set i v)
  | _, _, _, .nil => .nil
  | _, _, 0, .cons _ t => .cons r t
  | _, _, i + 1, .cons q t => .cons q (RepL.set r i t)
theorem RepL.take : ∀ {ds : List D} {vs : List V} (n : Nat), RepL K ρ P ds vs → RepL K ρ P (ds.take n) (vs.take n)
  | _, _, 0, _ => .nil
  | _, _, _ + 1, .nil => .nil
  | _, _, n + 1, .cons r t => .cons r (RepL.take n t)
theorem RepL.drop : ∀ {ds : List D} {vs : List V} (n : Nat), RepL K ρ P ds vs → RepL K ρ P (ds.drop n) (vs.drop n)
  | _, _, 0, r => r
  | _, _, _ + 1, .nil => .nil
  | _, _, n + 1, .cons _ t => RepL.drop n t
theorem RepL.eraseIdx : ∀ {ds : List D} {vs : List V} (i : Nat), RepL K ρ P ds vs → RepL K ρ P (ds.eraseIdx i) (vs.eraseIdx i)
  | _, _, _, .nil => .nil
  | _, _, 0, .cons _ t => t
  | _, _, i + 1, .cons q t => .cons q (RepL.eraseIdx i t)
theorem RepL.reverse {ds : List D} {vs : List V} (h : RepL K ρ P ds vs) : RepL K ρ P ds.reverse vs.reverse := by
  induction ds generalizing vs with
  | nil => cases h; exact .nil
  | cons d ds ih =>
    cases h with
    | cons a b =>
      rw [List.reverse_cons, List.reverse_cons]
      exact (ih b).append (.cons a .nil)
theorem RepL.ints {ρ : Ro} {P : Hp} : ∀ ns : List Int, RepL K ρ P (ns.map D.int) (ns.map V.int)
  | [] => .nil
  | n :: ns => .cons (.int n) (RepL.ints ns)
theorem RepL.bls_iff : ∀ {bs : List Bool} {vs : List V}, RepL K ρ P (bs.map D.bl) vs → vs = bs.map V.bl
  | [], _, .nil => rfl
  | b :: bs, _, .cons (.bl _) r => by rw [RepL.bls_iff r]; rfl
theorem RepL.ints_iff : ∀ {bs : List Int} {vs : List V}, RepL K ρ P (bs.map D.int) vs → vs = bs.map V.int
  | [], _, .nil => rfl
  | b :: bs, _, .cons (.int _) r => by rw [RepL.ints_iff r]; rfl

/-! ### results -/
/-- how a value stands -/
abbrev Rl (α β : Type) := Ro → Hp → α → β → Prop
abbrev RV (K : PySem.W.Frag) : Rl D V := fun ρ P d v => Rep K ρ P d v
abbrev RVs (K : PySem.W.Frag) : Rl (List D) (List V) := fun ρ P d v => RepL K ρ P d v
abbrev RQ (α : Type) : Rl α α := fun _ _ a b => a = b
/-- an exception's dict -/
def RX (K : PySem.W.Frag) (ρ : Ro) (P : Hp) (fs : List (Str × D)) (dd : Option Addr) : Prop :=
  (fs = [] ∧ dd = none) ∨ ∃ da fvs, dd = some da ∧ P da = some (.xd fvs) ∧ fvs.map (·.1) = fs.map (·.1) ∧ RepL K ρ P (fs.map (·.2)) (fvs.map (·.2))
/-- what is wanted behind -/
def Post {α β : Type} (K : PySem.W.Frag) (L : Rl α β) (E : XK) (ρ : Ro) (P H : Hp) (Q : β → Hp → Prop) : R α → Prop
  | .ok a h' => ∀ ρ' P' H' v, Step ρ P H ρ' P' H' → SR K ρ' P' H' h' → L ρ' P' a v → Q v H'
  | .exc x fs h' => ∀ ρ' P' H' dd, Step ρ P H ρ' P' H' → SR K ρ' P' H' h' → RX K ρ' P' fs dd → E (.ref (He.ga K x)) dd H'
  | .bad => False
theorem Post.mono {α β : Type} {L : Rl α β} {E : XK} {Q : β → Hp → Prop} {r : R α} (p : Post K L E ρ P H Q r) (s : Step ρ P H ρ1 P1 H1) : Post K L E ρ1 P1 H1 Q r := by
  cases r with
  | ok a h => exact fun ρ' P' H' v t q1 q2 => p ρ' P' H' v (s.trans t) q1 q2
  | exc x fs h => exact fun ρ' P' H' dd t q1 q2 => p ρ' P' H' dd (s.trans t) q1 q2
  | bad => exact p
theorem Post.imp {α β : Type} {L : Rl α β} {E : XK} {Q Q' : β → Hp → Prop} {r : R α} (p : Post K L E ρ P H Q r) (h : ∀ v H', Q v H' → Q' v H') : Post K L E ρ P H Q' r := by
  cases r with
  | ok a h' => exact fun ρ' P' H' v t q1 q2 => h _ _ (p ρ' P' H' v t q1 q2)
  | exc x fs h => exact p
  | bad => exact p
/-- a reading does what the computation says -/
def Sd {α β : Type} (K : PySem.W.Frag) (L : Rl α β) (E : XK) (t : L2.St → Hp → (β → Hp → Prop) → Prop) (m : M α) : Prop :=
  ∀ ρ P σ H env h, SR K ρ P H h → RE K ρ P env σ → ∀ Q, Post K L E ρ P H Q (m env h) → t σ H Q
/-- one behind another -/
theorem Post.bind {α β γ δ : Type} {L : Rl α β} {L' : Rl γ δ} {E : XK} {Q : δ → Hp → Prop} {r : R α} {k : α → AH → R γ}
    (p : Post K L' E ρ P H Q (r.bind k)) {Q' : β → Hp → Prop} (h : ∀ a h' ρ' P' H' v, Step ρ P H ρ' P' H' → SR K ρ' P' H' h' → L ρ' P' a v → Post K L' E ρ' P' H' Q (k a h') → Q' v H') : Post K L E ρ P H Q' r := by
  cases r with
  | ok a h' => exact fun ρ' P' H' v t q1 q2 => h a h' ρ' P' H' v t q1 q2 (Post.mono (r := k a h') p t)
  | exc x fs h => exact p
  | bad => exact p
/-! ### new things -/
theorem SR.here {h : AH} (s : SR K ρ P H h) {n : Nat} {a : Addr} (e : ρ n = some a) : ∃ o, h[n]? = some o ∧ RO K ρ P H a o := by
  cases q : h[n]? with
  | none =>
    have := s.dom n (by simpa using q)
    rw [this] at e; cases e
  | some o =>
    obtain ⟨b, e1, r⟩ := s.obj n o q
    rw [e] at e1; cases e1
    exact ⟨o, rfl, r⟩
theorem RO.there {a : Addr} {o : AO} (r : RO K ρ P H a o) : H a ≠ none := by
  cases o with
  | lst ds => obtain ⟨vs, e, _⟩ := r; rw [e]; simp
  | dct ds => obtain ⟨vs, e, _⟩ := r; rw [e]; simp
theorem SR.noR {h : AH} (s : SR K ρ P H h) {p : Addr} (hp : H p = none) : NoR ρ p := fun n e => by
  obtain ⟨o, _, r⟩ := s.here e
  exact r.there hp
theorem SR.noP {h : AH} (s : SR K ρ P H h) {p : Addr} (hp : H p = none) : P p = none := by
  cases q : P p with
  | none => rfl
  | some o => rw [s.sub p o q] at hp; cases hp
theorem RO.up {a : Addr} {o : AO} (r : ∀ n a, ρ n = some a → ρ' n = some a) (s : ∀ a o, P a = some o → P' a = some o) (k : ∀ o, H a = some o → H' a = some o) (x : RO K ρ P H a o) : RO K ρ' P' H' a o := by
  cases o with
  | lst ds => obtain ⟨vs, e, q⟩ := x; exact ⟨vs, k _ e, q.up r s⟩
  | dct ds => obtain ⟨vs, e, e2, q⟩ := x; exact ⟨vs, k _ e, e2, q.up r s⟩
theorem upd_keep {p : Addr} {o : HO} (hp : H p = none) : ∀ a u, H a = some u → upd H p o a = some u := fun a u e => by rw [upd_ne (ne_of_none e hp)]; exact e
/-- a new thing that never changes -/
theorem SR.pure {h : AH} (s : SR K ρ P H h) {p : Addr} (hp : H p = none) (o : HO) : SR K ρ (upd P p o) (upd H p o) h ∧ Step ρ P H ρ (upd P p o) (upd H p o) := by
  have np := s.noP hp
  have nr := s.noR hp
  refine ⟨⟨fun a u e => ?_, fun n a e => ?_, s.inj, fun n u e => ?_, s.dom⟩, ⟨fun _ _ e => e, upd_keep np, fun n a e e' => (by rw [e] at e'; cases e'), fun a u e => ?_, fun a u e _ => upd_keep hp a u e, fun a e => ?_⟩⟩
  · by_cases z : a = p
    · subst z; rw [upd_same] at e ⊢; exact e
    · rw [upd_ne z] at e ⊢; exact s.sub a u e
  · have z : a ≠ p := fun z => nr n (z ▸ e)
    rw [upd_ne z]; exact s.apart n a e
  · obtain ⟨a, e1, r⟩ := s.obj n u e
    exact ⟨a, e1, r.up (fun _ _ e => e) (upd_keep np) (upd_keep hp a)⟩
  · by_cases z : a = p
    · subst z; exact .inr hp
    · rw [upd_ne z] at e; exact .inl e
  · cases w : H a with
    | none => exact absurd w e
    | some u => rw [upd_keep hp a u w]; simp
/-- a new thing of no one's (yet) -/
theorem SR.own {h : AH} (s : SR K ρ P H h) {p : Addr} (hp : H p = none) (o : HO) : SR K ρ P (upd H p o) h ∧ Step ρ P H ρ P (upd H p o) := by
  refine ⟨⟨fun a u e => upd_keep hp a u (s.sub a u e), s.apart, s.inj, fun n u e => ?_, s.dom⟩, ⟨fun _ _ e => e, fun _ _ e => e, fun n a e e' => (by rw [e] at e'; cases e'), fun _ _ e => .inl e, fun a u e _ => upd_keep hp a u e, fun a e => ?_⟩⟩
  · obtain ⟨a, e1, r⟩ := s.obj n u e
    exact ⟨a, e1, r.up (fun _ _ e => e) (fun _ _ e => e) (upd_keep hp a)⟩
  · cases w : H a with
    | none => exact absurd w e
    | some u => rw [upd_keep hp a u w]; simp
/-- a thing of no one's changes -/
theorem SR.loose {h : AH} (s : SR K ρ P H h) {p : Addr} {o : HO} (np : P p = none) (nr : NoR ρ p) : SR K ρ P (upd H p o) h := by
  refine ⟨fun a u e => ?_, s.apart, s.inj, fun n u e => ?_, s.dom⟩
  · have z : a ≠ p := fun z => by rw [z, np] at e; cases e
    rw [upd_ne z]; exact s.sub a u e
  · obtain ⟨a, e1, r⟩ := s.obj n u e
    have z : a ≠ p := fun z => nr n (z ▸ e1)
    exact ⟨a, e1, r.up (fun _ _ e => e) (fun _ _ e => e) fun o e => by rw [upd_ne z]; exact e⟩
/-- a thing of no one's gets a number -/
theorem SR.number {h : AH} (s : SR K ρ P H h) {p : Addr} {o : AO} (np : P p = none) (nr : NoR ρ p) (r : RO K ρ P H p o) : SR K (fun n => if n = h.length then some p else ρ n) P H (h ++ [o]) := by
  have up : ∀ n a, ρ n = some a → (fun n => if n = h.length then some p else ρ n) n = some a := fun n a e => by
    have z : n ≠ h.length := fun z => by rw [z, s.dom _ (Nat.le_refl _)] at e; cases e
    show (if n = h.length then some p else ρ n) = some a
    rw [if_neg z]; exact e
  refine ⟨s.sub, fun n a e => ?_, fun n m a e e' => ?_, fun n u e => ?_, fun n hn => ?_⟩
  · have e : (if n = h.length then some p else ρ n) = some a := e
    split at e
    · cases e; exact np
    · exact s.apart n a e
  · have e : (if n = h.length then some p else ρ n) = some a := e
    have e' : (if m = h.length then some p else ρ m) = some a := e'
    split at e <;> split at e'
    · omega
    · cases e; exact absurd e' (nr m)
    · cases e'; exact absurd e (nr n)
    · exact s.inj n m a e e'
  · by_cases z : n < h.length
    · rw [List.getElem?_append_left z] at e
      obtain ⟨a, e1, q⟩ := s.obj n u e
      exact ⟨a, up n a e1, q.up up (fun _ _ e => e) fun _ e => e⟩
    · have z2 : n = h.length := by
        have := (List.getElem?_eq_some_iff.mp e).1
        simp at this; omega
      subst z2
      rw [List.getElem?_append_right (Nat.le_refl _)] at e
      simp at e
      subst e
      exact ⟨p, by simp, r.up up (fun _ _ e => e) fun _ e => e⟩
  · have z : h.length + 1 ≤ n := by simpa using hn
    show (if n = h.length then some p else ρ n) = none
    rw [if_neg (by omega)]
    exact s.dom n (by omega)
/-- a numbered thing changes -/
theorem SR.put {h : AH} (s : SR K ρ P H h) {n : Nat} {p : Addr} {o : AO} {u : HO} (e : ρ n = some p) (r : RO K ρ P (upd H p u) p o) : SR K ρ P (upd H p u) (h.set n o) ∧ Step ρ P H ρ P (upd H p u) := by
  have np := s.apart n p e
  obtain ⟨o0, e0, r0⟩ := s.here e
  refine ⟨⟨fun a v ea => ?_, s.apart, s.inj, fun m v ev => ?_, fun m hm => s.dom m (by simpa using hm)⟩, ⟨fun _ _ e => e, fun _ _ e => e, fun n a e e' => (by rw [e] at e'; cases e'), fun _ _ e => .inl e, fun a v ea hn => ?_, fun a ea => ?_⟩⟩
  · have z : a ≠ p := fun z => by rw [z, np] at ea; cases ea
    rw [upd_ne z]; exact s.sub a v ea
  · by_cases z : m = n
    · subst z
      have hl := (List.getElem?_eq_some_iff.mp e0).1
      rw [List.getElem?_set_self hl] at ev
      cases ev
      exact ⟨p, e, r⟩
    · rw [List.getElem?_set_ne (Ne.symm z)] at ev
      obtain ⟨a, e1, q⟩ := s.obj m v ev
      have za : a ≠ p := fun w => z (s.inj _ _ _ e1 (w ▸ e))
      exact ⟨a, e1, q.up (fun _ _ e => e) (fun _ _ e => e) fun o e => by rw [upd_ne za]; exact e⟩
  · have z : a ≠ p := fun z => hn n (z ▸ e)
    rw [upd_ne z]; exact ea
  · by_cases z : a = p
    · rw [z, upd_same]; simp
    · rw [upd_ne z]; exact ea
end
end Ab

namespace Ab
open PySem PySem.Spec L2
section
variable {K : PySem.W.Frag} {E : XK} {ρ ρ' ρ1 : Ro} {P H P' H' P1 H1 : Hp}
/-! ### names, constants, operators -/
def mVar (i : Nat) : M D := fun env h => match env[i]? with
  | some (some d) => .ok d h
  | _ => .bad
theorem sd_var {i : Nat} : Sd K (RV K) E (tVar i) (mVar i) := fun ρ P σ H env h s r Q p => by
  unfold mVar at p
  cases q : env[i]? with
  | none => rw [q] at p; exact p.elim
  | some o =>
    cases o with
    | none => rw [q] at p; exact p.elim
    | some d =>
      rw [q] at p
      obtain ⟨v, e, w⟩ := r.2 i d q
      exact ⟨v, e, p ρ P H v (Step.refl ..) s w⟩
def mC (d : D) : M D := fun _ h => .ok d h
theorem sd_c {d : D} {v : V} (w : ∀ ρ P, Rep K ρ P d v) : Sd K (RV K) E (tC v) (mC d) := fun ρ P σ H env h s r Q p => p ρ P H v (Step.refl ..) s (w ρ P)
def OpS (K : PySem.W.Frag) (E : XK) (r : R2) (f : D → D → AH → R D) : Prop := ∀ ρ P H h x y dx dy, SR K ρ P H h → Rep K ρ P dx x → Rep K ρ P dy y → ∀ Q, Post K (RV K) E ρ P H Q (f dx dy h) → r x y H Q
def mBin (f : D → D → AH → R D) (ma mb : M D) : M D := fun env h => (ma env h).bind fun a h1 => (mb env h1).bind fun b h2 => f a b h2
theorem sd_op {r : R2} {f : D → D → AH → R D} {ta tb : TE} {ma mb : M D} (ha : Sd K (RV K) E ta ma) (hb : Sd K (RV K) E tb mb) (hf : OpS K E r f) : Sd K (RV K) E (tOp r ta tb) (mBin f ma mb) := fun ρ P σ H env h s re Q p =>
  ha ρ P σ H env h s re _ (Post.bind p fun a h1 ρ1 P1 H1 v t1 s1 w1 p1 =>
    hb ρ1 P1 σ H1 env h1 s1 (re.step t1) _ (Post.bind p1 fun b h2 ρ2 P2 H2 u t2 s2 w2 p2 => hf ρ2 P2 H2 h2 v u a b s2 (w1.step t2) w2 Q p2))
def UnS (K : PySem.W.Frag) (E : XK) (r : V → Hp → VK → Prop) (f : D → AH → R D) : Prop := ∀ ρ P H h x dx, SR K ρ P H h → Rep K ρ P dx x → ∀ Q, Post K (RV K) E ρ P H Q (f dx h) → r x H Q
def mUn (f : D → AH → R D) (ma : M D) : M D := fun env h => (ma env h).bind fun a h1 => f a h1
theorem sd_un {r : V → Hp → VK → Prop} {f : D → AH → R D} {ta : TE} {ma : M D} (ha : Sd K (RV K) E ta ma) (hf : UnS K E r f) : Sd K (RV K) E (tUn r ta) (mUn f ma) := fun ρ P σ H env h s re Q p =>
  ha ρ P σ H env h s re _ (Post.bind p fun a h1 ρ1 P1 H1 v t1 s1 w1 p1 => hf ρ1 P1 H1 h1 v a s1 w1 Q p1)
/-- what changes nothing -/
theorem Post.here {α β : Type} {L : Rl α β} {a : α} {h : AH} {Q : β → Hp → Prop} {v : β} (p : Post K L E ρ P H Q (.ok a h)) (s : SR K ρ P H h) (w : L ρ P a v) : Q v H := p ρ P H v (Step.refl ..) s w

/-! ### truth, tests -/
def seqD (d : D) (h : AH) : Option (List D) := match d with
  | .lst ds => some ds
  | .scr ds => some ds
  | .loc n => match h[n]? with
    | some (.lst ds) => some ds
    | _ => none
  | _ => none
theorem seqD_sq {h : AH} {d : D} {v : V} {ds : List D} (s : SR K ρ P H h) (w : Rep K ρ P d v) (e : seqD d h = some ds) : ∃ a vs, v = .ref a ∧ SqL K H a vs ∧ RepL K ρ P ds vs := by
  cases w with
  | lst p q => cases e; exact ⟨_, _, rfl, .of (s.sub _ _ p), q⟩
  | scr p q => cases e; exact ⟨_, _, rfl, sqL_sub s.sub p, q⟩
  | loc e1 =>
    obtain ⟨o, e2, r⟩ := s.here e1
    simp only [seqD, e2] at e
    cases o with
    | lst es =>
      cases e
      obtain ⟨vs, e3, q⟩ := r
      exact ⟨_, vs, rfl, .of e3, q⟩
    | dct kvs => cases e
  | _ => cases e
def truD (d : D) (h : AH) : Option Bool := match d with
  | .non => some false
  | .bl b => some b
  | .int i => some (i != 0)
  | .str x => if x.length ≤ sizeLine then some ((x.length : Int) != 0) else none
  | .tup ds => some (!ds.isEmpty)
  | d => (seqD d h).map fun ds => !ds.isEmpty
theorem RepL.isEmpty {ds : List D} {vs : List V} (r : RepL K ρ P ds vs) : ds.isEmpty = vs.isEmpty := by cases r <;> rfl
theorem truD_ok {h : AH} {d : D} {v : V} {b : Bool} (s : SR K ρ P H h) (w : Rep K ρ P d v) (e : truD d h = some b) : TruV K v H b := by
  have sq : ∀ {d : D}, Rep K ρ P d v → (seqD d h).map (fun ds => !ds.isEmpty) = some b → TruV K v H b := fun {d} w e => by
    cases q : seqD d h with
    | none => rw [q] at e; cases e
    | some ds =>
      rw [q] at e
      obtain ⟨a, vs, rfl, sq, r⟩ := seqD_sq s w q
      refine .inl ⟨vs, sq, ?_⟩
      rw [← r.isEmpty]
      exact (Option.some.inj e).symm
  cases w with
  | non => cases e; rfl
  | bl b => cases e; rfl
  | int i => cases e; rfl
  | str x =>
    simp only [truD] at e
    split at e
    · rename_i hl; cases e; exact ⟨hl, rfl⟩
    · cases e
  | glo x => cases e
  | ty n => cases e
  | tup p q =>
    cases e
    exact .inr (.inl ⟨_, sqT_tk s.sub p, by rw [q.isEmpty]⟩)
  | lst p q => exact sq (.lst p q) e
  | scr p q => exact sq (.scr p q) e
  | loc p => exact sq (.loc p) e
def mTru (ma : M D) : M Bool := fun env h => (ma env h).bind fun a h1 => match truD a h1 with
  | some b => .ok b h1
  | none => .bad
theorem sd_tru {ta : TE} {ma : M D} (ha : Sd K (RV K) E ta ma) : Sd K (RQ Bool) E (fun σ H Q => ta σ H fun x H' => ∃ k, TruV K x H' k ∧ Q k H') (mTru ma) := fun ρ P σ H env h s re Q p =>
  ha ρ P σ H env h s re _ (Post.bind p fun a h1 ρ1 P1 H1 v t1 s1 w1 p1 => by
    cases q : truD a h1 with
    | none => rw [q] at p1; exact p1.elim
    | some b =>
      rw [q] at p1
      exact ⟨b, truD_ok s1 w1 q, p1.here s1 rfl⟩)
/-- a comparison as a test: its answer is a truth value -/
def mBl (ma : M D) : M Bool := fun env h => (ma env h).bind fun a h1 => match a with
  | .bl b => .ok b h1
  | _ => .bad
theorem sd_test {ta : TE} {ma : M D} (ha : Sd K (RV K) E ta ma) : Sd K (RQ Bool) E (tTest ta) (mBl ma) := fun ρ P σ H env h s re Q p =>
  ha ρ P σ H env h s re _ (Post.bind p fun a h1 ρ1 P1 H1 v t1 s1 w1 p1 => by
    cases w1 with
    | bl b => exact ⟨b, rfl, p1.here s1 rfl⟩
    | _ => exact p1.elim)
def mNotT (m : M Bool) : M Bool := fun env h => (m env h).bind fun b h1 => .ok (!b) h1
theorem sd_notT {t : TT} {m : M Bool} (ha : Sd K (RQ Bool) E t m) : Sd K (RQ Bool) E (tNot t) (mNotT m) := fun ρ P σ H env h s re Q p =>
  ha ρ P σ H env h s re _ (Post.bind p fun a h1 ρ1 P1 H1 v t1 s1 w1 p1 => by cases w1; exact p1.here s1 rfl)
def mAndT (m n : M Bool) : M Bool := fun env h => (m env h).bind fun b h1 => if b = true then n env h1 else .ok false h1
def mOrT (m n : M Bool) : M Bool := fun env h => (m env h).bind fun b h1 => if b = true then .ok true h1 else n env h1
theorem sd_andT {t u : TT} {m n : M Bool} (ha : Sd K (RQ Bool) E t m) (hb : Sd K (RQ Bool) E u n) : Sd K (RQ Bool) E (tAnd t u) (mAndT m n) := fun ρ P σ H env h s re Q p =>
  ha ρ P σ H env h s re _ (Post.bind p fun a h1 ρ1 P1 H1 v t1 s1 w1 p1 => by
    cases w1
    cases a with
    | true => exact hb _ _ _ _ _ _ s1 (re.step t1) _ p1
    | false => exact Post.here p1 s1 rfl)
theorem sd_orT {t u : TT} {m n : M Bool} (ha : Sd K (RQ Bool) E t m) (hb : Sd K (RQ Bool) E u n) : Sd K (RQ Bool) E (tOr t u) (mOrT m n) := fun ρ P σ H env h s re Q p =>
  ha ρ P σ H env h s re _ (Post.bind p fun a h1 ρ1 P1 H1 v t1 s1 w1 p1 => by
    cases w1
    cases a with
    | false => exact hb _ _ _ _ _ _ s1 (re.step t1) _ p1
    | true => exact Post.here p1 s1 rfl)
theorem sd_yes : Sd K (RQ Bool) E tYes (fun _ h => .ok true h) := fun ρ P σ H env h s re Q p => p.here s rfl
/-- x and y, x or y, not x as values -/
def mAnd (ma mb : M D) : M D := fun env h => (ma env h).bind fun a h1 => match truD a h1 with
  | some true => mb env h1
  | some false => .ok a h1
  | none => .bad
def mOr (ma mb : M D) : M D := fun env h => (ma env h).bind fun a h1 => match truD a h1 with
  | some true => .ok a h1
  | some false => mb env h1
  | none => .bad
def mNot (ma : M D) : M D := fun env h => (ma env h).bind fun a h1 => match truD a h1 with
  | some b => .ok (.bl (!b)) h1
  | none => .bad
theorem sd_and {ta tb : TE} {ma mb : M D} (ha : Sd K (RV K) E ta ma) (hb : Sd K (RV K) E tb mb) : Sd K (RV K) E (tAndT K ta tb) (mAnd ma mb) := fun ρ P σ H env h s re Q p =>
  ha ρ P σ H env h s re _ (Post.bind p fun a h1 ρ1 P1 H1 v t1 s1 w1 p1 => by
    cases q : truD a h1 with
    | none => rw [q] at p1; exact p1.elim
    | some b =>
      rw [q] at p1
      refine ⟨b, truD_ok s1 w1 q, ?_⟩
      cases b with
      | true => exact hb _ _ _ _ _ _ s1 (re.step t1) _ p1
      | false => exact Post.here p1 s1 w1)
theorem sd_or {ta tb : TE} {ma mb : M D} (ha : Sd K (RV K) E ta ma) (hb : Sd K (RV K) E tb mb) : Sd K (RV K) E (tOrT K ta tb) (mOr ma mb) := fun ρ P σ H env h s re Q p =>
  ha ρ P σ H env h s re _ (Post.bind p fun a h1 ρ1 P1 H1 v t1 s1 w1 p1 => by
    cases q : truD a h1 with
    | none => rw [q] at p1; exact p1.elim
    | some b =>
      rw [q] at p1
      refine ⟨b, truD_ok s1 w1 q, ?_⟩
      cases b with
      | false => exact hb _ _ _ _ _ _ s1 (re.step t1) _ p1
      | true => exact Post.here p1 s1 w1)
theorem sd_not {ta : TE} {ma : M D} (ha : Sd K (RV K) E ta ma) : Sd K (RV K) E (tNotT K ta) (mNot ma) := fun ρ P σ H env h s re Q p =>
  ha ρ P σ H env h s re _ (Post.bind p fun a h1 ρ1 P1 H1 v t1 s1 w1 p1 => by
    cases q : truD a h1 with
    | none => rw [q] at p1; exact p1.elim
    | some b =>
      rw [q] at p1
      exact ⟨b, truD_ok s1 w1 q, p1.here s1 (.bl _)⟩)
def mIf (m : M Bool) (ma mb : M D) : M D := fun env h => (m env h).bind fun b h1 => if b = true then ma env h1 else mb env h1
theorem sd_if {t : TT} {ta tb : TE} {m : M Bool} {ma mb : M D} (hc : Sd K (RQ Bool) E t m) (ha : Sd K (RV K) E ta ma) (hb : Sd K (RV K) E tb mb) : Sd K (RV K) E (tIf t ta tb) (mIf m ma mb) := fun ρ P σ H env h s re Q p =>
  hc ρ P σ H env h s re _ (Post.bind p fun a h1 ρ1 P1 H1 v t1 s1 w1 p1 => by
    cases w1
    cases a with
    | true => exact ha _ _ _ _ _ _ s1 (re.step t1) _ p1
    | false => exact hb _ _ _ _ _ _ s1 (re.step t1) _ p1)
/-! ### arguments, tuples, lists -/
def mNil : M (List D) := fun _ h => .ok [] h
def mCons (ma : M D) (mr : M (List D)) : M (List D) := fun env h => (ma env h).bind fun a h1 => (mr env h1).bind fun r h2 => .ok (a :: r) h2
theorem sd_nil : Sd K (RVs K) E tNil mNil := fun ρ P σ H env h s re Q p => p.here s .nil
theorem sd_cons {ta : TE} {tr : TA} {ma : M D} {mr : M (List D)} (ha : Sd K (RV K) E ta ma) (hr : Sd K (RVs K) E tr mr) : Sd K (RVs K) E (tCons ta tr) (mCons ma mr) := fun ρ P σ H env h s re Q p =>
  ha ρ P σ H env h s re _ (Post.bind p fun a h1 ρ1 P1 H1 v t1 s1 w1 p1 =>
    hr _ _ _ _ _ _ s1 (re.step t1) _ (Post.bind p1 fun b h2 ρ2 P2 H2 u t2 s2 w2 p2 => p2.here s2 (.cons (w1.step t2) w2)))
/-- a new tuple -/
theorem Post.newT {h : AH} {ds : List D} {vs : List V} {Q : VK} (p : Post K (RV K) E ρ P H Q (.ok (.tup ds) h)) (s : SR K ρ P H h) (w : RepL K ρ P ds vs) : ∀ q, H q = none → Q (.ref q) (upd H q (.tup vs)) := fun q hq => by
  obtain ⟨s', t⟩ := s.pure hq (.tup vs)
  exact p _ _ _ _ t s' (.tup upd_same (w.step t))
def mTup (m : M (List D)) : M D := fun env h => (m env h).bind fun ds h1 => if ds.length ≤ sizeLine then .ok (.tup ds) h1 else .bad
theorem sd_tup {t : TA} {m : M (List D)} (hr : Sd K (RVs K) E t m) : Sd K (RV K) E (tTup t) (mTup m) := fun ρ P σ H env h s re Q p =>
  hr ρ P σ H env h s re _ (Post.bind p fun a h1 ρ1 P1 H1 v t1 s1 w1 p1 => by
    split at p1
    · rename_i hl
      exact ⟨by rw [w1.length]; exact hl, p1.newT s1 w1⟩
    · exact p1.elim)
/-- a new list, no one's yet -/
def PostF (K : PySem.W.Frag) (E : XK) (ρ : Ro) (P H : Hp) (Q : VK) : R (List D) → Prop
  | .ok ds h' => ∀ ρ' P' H' p vs, Step ρ P H ρ' P' H' → SR K ρ' P' H' h' → H p = none → P' p = none → NoR ρ' p → H' p = some (.lst vs) → RepL K ρ' P' ds vs → Q (.ref p) H'
  | .exc x fs h' => ∀ ρ' P' H' dd, Step ρ P H ρ' P' H' → SR K ρ' P' H' h' → RX K ρ' P' fs dd → E (.ref (He.ga K x)) dd H'
  | .bad => False
def SdF (K : PySem.W.Frag) (E : XK) (t : TE) (m : M (List D)) : Prop := ∀ ρ P σ H env h, SR K ρ P H h → RE K ρ P env σ → ∀ Q, PostF K E ρ P H Q (m env h) → t σ H Q
theorem PostF.mono {Q : VK} {r : R (List D)} (p : PostF K E ρ P H Q r) (s : Step ρ P H ρ1 P1 H1) : PostF K E ρ1 P1 H1 Q r := by
  cases r with
  | ok a h => exact fun ρ' P' H' p' vs t q1 q2 q3 q4 q5 q6 => p ρ' P' H' p' vs (s.trans t) q1 (s.free q2) q3 q4 q5 q6
  | exc x fs h => exact fun ρ' P' H' dd t q1 q2 => p ρ' P' H' dd (s.trans t) q1 q2
  | bad => exact p
theorem PostF.bind {α β : Type} {L : Rl α β} {Q : VK} {r : R α} {k : α → AH → R (List D)}
    (p : PostF K E ρ P H Q (r.bind k)) {Q' : β → Hp → Prop} (h : ∀ a h' ρ' P' H' v, Step ρ P H ρ' P' H' → SR K ρ' P' H' h' → L ρ' P' a v → PostF K E ρ' P' H' Q (k a h') → Q' v H') : Post K L E ρ P H Q' r := by
  cases r with
  | ok a h' => exact fun ρ' P' H' v t q1 q2 => h a h' ρ' P' H' v t q1 q2 (PostF.mono (r := k a h') p t)
  | exc x fs h => exact p
  | bad => exact p
theorem PostF.newL {h : AH} {ds : List D} {vs : List V} {Q : VK} (p : PostF K E ρ P H Q (.ok ds h)) (s : SR K ρ P H h) (w : RepL K ρ P ds vs) : ∀ q, H q = none → Q (.ref q) (upd H q (.lst vs)) := fun q hq => by
  obtain ⟨s', t⟩ := s.own hq (.lst vs)
  exact p _ _ _ _ _ t s' hq (s.noP hq) (s.noR hq) upd_same w
def mFrz (m : M (List D)) : M D := fun env h => (m env h).bind fun ds h1 => .ok (.lst ds) h1
def mOwn (m : M (List D)) : M D := fun env h => (m env h).bind fun ds h1 => .ok (.loc h1.length) (h1 ++ [.lst ds])
theorem sd_frz {t : TE} {m : M (List D)} (hr : SdF K E t m) : Sd K (RV K) E t (mFrz m) := fun ρ P σ H env h s re Q p => by
  refine hr ρ P σ H env h s re Q ?_
  have p : Post K (RV K) E ρ P H Q ((m env h).bind fun ds h1 => .ok (.lst ds) h1) := p
  cases q : m env h with
  | bad => rw [q] at p; exact p
  | exc x fs h => rw [q] at p; exact p
  | ok ds h1 =>
    rw [q] at p
    refine fun ρ' P' H' a vs t s1 hp np nr e w => ?_
    have kp : ∀ b o, P' b = some o → upd P' a (.lst vs) b = some o := upd_keep np
    refine p ρ' (upd P' a (.lst vs)) H' _ ⟨t.mono, fun b o eb => kp b o (t.pure b o eb), t.newr, fun b o eb => ?_, t.keep, t.there⟩ ⟨fun b o eb => ?_, fun n b eb => ?_, s1.inj, fun n o eo => ?_, s1.dom⟩ (.lst upd_same (w.up (fun _ _ e => e) kp))
    · by_cases z : b = a
      · subst z; exact .inr hp
      · rw [upd_ne z] at eb; exact t.newp b o eb
    · by_cases z : b = a
      · subst z; rw [upd_same] at eb; cases eb; exact e
      · rw [upd_ne z] at eb; exact s1.sub b o eb
    · have z : b ≠ a := fun z => nr n (z ▸ eb)
      rw [upd_ne z]; exact s1.apart n b eb
    · obtain ⟨b, e1, r⟩ := s1.obj n o eo
      exact ⟨b, e1, r.up (fun _ _ e => e) kp fun _ e => e⟩
theorem sd_own {t : TE} {m : M (List D)} (hr : SdF K E t m) : Sd K (RV K) E t (mOwn m) := fun ρ P σ H env h s re Q p => by
  refine hr ρ P σ H env h s re Q ?_
  have p : Post K (RV K) E ρ P H Q ((m env h).bind fun ds h1 => .ok (.loc h1.length) (h1 ++ [.lst ds])) := p
  cases q : m env h with
  | bad => rw [q] at p; exact p
  | exc x fs h => rw [q] at p; exact p
  | ok ds h1 =>
    rw [q] at p
    refine fun ρ' P' H' a vs t s1 hp np nr e w => ?_
    refine p (fun n => if n = h1.length then some a else ρ' n) P' H' _ ⟨fun n b eb => ?_, t.pure, fun n b e0 eb => ?_, t.newp, t.keep, t.there⟩ (s1.number np nr ⟨vs, e, w⟩) (.loc (by simp))
    · have eb := t.mono n b eb
      have z : n ≠ h1.length := fun z => by rw [z, s1.dom _ (Nat.le_refl _)] at eb; cases eb
      show (if n = h1.length then some a else ρ' n) = some b
      rw [if_neg z]; exact eb
    · have eb : (if n = h1.length then some a else ρ' n) = some b := eb
      split at eb
      · cases eb; exact hp
      · exact t.newr n b e0 eb
def mLst (m : M (List D)) : M (List D) := fun env h => (m env h).bind fun ds h1 => if ds.length ≤ sizeLine then .ok ds h1 else .bad
theorem sf_lst {t : TA} {m : M (List D)} (hr : Sd K (RVs K) E t m) : SdF K E (tLst t) (mLst m) := fun ρ P σ H env h s re Q p =>
  hr ρ P σ H env h s re _ (PostF.bind p fun a h1 ρ1 P1 H1 v t1 s1 w1 p1 => by
    split at p1
    · rename_i hl
      exact ⟨by rw [w1.length]; exact hl, p1.newL s1 w1⟩
    · exact p1.elim)
end
end Ab

namespace Ab
open PySem PySem.Spec L2
/-- how a statement ends -/
inductive SS where
  | nx (env : En) (h : AH)
  | rt (d : D) (h : AH)
  | bk (env : En) (h : AH)
  | ct (env : En) (h : AH)
  | exc (x : Str) (fs : List (Str × D)) (h : AH)
  | bad
abbrev MS := En → AH → SS
def R.then {α : Type} (r : R α) (k : α → AH → SS) : SS := match r with
  | .ok a h => k a h
  | .exc x fs h => .exc x fs h
  | .bad => .bad
section
variable {K : PySem.W.Frag} {E : XK} {ρ ρ' ρ1 : Ro} {P H P' H' P1 H1 : Hp}
def PostS (K : PySem.W.Frag) (E : XK) (ρ : Ro) (P H : Hp) (D : Ends) : SS → Prop
  | .nx env h' => ∀ ρ' P' H' σ', Step ρ P H ρ' P' H' → SR K ρ' P' H' h' → RE K ρ' P' env σ' → D.nx σ' H'
  | .rt d h' => ∀ ρ' P' H' v, Step ρ P H ρ' P' H' → SR K ρ' P' H' h' → Rep K ρ' P' d v → D.rt v H'
  | .bk env h' => ∀ ρ' P' H' σ', Step ρ P H ρ' P' H' → SR K ρ' P' H' h' → RE K ρ' P' env σ' → D.bk σ' H'
  | .ct env h' => ∀ ρ' P' H' σ', Step ρ P H ρ' P' H' → SR K ρ' P' H' h' → RE K ρ' P' env σ' → D.ct σ' H'
  | .exc x fs h' => ∀ ρ' P' H' dd, Step ρ P H ρ' P' H' → SR K ρ' P' H' h' → RX K ρ' P' fs dd → E (.ref (He.ga K x)) dd H'
  | .bad => False
theorem PostS.mono {D : Ends} {r : SS} (p : PostS K E ρ P H D r) (s : Step ρ P H ρ1 P1 H1) : PostS K E ρ1 P1 H1 D r := by
  cases r with
  | nx env h => exact fun ρ' P' H' v t q1 q2 => p ρ' P' H' v (s.trans t) q1 q2
  | rt d h => exact fun ρ' P' H' v t q1 q2 => p ρ' P' H' v (s.trans t) q1 q2
  | bk env h => exact fun ρ' P' H' v t q1 q2 => p ρ' P' H' v (s.trans t) q1 q2
  | ct env h => exact fun ρ' P' H' v t q1 q2 => p ρ' P' H' v (s.trans t) q1 q2
  | exc x fs h => exact fun ρ' P' H' dd t q1 q2 => p ρ' P' H' dd (s.trans t) q1 q2
  | bad => exact p
def SdS (K : PySem.W.Frag) (E : XK) (t : TS) (m : MS) : Prop := ∀ ρ P σ H env h, SR K ρ P H h → RE K ρ P env σ → ∀ D, PostS K E ρ P H D (m env h) → t D σ H
theorem PostS.bind {α β : Type} {L : Rl α β} {D : Ends} {r : R α} {k : α → AH → SS}
    (p : PostS K E ρ P H D (r.then k)) {Q' : β → Hp → Prop} (h : ∀ a h' ρ' P' H' v, Step ρ P H ρ' P' H' → SR K ρ' P' H' h' → L ρ' P' a v → PostS K E ρ' P' H' D (k a h') → Q' v H') : Post K L E ρ P H Q' r := by
  cases r with
  | ok a h' => exact fun ρ' P' H' v t q1 q2 => h a h' ρ' P' H' v t q1 q2 (PostS.mono (r := k a h') p t)
  | exc x fs h => exact p
  | bad => exact p
theorem PostS.next {D : Ends} {env : En} {h : AH} {σ : L2.St} (p : PostS K E ρ P H D (.nx env h)) (s : SR K ρ P H h) (r : RE K ρ P env σ) : D.nx σ H := p ρ P H σ (Step.refl ..) s r
theorem RE.set {env : En} {σ : L2.St} (r : RE K ρ P env σ) {d : D} {v : V} (w : Rep K ρ P d v) (i : Nat) : RE K ρ P (env.set i (some d)) (σ.set i (some v)) := by
  refine ⟨by simp [r.1], fun j e he => ?_⟩
  by_cases z : i = j
  · subst z
    by_cases hl : i < env.length
    · rw [List.getElem?_set_self hl] at he
      cases he
      exact ⟨v, List.getElem?_set_self (by rw [← r.1]; exact hl), w⟩
    · rw [List.getElem?_eq_none (by simpa using hl)] at he; cases he
  · rw [List.getElem?_set_ne z] at he ⊢
    exact r.2 j e he
/-! ### small statements -/
def mNext : MS := fun env h => .nx env h
theorem ss_next : SdS K E tNext mNext := fun ρ P σ H env h s r D p => p.next s r
theorem ss_brk : SdS K E tBreak (fun env h => .bk env h) := fun ρ P σ H env h s r D p => p ρ P H σ (Step.refl ..) s r
theorem ss_cont : SdS K E tCont (fun env h => .ct env h) := fun ρ P σ H env h s r D p => p ρ P H σ (Step.refl ..) s r
def mSeq (m n : MS) : MS := fun env h => match m env h with
  | .nx env' h' => n env' h'
  | r => r
theorem ss_seq {t u : TS} {m n : MS} (ha : SdS K E t m) (hb : SdS K E u n) : SdS K E (tSeq t u) (mSeq m n) := fun ρ P σ H env h s re D p => by
  refine ha ρ P σ H env h s re _ ?_
  have p : PostS K E ρ P H D (match m env h with
    | .nx env' h' => n env' h'
    | r => r) := p
  cases q : m env h with
  | nx env' h' =>
    rw [q] at p
    exact fun ρ' P' H' σ' t s' r' => hb _ _ _ _ _ _ s' r' D (PostS.mono (r := n env' h') p t)
  | rt d h' => rw [q] at p; exact p
  | bk env h => rw [q] at p; exact p
  | ct env h => rw [q] at p; exact p
  | exc x fs h => rw [q] at p; exact p
  | bad => rw [q] at p; exact p
def mDrop (m : M D) : MS := fun env h => (m env h).then fun _ h1 => .nx env h1
theorem ss_drop {t : TE} {m : M D} (ha : Sd K (RV K) E t m) : SdS K E (tDrop t) (mDrop m) := fun ρ P σ H env h s re D p =>
  ha ρ P σ H env h s re _ (PostS.bind p fun a h1 ρ1 P1 H1 v t1 s1 w1 p1 => PostS.next p1 s1 (re.step t1))
def mRet (m : M D) : MS := fun env h => (m env h).then fun d h1 => .rt d h1
theorem ss_ret {t : TE} {m : M D} (ha : Sd K (RV K) E t m) : SdS K E (tRet t) (mRet m) := fun ρ P σ H env h s re D p =>
  ha ρ P σ H env h s re _ (PostS.bind p fun a h1 ρ1 P1 H1 v t1 s1 w1 p1 => p1 ρ1 P1 H1 v (Step.refl ..) s1 w1)
theorem ss_retN : SdS K E tRetN (fun env h => .rt .non h) := fun ρ P σ H env h s re D p => p ρ P H .non (Step.refl ..) s .non
def mIfS (m : M Bool) (a b : MS) : MS := fun env h => (m env h).then fun c h1 => if c = true then a env h1 else b env h1
theorem ss_if {t : TT} {ta tb : TS} {m : M Bool} {ma mb : MS} (hc : Sd K (RQ Bool) E t m) (ha : SdS K E ta ma) (hb : SdS K E tb mb) : SdS K E (tIfS t ta tb) (mIfS m ma mb) := fun ρ P σ H env h s re D p =>
  hc ρ P σ H env h s re _ (PostS.bind p fun a h1 ρ1 P1 H1 v t1 s1 w1 p1 => by
    cases w1
    cases a with
    | true => exact ha _ _ _ _ _ _ s1 (re.step t1) _ p1
    | false => exact hb _ _ _ _ _ _ s1 (re.step t1) _ p1)
/-- a statement that is never reached -/
theorem ss_never : SdS K E tNever (fun _ _ => .bad) := fun ρ P σ H env h s re D p => p
/-! ### targets -/
/-- what stands behind a target's store -/
abbrev MG := D → En → AH → R En
def SdG (K : PySem.W.Frag) (E : XK) (g : TG) (m : MG) : Prop := ∀ ρ P σ H env h d v, SR K ρ P H h → RE K ρ P env σ → Rep K ρ P d v → ∀ Q : L2.St → Hp → Prop, Post K (RE K) E ρ P H Q (m d env h) → g v σ H Q
def SdGs (K : PySem.W.Frag) (E : XK) (g : TGs) (m : List D → En → AH → R En) : Prop := ∀ ρ P σ H env h d v, SR K ρ P H h → RE K ρ P env σ → RepL K ρ P d v → ∀ Q : L2.St → Hp → Prop, Post K (RE K) E ρ P H Q (m d env h) → g v σ H Q
def mgName (i : Nat) : MG := fun d env h => .ok (env.set i (some d)) h
theorem sg_name {i : Nat} : SdG K E (gName i) (mgName i) := fun ρ P σ H env h d v s re w Q p => Post.here (L := RE K) p s (re.set w i)
def mgNil : List D → En → AH → R En := fun ds env h => match ds with
  | [] => .ok env h
  | _ => .bad
def mgCons (m : MG) (r : List D → En → AH → R En) : List D → En → AH → R En := fun ds env h => match ds with
  | d :: ds => (m d env h).bind fun env' h' => r ds env' h'
  | [] => .bad
theorem sg_nil : SdGs K E gNil mgNil := fun ρ P σ H env h d v s re w Q p => by
  cases w with
  | nil => exact ⟨rfl, Post.here (L := RE K) p s re⟩
  | cons a b => exact p.elim
theorem sg_cons {g : TG} {gs : TGs} {m : MG} {r : List D → En → AH → R En} (ha : SdG K E g m) (hb : SdGs K E gs r) : SdGs K E (gCons g gs) (mgCons m r) := fun ρ P σ H env h d v s re w Q p => by
  cases w with
  | nil => exact p.elim
  | cons a b => exact ⟨_, _, rfl, ha ρ P σ H env h _ _ s re a _ (Post.bind p fun env1 h1 ρ1 P1 H1 σ1 t1 s1 r1 p1 => hb _ _ _ _ _ _ _ _ s1 r1 (b.step t1) Q p1)⟩
def mgTup (n : Nat) (m : List D → En → AH → R En) : MG := fun d env h => match d with
  | .tup ds => if ds.length = n then m ds env h else .bad
  | _ => .bad
theorem sg_tup {n : Nat} {gs : TGs} {m : List D → En → AH → R En} (ha : SdGs K E gs m) : SdG K E (gTup K n gs) (mgTup n m) := fun ρ P σ H env h d v s re w Q p => by
  cases w with
  | tup x y =>
    have p : Post K (RE K) E ρ P H Q (if _ then _ else _) := p
    split at p
    · rename_i hl
      exact ⟨_, _, rfl, sqT_tk s.sub x, by rw [y.length]; exact hl, ha _ _ _ _ _ _ _ _ s re y Q p⟩
    · exact p.elim
  | _ => exact p.elim
def mAsg (m : M D) (g : MG) : MS := fun env h => (m env h).then fun d h1 => (g d env h1).then fun env' h2 => .nx env' h2
theorem ss_asg {t : TE} {g : TG} {m : M D} {mg : MG} (ha : Sd K (RV K) E t m) (hg : SdG K E g mg) : SdS K E (tAsg t g) (mAsg m mg) := fun ρ P σ H env h s re D p =>
  ha ρ P σ H env h s re _ (PostS.bind p fun a h1 ρ1 P1 H1 v t1 s1 w1 p1 => hg _ _ _ _ _ _ _ _ s1 (re.step t1) w1 _ (PostS.bind p1 fun env2 h2 ρ2 P2 H2 σ2 t2 s2 r2 p2 => PostS.next p2 s2 r2))
/-- a, b = x, y: plain names, no tuple made -/
def mPar (i j : Nat) (m : M (List D)) : MS := fun env h => (m env h).then fun ds h1 => match ds with
  | [a, b] => .nx ((env.set i (some a)).set j (some b)) h1
  | _ => .bad
theorem ss_par {i j : Nat} {t : TA} {m : M (List D)} (ha : Sd K (RVs K) E t m) : SdS K E (tPar i j t) (mPar i j m) := fun ρ P σ H env h s re D p =>
  ha ρ P σ H env h s re _ (PostS.bind p fun a h1 ρ1 P1 H1 v t1 s1 w1 p1 => by
    cases w1 with
    | nil => exact p1.elim
    | cons a b =>
      cases b with
      | nil => exact p1.elim
      | cons b c =>
        cases c with
        | nil => exact ⟨_, _, rfl, PostS.next p1 s1 (((re.step t1).set a i).set b j)⟩
        | cons c d => exact p1.elim)
/-- x op= e -/
def mAug (i : Nat) (f : D → D → AH → R D) (m : M D) : MS := fun env h => (mVar i env h).then fun x h0 => (m env h0).then fun y h1 => (f x y h1).then fun z h2 => .nx (env.set i (some z)) h2
theorem ss_aug {i : Nat} {t : TE} {m : M D} {r : TIp} {f : D → D → AH → R D} (ha : Sd K (RV K) E t m) (hf : OpS K E r f) : SdS K E (tAug i t r) (mAug i f m) := fun ρ P σ H env h s re D p => by
  have q := sd_var (K := K) (E := E) (i := i) ρ P σ H env h s re _ (PostS.bind p fun a h1 ρ1 P1 H1 v t1 s1 w1 p1 =>
    show (fun (v : V) (H1 : Hp) => t σ H1 fun y H2 => r v y H2 fun z H3 => D.nx (σ.set i (some z)) H3) v H1 from
    ha ρ1 P1 σ H1 env h1 s1 (re.step t1) _ (PostS.bind p1 fun b h2 ρ2 P2 H2 u t2 s2 w2 p2 => hf _ _ _ _ _ _ _ _ s2 (w1.step t2) w2 _ (PostS.bind p2 fun c h3 ρ3 P3 H3 z t3 s3 w3 p3 => PostS.next p3 s3 ((((re.step t1).step t2).step t3).set w3 i))))
  exact q
/-! ### while -/
def mWhile (c : M Bool) (b : MS) : Nat → MS
  | 0 => fun _ _ => .bad
  | n + 1 => fun env h => (c env h).then fun k h1 => if k = true then (match b env h1 with
      | .nx env' h' => mWhile c b n env' h'
      | .ct env' h' => mWhile c b n env' h'
      | .bk env' h' => .nx env' h'
      | r => r) else .nx env h1
theorem ss_while {c : TT} {t : TS} {m : M Bool} {b : MS} (hc : Sd K (RQ Bool) E c m) (hb : SdS K E t b) (n : Nat) : SdS K E (tWhile c t) (mWhile m b n) := fun ρ P σ H env h s re D p => by
  refine ⟨fun n σ H => ∃ ρ P env h, SR K ρ P H h ∧ RE K ρ P env σ ∧ PostS K E ρ P H D (mWhile m b n env h), ⟨n, ρ, P, env, h, s, re, p⟩, ?_⟩
  rintro n σ H ⟨ρ, P, env, h, s, re, p⟩
  cases n with
  | zero => exact p.elim
  | succ n =>
    unfold mWhile at p
    refine hc ρ P σ H env h s re _ (PostS.bind p fun k h1 ρ1 P1 H1 v t1 s1 w1 p1 => ?_)
    cases w1
    cases k with
    | false => exact PostS.next p1 s1 (re.step t1)
    | true =>
      refine ⟨fun σ' H' => ∃ ρ P env h, SR K ρ P H' h ∧ RE K ρ P env σ' ∧ PostS K E ρ P H' D (mWhile m b n env h), fun σ' H' q => ⟨n, Nat.lt_succ_self n, q⟩, ?_⟩
      refine hb _ _ _ _ _ _ s1 (re.step t1) _ ?_
      have p1 : PostS K E ρ1 P1 H1 D (match b env h1 with
        | .nx env' h' => mWhile m b n env' h'
        | .ct env' h' => mWhile m b n env' h'
        | .bk env' h' => .nx env' h'
        | r => r) := p1
      cases q : b env h1 with
      | nx env' h' => rw [q] at p1; exact fun ρ' P' H' σ' t s' r' => ⟨ρ', P', env', h', s', r', PostS.mono p1 t⟩
      | ct env' h' => rw [q] at p1; exact fun ρ' P' H' σ' t s' r' => ⟨ρ', P', env', h', s', r', PostS.mono p1 t⟩
      | bk env' h' => rw [q] at p1; exact p1
      | rt d h' => rw [q] at p1; exact p1
      | exc x fs h => rw [q] at p1; exact p1
      | bad => rw [q] at p1; exact p1
/-! ### for -/
/-- what is walked: items that stand still, or the list at a number as it stands at each turn -/
inductive AI where
  | items (ds : List D)
  | at_ (n : Nat)
/-- an iterable's reading: at an AI the iterator goes so -/
def ItOk (K : PySem.W.Frag) (ρ : Ro) (P H : Hp) : AI → It → Prop
  | .items ds, J => ∀ ρ' P' H', Step ρ P H ρ' P' H' → ∀ h', SR K ρ' P' H' h' → ∀ i, (∀ d, ds[i]? = some d → J.go i H' ∧ ∀ x H2, J.yld i H' x H2 → ∃ P2, Step ρ' P' H' ρ' P2 H2 ∧ SR K ρ' P2 H2 h' ∧ Rep K ρ' P2 d x) ∧ (ds[i]? = none → J.stop i H')
  | .at_ n, J => ∃ a, ρ n = some a ∧ J = Itl K a
abbrev MI := En → AH → R AI
def SdI (K : PySem.W.Frag) (E : XK) (w : TI) (m : MI) : Prop := ∀ ρ P σ H env h, SR K ρ P H h → RE K ρ P env σ → ∀ Q : It → Hp → Prop,
  (match m env h with
  | .ok a h' => ∀ ρ' P' H' J, Step ρ P H ρ' P' H' → SR K ρ' P' H' h' → ItOk K ρ' P' H' a J → Q J H'
  | .exc x fs h' => ∀ ρ' P' H' dd, Step ρ P H ρ' P' H' → SR K ρ' P' H' h' → RX K ρ' P' fs dd → E (.ref (He.ga K x)) dd H'
  | .bad => False) → w σ H Q
def forItems (g : MG) (b : MS) : List D → MS
  | [] => fun env h => .nx env h
  | d :: ds => fun env h => (g d env h).then fun env1 h1 => match b env1 h1 with
      | .nx env' h' => forItems g b ds env' h'
      | .ct env' h' => forItems g b ds env' h'
      | .bk env' h' => .nx env' h'
      | r => r
def forAt (g : MG) (b : MS) (n : Nat) : Nat → Nat → MS
  | 0, _ => fun _ _ => .bad
  | k + 1, i => fun env h => match h[n]? with
      | some (.lst ds) => (match ds[i]? with
        | none => .nx env h
        | some d => (g d env h).then fun env1 h1 => match b env1 h1 with
          | .nx env' h' => forAt g b n k (i + 1) env' h'
          | .ct env' h' => forAt g b n k (i + 1) env' h'
          | .bk env' h' => .nx env' h'
          | r => r)
      | _ => .bad
def mFor (w : MI) (g : MG) (b : MS) : MS := fun env h => (w env h).then fun a h1 => match a with
  | .items ds => forItems g b ds env h1
  | .at_ n => forAt g b n 1000000 0 env h1
theorem ss_for {w : TI} {g : TG} {t : TS} {m : MI} {mg : MG} {b : MS} (hw : SdI K E w m) (hg : SdG K E g mg) (hb : SdS K E t b) : SdS K E (tFor w g t) (mFor m mg b) := fun ρ P σ H env h s re D p => by
  refine hw ρ P σ H env h s re _ ?_
  have p : PostS K E ρ P H D ((m env h).then fun a h1 => match a with
    | .items ds => forItems mg b ds env h1
    | .at_ n => forAt mg b n 1000000 0 env h1) := p
  cases q : m env h with
  | bad => rw [q] at p; exact p
  | exc x fs h => rw [q] at p; exact p
  | ok a h1 =>
    rw [q] at p
    refine fun ρ0 P0 H0 J t0 s0 j0 => ?_
    have p := PostS.mono p t0
    have re := re.step t0
    cases a with
    | items ds =>
      refine ⟨fun i m σ H => m = ds.length - i ∧ i ≤ ds.length ∧ ∃ ρ P env h, Step ρ0 P0 H0 ρ P H ∧ SR K ρ P H h ∧ RE K ρ P env σ ∧ PostS K E ρ P H D (forItems mg b (ds.drop i) env h), ⟨ds.length, rfl, Nat.zero_le _, ρ0, P0, env, h1, Step.refl .., s0, re, p⟩, ?_⟩
      rintro i m σ H ⟨rfl, hi, ρ, P, env, h, t, s, re, p⟩
      have jj := j0 ρ P H t h s i
      by_cases hlt : i < ds.length
      · have e : ds.drop i = ds[i] :: ds.drop (i + 1) := by rw [List.drop_eq_getElem_cons hlt]
        rw [e] at p
        obtain ⟨go, yl⟩ := jj.1 ds[i] (List.getElem?_eq_getElem hlt)
        refine .inr ⟨go, fun σ' H' => ∃ ρ P env h, Step ρ0 P0 H0 ρ P H' ∧ SR K ρ P H' h ∧ RE K ρ P env σ' ∧ PostS K E ρ P H' D (forItems mg b (ds.drop (i + 1)) env h), fun σ' H' z => ⟨ds.length - (i + 1), by omega, rfl, hlt, z⟩, fun x H' y => ?_⟩
        obtain ⟨P2, tx, sx, rx⟩ := yl x H' y
        have p : PostS K E ρ P H D ((mg ds[i] env h).then fun env1 h1 => match b env1 h1 with
          | .nx env' h' => forItems mg b (ds.drop (i + 1)) env' h'
          | .ct env' h' => forItems mg b (ds.drop (i + 1)) env' h'
          | .bk env' h' => .nx env' h'
          | r => r) := p
        have p := PostS.mono p tx
        refine hg ρ P2 σ H' env h _ _ sx (re.step tx) rx _ (PostS.bind p fun env1 h1 ρ1 P1 H1 σ1 t1 s1 r1 p1 => hb _ _ _ _ _ _ s1 r1 _ ?_)
        cases q : b env1 h1 with
        | nx env' h' => simp only [q] at p1; exact fun ρ' P' H' σ' t2 s' r' => ⟨ρ', P', env', h', ((t.trans tx).trans t1).trans t2, s', r', PostS.mono p1 t2⟩
        | ct env' h' => simp only [q] at p1; exact fun ρ' P' H' σ' t2 s' r' => ⟨ρ', P', env', h', ((t.trans tx).trans t1).trans t2, s', r', PostS.mono p1 t2⟩
        | bk env' h' => simp only [q] at p1; exact p1
        | rt d h' => simp only [q] at p1; exact p1
        | exc x fs h => simp only [q] at p1; exact p1
        | bad => simp only [q] at p1; exact p1
      · have e : i = ds.length := by omega
        subst e
        rw [List.drop_length] at p
        exact .inl ⟨jj.2 (by simp), PostS.next p s re⟩
    | at_ n =>
      obtain ⟨a, ea, rfl⟩ := j0
      refine ⟨fun i m σ H => i + m = 1000000 ∧ ∃ ρ P env h, Step ρ0 P0 H0 ρ P H ∧ SR K ρ P H h ∧ RE K ρ P env σ ∧ PostS K E ρ P H D (forAt mg b n m i env h), ⟨1000000, rfl, ρ0, P0, env, h1, Step.refl .., s0, re, p⟩, ?_⟩
      rintro i m σ H ⟨hm, ρ, P, env, h, t, s, re, p⟩
      cases m with
      | zero => exact p.elim
      | succ m =>
        have en := t.mono n a ea
        obtain ⟨o, eo, r⟩ := s.here en
        cases o with
        | lst ds =>
          obtain ⟨vs, ev, rv⟩ := r
          unfold forAt at p
          simp only [eo] at p
          cases q : ds[i]? with
          | none =>
            rw [q] at p
            refine .inl ⟨⟨vs, .of ev, ?_⟩, PostS.next p s re⟩
            rw [rv.length]
            simpa using q
          | some d =>
            simp only [q] at p
            obtain ⟨v, hv, rd⟩ := rv.get q
            refine .inr ⟨⟨vs, v, .of ev, hv⟩, fun σ' H' => ∃ ρ P env h, Step ρ0 P0 H0 ρ P H' ∧ SR K ρ P H' h ∧ RE K ρ P env σ' ∧ PostS K E ρ P H' D (forAt mg b n m (i + 1) env h), fun σ' H' z => ⟨m, Nat.lt_succ_self m, by omega, z⟩, fun x H' y => ?_⟩
            obtain ⟨rfl, y⟩ := y
            have ex := y vs (.of ev)
            rw [hv] at ex
            cases ex
            refine hg ρ P σ H' env h _ _ s re rd _ (PostS.bind p fun env1 h1 ρ1 P1 H1 σ1 t1 s1 r1 p1 => hb _ _ _ _ _ _ s1 r1 _ ?_)
            cases q : b env1 h1 with
            | nx env' h' => simp only [q] at p1; exact fun ρ' P' H' σ' t2 s' r' => ⟨ρ', P', env', h', (t.trans t1).trans t2, s', r', PostS.mono p1 t2⟩
            | ct env' h' => simp only [q] at p1; exact fun ρ' P' H' σ' t2 s' r' => ⟨ρ', P', env', h', (t.trans t1).trans t2, s', r', PostS.mono p1 t2⟩
            | bk env' h' => simp only [q] at p1; exact p1
            | rt d h' => simp only [q] at p1; exact p1
            | exc x fs h => simp only [q] at p1; exact p1
            | bad => simp only [q] at p1; exact p1
        | dct kvs =>
          unfold forAt at p
          simp only [eo] at p
          exact p.elim
end
end Ab

namespace Ab
open PySem PySem.Spec L2
section
variable {K : PySem.W.Frag} {E : XK} {ρ ρ' ρ1 : Ro} {P H P' H' P1 H1 : Hp}
/-! ### what is walked -/
def iSeq (K : PySem.W.Frag) (t : TE) : TI := fun σ H W => t σ H fun x H1 => ∃ a, x = .ref a ∧ (((∃ xs, SqL K H1 a xs) ∧ W (Itl K a) H1) ∨ ((∃ xs, SqT K H1 a xs) ∧ W (Itt K a) H1))
def miSeq (m : M D) : MI := fun env h => (m env h).bind fun d h1 => match d with
  | .lst ds => .ok (.items ds) h1
  | .scr ds => .ok (.items ds) h1
  | .tup ds => .ok (.items ds) h1
  | .loc n => (match h1[n]? with
    | some (.lst _) => .ok (.at_ n) h1
    | _ => .bad)
  | _ => .bad
theorem itOk_L {h : AH} {a : Addr} {vs : List V} {ds : List D} (q : SqL K P a vs) (r : RepL K ρ P ds vs) : ItOk K ρ P H (.items ds) (Itl K a) := fun ρ' P' H' t h' s i => by
  have q' : SqL K H' a vs := sqL_sub s.sub (sqL_sub t.pure q)
  have r' := r.step t
  refine ⟨fun d e => ?_, fun e => ⟨vs, q', by rw [r'.length]; simpa using e⟩⟩
  obtain ⟨v, ev, rv⟩ := r'.get e
  refine ⟨⟨vs, v, q', ev⟩, fun x H2 y => ?_⟩
  obtain ⟨rfl, y⟩ := y
  have z := y vs q'
  rw [ev] at z
  cases z
  exact ⟨P', Step.refl .., s, rv⟩
theorem itOk_T {h : AH} {a : Addr} {vs : List V} {ds : List D} (q : SqT K P a vs) (r : RepL K ρ P ds vs) : ItOk K ρ P H (.items ds) (Itt K a) := fun ρ' P' H' t h' s i => by
  have q' : SqT K H' a vs := sqT_sub s.sub (sqT_sub t.pure q)
  have r' := r.step t
  refine ⟨fun d e => ?_, fun e => ⟨vs, q', by rw [r'.length]; simpa using e⟩⟩
  obtain ⟨v, ev, rv⟩ := r'.get e
  refine ⟨⟨vs, v, q', ev⟩, fun x H2 y => ?_⟩
  obtain ⟨rfl, y⟩ := y
  have z := y vs q'
  rw [ev] at z
  cases z
  exact ⟨P', Step.refl .., s, rv⟩
theorem Post.bindI {α β : Type} {L : Rl α β} {r : R α} {k : α → AH → R AI} {Q : It → Hp → Prop}
    (p : match r.bind k with
      | .ok a h' => ∀ ρ' P' H' J, Step ρ P H ρ' P' H' → SR K ρ' P' H' h' → ItOk K ρ' P' H' a J → Q J H'
      | .exc x fs h' => ∀ ρ' P' H' dd, Step ρ P H ρ' P' H' → SR K ρ' P' H' h' → RX K ρ' P' fs dd → E (.ref (He.ga K x)) dd H'
      | .bad => False) {Q' : β → Hp → Prop}
    (h : ∀ a h' ρ' P' H' v, Step ρ P H ρ' P' H' → SR K ρ' P' H' h' → L ρ' P' a v → (match k a h' with
      | .ok a h2 => ∀ ρ2 P2 H2 J, Step ρ' P' H' ρ2 P2 H2 → SR K ρ2 P2 H2 h2 → ItOk K ρ2 P2 H2 a J → Q J H2
      | .exc x fs h2 => ∀ ρ2 P2 H2 dd, Step ρ' P' H' ρ2 P2 H2 → SR K ρ2 P2 H2 h2 → RX K ρ2 P2 fs dd → E (.ref (He.ga K x)) dd H2
      | .bad => False) → Q' v H') : Post K L E ρ P H Q' r := by
  cases r with
  | ok a h' =>
    intro ρ' P' H' v t q1 q2
    refine h a h' ρ' P' H' v t q1 q2 ?_
    have p : match k a h' with
      | .ok a h' => ∀ ρ' P' H' J, Step ρ P H ρ' P' H' → SR K ρ' P' H' h' → ItOk K ρ' P' H' a J → Q J H'
      | .exc x fs h' => ∀ ρ' P' H' dd, Step ρ P H ρ' P' H' → SR K ρ' P' H' h' → RX K ρ' P' fs dd → E (.ref (He.ga K x)) dd H'
      | .bad => False := p
    cases e : k a h' with
    | ok b h2 => simp only [e] at p; exact fun ρ2 P2 H2 J u => p ρ2 P2 H2 J (t.trans u)
    | exc x fs h2 => simp only [e] at p; exact fun ρ2 P2 H2 dd u => p ρ2 P2 H2 dd (t.trans u)
    | bad => simp only [e] at p
  | exc x fs h => exact p
  | bad => exact p
theorem si_seq {t : TE} {m : M D} (ha : Sd K (RV K) E t m) : SdI K E (iSeq K t) (miSeq m) := fun ρ P σ H env h s re Q p =>
  ha ρ P σ H env h s re _ (Post.bindI p fun a h1 ρ1 P1 H1 v t1 s1 w1 p1 => by
    cases w1 with
    | lst q r => exact ⟨_, rfl, .inl ⟨⟨_, .of (s1.sub _ _ q)⟩, p1 ρ1 P1 H1 _ (Step.refl ..) s1 (itOk_L (h := h1) (.of q) r)⟩⟩
    | scr q r => exact ⟨_, rfl, .inl ⟨⟨_, sqL_sub s1.sub q⟩, p1 ρ1 P1 H1 _ (Step.refl ..) s1 (itOk_L (h := h1) q r)⟩⟩
    | tup q r => exact ⟨_, rfl, .inr ⟨⟨_, sqT_tk s1.sub q⟩, p1 ρ1 P1 H1 _ (Step.refl ..) s1 (itOk_T (h := h1) (.of q) r)⟩⟩
    | loc e =>
      obtain ⟨o, eo, r⟩ := s1.here e
      cases o with
      | lst ds =>
        obtain ⟨vs, ev, rv⟩ := r
        simp only [eo] at p1
        exact ⟨_, rfl, .inl ⟨⟨_, .of ev⟩, p1 ρ1 P1 H1 _ (Step.refl ..) s1 ⟨_, e, rfl⟩⟩⟩
      | dct kvs =>
        simp only [eo] at p1
    | _ => exact p1.elim)
theorem itOk_R {lo : Int} {n : Nat} : ItOk K ρ P H (.items ((List.range n).map fun i => D.int (lo + (i : Nat)))) (Itr lo n) := fun ρ' P' H' t h' s i => by
  refine ⟨fun d e => ?_, fun e => (show n ≤ i by simpa using e)⟩
  rw [List.getElem?_map] at e
  cases q : (List.range n)[i]? with
  | none => rw [q] at e; cases e
  | some j =>
    rw [q] at e
    obtain ⟨hl, ej⟩ := List.getElem?_eq_some_iff.mp q
    simp at ej hl
    subst ej
    cases e
    refine ⟨hl, fun x H2 y => ?_⟩
    obtain ⟨rfl, rfl⟩ := y
    exact ⟨P', Step.refl .., s, .int _⟩
/-- within the word of a range -/
def InW (i : Int) : Prop := -(2 ^ 62) ≤ i ∧ i < 2 ^ 62
@[irreducible] instance insInW (i : Int) : Decidable (InW i) := inferInstanceAs (Decidable (_ ∧ _))
def rngD (lo hi : Int) : List D := (List.range (hi - lo).toNat).map fun i => D.int (lo + (i : Nat))
def miRng (m : M (List D)) : MI := fun env h => (m env h).bind fun ds h1 => match ds with
  | [.int j] => if InW j then .ok (.items (rngD 0 j)) h1 else .bad
  | [.int i, .int j] => if InW i ∧ InW j then .ok (.items (rngD i j)) h1 else .bad
  | _ => .bad
theorem si_rng1 {t : TA} {m : M (List D)} (ha : Sd K (RVs K) E t m) : SdI K E (iRng1 t) (fun env h => (m env h).bind fun ds h1 => match ds with
    | [.int j] => if InW j then .ok (.items (rngD 0 j)) h1 else .bad
    | _ => .bad) := fun ρ P σ H env h s re Q p =>
  ha ρ P σ H env h s re _ (Post.bindI p fun a h1 ρ1 P1 H1 v t1 s1 w1 p1 => by
    cases w1 with
    | nil => exact p1.elim
    | cons a b =>
      cases a with
      | int j =>
        cases b with
        | nil =>
          dsimp only at p1
          by_cases hb : InW j
          · rw [if_pos hb] at p1
            refine ⟨j, rfl, hb.1, hb.2, p1 ρ1 P1 H1 _ (Step.refl ..) s1 ?_⟩
            have e : (j - 0).toNat = j.toNat := by omega
            show ItOk K ρ1 P1 H1 (.items ((List.range (j - 0).toNat).map fun i => D.int (0 + (i : Nat)))) _
            rw [e]
            exact itOk_R
          · rw [if_neg hb] at p1; exact p1.elim
        | cons c d => exact p1.elim
      | _ => exact p1.elim)
theorem si_rng2 {t : TA} {m : M (List D)} (ha : Sd K (RVs K) E t m) : SdI K E (iRng2 t) (fun env h => (m env h).bind fun ds h1 => match ds with
    | [.int i, .int j] => if InW i ∧ InW j then .ok (.items (rngD i j)) h1 else .bad
    | _ => .bad) := fun ρ P σ H env h s re Q p =>
  ha ρ P σ H env h s re _ (Post.bindI p fun a h1 ρ1 P1 H1 v t1 s1 w1 p1 => by
    cases w1 with
    | nil => exact p1.elim
    | cons a b =>
      cases a with
      | int i =>
        cases b with
        | nil => exact p1.elim
        | cons c d =>
          cases c with
          | int j =>
            cases d with
            | nil =>
              dsimp only at p1
              by_cases hb : InW i ∧ InW j
              · rw [if_pos hb] at p1
                exact ⟨i, j, rfl, ⟨hb.1.1, hb.1.2, hb.2.1, hb.2.2⟩, p1 ρ1 P1 H1 _ (Step.refl ..) s1 itOk_R⟩
              · rw [if_neg hb] at p1; exact p1.elim
            | cons e f => exact p1.elim
          | _ => exact p1.elim
      | _ => exact p1.elim)
/-! ### comprehensions -/
def wipeE (env : En) : List Nat → En
  | [] => env
  | v :: vs => (wipeE env vs).set v none
theorem RE.wipe {env : En} {σ : L2.St} (r : RE K ρ P env σ) : ∀ vs : List Nat, RE K ρ P (wipeE env vs) (wipe σ vs)
  | [] => r
  | v :: vs => by
    obtain ⟨hl, hr⟩ := RE.wipe r vs
    refine ⟨by show ((wipeE env vs).set v none).length = ((L2.wipe σ vs).set v none).length; simp [hl], fun i d e => ?_⟩
    have e : ((wipeE env vs).set v none)[i]? = some (some d) := e
    show ∃ u, ((L2.wipe σ vs).set v none)[i]? = some (some u) ∧ _
    by_cases z : v = i
    · subst z
      by_cases hv : v < (wipeE env vs).length
      · rw [List.getElem?_set_self hv] at e; cases e
      · rw [List.getElem?_eq_none (by simpa using hv)] at e; cases e
    · rw [List.getElem?_set_ne z] at e ⊢
      exact hr i d e
theorem wipe_set {σ : L2.St} {i : Nat} {o : Option V} : ∀ {vs : List Nat}, i ∈ vs → wipe (σ.set i o) vs = wipe σ vs
  | [], h => by cases h
  | v :: vs, h => by
    show (wipe (σ.set i o) vs).set v none = (wipe σ vs).set v none
    by_cases hi : i ∈ vs
    · rw [wipe_set hi]
    · have e : i = v := (List.mem_cons.mp h).resolve_right hi
      subst e
      have aux : ∀ ws : List Nat, i ∉ ws → wipe (σ.set i o) ws = (wipe σ ws).set i o := by
        intro ws
        induction ws with
        | nil => intro _; rfl
        | cons w ws ih =>
          intro hw
          show (wipe (σ.set i o) ws).set w none = ((wipe σ ws).set w none).set i o
          rw [ih (fun z => hw (List.mem_cons_of_mem _ z)), List.set_comm _ _ (fun z : i = w => hw (by rw [z]; exact List.mem_cons_self))]
      rw [aux vs hi, List.set_set]
theorem wipe_wipe {σ : L2.St} : ∀ {vs ws : List Nat}, (∀ i ∈ ws, i ∈ vs) → wipe (wipe σ ws) vs = wipe σ vs
  | vs, [], _ => rfl
  | vs, w :: ws, h => by
    show wipe ((wipe σ ws).set w none) vs = _
    rw [wipe_set (h w List.mem_cons_self), wipe_wipe fun i hi => h i (List.mem_cons_of_mem _ hi)]
/-- a target that stores at these places alone -/
def GW (vs : List Nat) (g : TG) : Prop := ∀ v σ H Q, g v σ H Q → g v σ H fun σ' H' => wipe σ' vs = wipe σ vs ∧ Q σ' H'
def GWs (vs : List Nat) (g : TGs) : Prop := ∀ v σ H Q, g v σ H Q → g v σ H fun σ' H' => wipe σ' vs = wipe σ vs ∧ Q σ' H'
theorem gw_name {vs : List Nat} {i : Nat} (h : i ∈ vs) : GW vs (gName i) := fun v σ H Q q => ⟨wipe_set h, q⟩
theorem gw_nil {vs : List Nat} : GWs vs gNil := fun v σ H Q q => ⟨q.1, rfl, q.2⟩
theorem gw_cons {vs : List Nat} {g : TG} {gs : TGs} (a : GW vs g) (b : GWs vs gs) (ma : ∀ v σ H (Q Q' : L2.St → Hp → Prop), (∀ σ H, Q σ H → Q' σ H) → g v σ H Q → g v σ H Q') (mb : ∀ v σ H (Q Q' : L2.St → Hp → Prop), (∀ σ H, Q σ H → Q' σ H) → gs v σ H Q → gs v σ H Q') : GWs vs (gCons g gs) := fun v σ H Q q => by
  obtain ⟨x, r, e, q⟩ := q
  refine ⟨x, r, e, ma _ _ _ _ _ (fun σ1 H1 z => ?_) (a _ _ _ _ q)⟩
  exact mb _ _ _ _ _ (fun σ2 H2 y => ⟨y.1.trans z.1, y.2⟩) (b _ _ _ _ z.2)
theorem gw_tup {vs : List Nat} {n : Nat} {gs : TGs} (b : GWs vs gs) : GW vs (gTup K n gs) := fun v σ H Q q => by
  obtain ⟨a, xs, e, h1, h2, q⟩ := q
  exact ⟨a, xs, e, h1, h2, b _ _ _ _ q⟩
theorem gm_name {i : Nat} : ∀ v σ H (Q Q' : L2.St → Hp → Prop), (∀ σ H, Q σ H → Q' σ H) → gName i v σ H Q → gName i v σ H Q' := fun v σ H Q Q' h q => h _ _ q
theorem gm_nil : ∀ v σ H (Q Q' : L2.St → Hp → Prop), (∀ σ H, Q σ H → Q' σ H) → gNil v σ H Q → gNil v σ H Q' := fun v σ H Q Q' h q => ⟨q.1, h _ _ q.2⟩
theorem gm_cons {g : TG} {gs : TGs} (ma : ∀ v σ H (Q Q' : L2.St → Hp → Prop), (∀ σ H, Q σ H → Q' σ H) → g v σ H Q → g v σ H Q') (mb : ∀ v σ H (Q Q' : L2.St → Hp → Prop), (∀ σ H, Q σ H → Q' σ H) → gs v σ H Q → gs v σ H Q') :
    ∀ v σ H (Q Q' : L2.St → Hp → Prop), (∀ σ H, Q σ H → Q' σ H) → gCons g gs v σ H Q → gCons g gs v σ H Q' := fun v σ H Q Q' h q => by
  obtain ⟨x, r, e, q⟩ := q
  exact ⟨x, r, e, ma _ _ _ _ _ (fun σ1 H1 z => mb _ _ _ _ _ h z) q⟩
theorem gm_tup {n : Nat} {gs : TGs} (mb : ∀ v σ H (Q Q' : L2.St → Hp → Prop), (∀ σ H, Q σ H → Q' σ H) → gs v σ H Q → gs v σ H Q') :
    ∀ v σ H (Q Q' : L2.St → Hp → Prop), (∀ σ H, Q σ H → Q' σ H) → gTup K n gs v σ H Q → gTup K n gs v σ H Q' := fun v σ H Q Q' h q => by
  obtain ⟨a, xs, e, h1, h2, q⟩ := q
  exact ⟨a, xs, e, h1, h2, mb _ _ _ _ _ h q⟩
def lcItems (g : MG) (c : M Bool) (e : M D) (env : En) : List D → AH → R (List D)
  | [], h => .ok [] h
  | d :: ds, h => (g d env h).bind fun env1 h1 => (c env1 h1).bind fun b h2 => if b = true then (e env1 h2).bind fun y h3 => (lcItems g c e env ds h3).bind fun r h4 => .ok (y :: r) h4 else lcItems g c e env ds h2
def lcAt (g : MG) (c : M Bool) (e : M D) (env : En) (n : Nat) : Nat → Nat → AH → R (List D)
  | 0, _ => fun _ => .bad
  | k + 1, i => fun h => match h[n]? with
    | some (.lst ds) => (match ds[i]? with
      | none => .ok [] h
      | some d => if i < sizeLine then (g d env h).bind fun env1 h1 => (c env1 h1).bind fun b h2 => if b = true then (e env1 h2).bind fun y h3 => (lcAt g c e env n k (i + 1) h3).bind fun r h4 => .ok (y :: r) h4 else lcAt g c e env n k (i + 1) h2 else .bad)
    | _ => .bad
def mLc (w : MI) (g : MG) (c : M Bool) (e : M D) (vs : List Nat) : M (List D) := fun env h => (w env h).bind fun a h1 => match a with
  | .items ds => if ds.length ≤ sizeLine then lcItems g c e (wipeE env vs) ds h1 else .bad
  | .at_ n => lcAt g c e (wipeE env vs) n 1000000 0 h1
theorem Step.loose {ρ0 : Ro} {P0 H0 : Hp} (t : Step ρ0 P0 H0 ρ P H) {p : Addr} {o : HO} (h0 : H0 p = none) : Step ρ0 P0 H0 ρ P (upd H p o) := by
  refine ⟨t.mono, t.pure, t.newr, t.newp, fun a u e hn => ?_, fun a e => ?_⟩
  · rw [upd_ne (ne_of_none e h0)]; exact t.keep a u e hn
  · by_cases z : a = p
    · rw [z, upd_same]; simp
    · rw [upd_ne z]; exact t.there a e
theorem PostF.bindA {α β : Type} {L : Rl α β} {Q : VK} {r : R α} {k : α → AH → R (List D)} {ρ0 : Ro} {P0 H0 : Hp}
    (p : PostF K E ρ0 P0 H0 Q (r.bind k)) (t0 : Step ρ0 P0 H0 ρ P H) {Q' : β → Hp → Prop} (h : ∀ a h' ρ' P' H' v, Step ρ P H ρ' P' H' → SR K ρ' P' H' h' → L ρ' P' a v → PostF K E ρ0 P0 H0 Q (k a h') → Q' v H') : Post K L E ρ P H Q' r := by
  cases r with
  | ok a h' => exact fun ρ' P' H' v t q1 q2 => h a h' ρ' P' H' v t q1 q2 p
  | exc x fs h => exact fun ρ' P' H' dd t q1 q2 => p ρ' P' H' dd (t0.trans t) q1 q2
  | bad => exact p
/-- the new list within a comprehension -/
structure LcS (K : PySem.W.Frag) (ρ0 : Ro) (P0 H0 : Hp) (D0 : Addr) (ρ : Ro) (P H : Hp) (h : AH) (acc : List D) : Prop where
  t : Step ρ0 P0 H0 ρ P H
  s : SR K ρ P H h
  np : P D0 = none
  nr : NoR ρ D0
  at_ : ∃ vs, H D0 = some (.lst vs) ∧ RepL K ρ P acc vs
theorem LcS.step {ρ0 : Ro} {P0 H0 : Hp} {D0 : Addr} {h h' : AH} {acc : List D} (x : LcS K ρ0 P0 H0 D0 ρ P H h acc) (t : Step ρ P H ρ' P' H') (s : SR K ρ' P' H' h') : LcS K ρ0 P0 H0 D0 ρ' P' H' h' acc := by
  obtain ⟨vs, e, r⟩ := x.at_
  have ne : H D0 ≠ none := by rw [e]; simp
  exact ⟨x.t.trans t, s, t.noP ne x.np, t.noR ne x.nr, vs, t.keep _ _ e x.nr, r.step t⟩
theorem LcS.app {ρ0 : Ro} {P0 H0 : Hp} {D0 : Addr} {h : AH} {acc : List D} (x : LcS K ρ0 P0 H0 D0 ρ P H h acc) (h0 : H0 D0 = none) {d : D} {v : V} (w : Rep K ρ P d v) : ∃ vs, H D0 = some (.lst vs) ∧ vs.length = acc.length ∧ LcS K ρ0 P0 H0 D0 ρ P (upd H D0 (.lst (vs ++ [v]))) h (acc ++ [d]) := by
  obtain ⟨vs, e, r⟩ := x.at_
  exact ⟨vs, e, r.length, x.t.loose h0, x.s.loose x.np x.nr, x.np, x.nr, vs ++ [v], upd_same, r.append (.cons w .nil)⟩
theorem LcS.fin {ρ0 : Ro} {P0 H0 : Hp} {D0 : Addr} {h : AH} {acc : List D} {Q : VK} (x : LcS K ρ0 P0 H0 D0 ρ P H h acc) (h0 : H0 D0 = none) (p : PostF K E ρ0 P0 H0 Q (.ok acc h)) : Q (.ref D0) H := by
  obtain ⟨vs, e, r⟩ := x.at_
  exact p ρ P H D0 vs x.t x.s h0 x.np x.nr e r
theorem R.bind_ok {α : Type} (r : R α) : (r.bind fun a h => .ok a h) = r := by cases r <;> rfl
theorem R.bind_bind {α β γ : Type} (r : R α) (f : α → AH → R β) (g : β → AH → R γ) : ((r.bind f).bind g) = r.bind fun a h => (f a h).bind g := by cases r <;> rfl
theorem sf_lc {w : TI} {g : TG} {tt : TT} {te : TE} {vs : List Nat} {mw : MI} {mg : MG} {mc : M Bool} {me : M D} (hw : SdI K E w mw) (hg : SdG K E g mg) (hv : GW vs g) (hc : Sd K (RQ Bool) E tt mc) (he : Sd K (RV K) E te me) :
    SdF K E (tLc w g tt te vs) (mLc mw mg mc me vs) := fun ρ P σ H env h s re Q p => by
  refine hw ρ P σ H env h s re _ ?_
  have p : PostF K E ρ P H Q ((mw env h).bind fun a h1 => match a with
    | .items ds => if ds.length ≤ sizeLine then lcItems mg mc me (wipeE env vs) ds h1 else .bad
    | .at_ n => lcAt mg mc me (wipeE env vs) n 1000000 0 h1) := p
  cases q : mw env h with
  | bad => rw [q] at p; exact p
  | exc x fs h => rw [q] at p; exact p
  | ok a h1 =>
    rw [q] at p
    refine fun ρ0 P0 H0 J t0 s0 j0 D0 hD => ?_
    have p := PostF.mono p t0
    have re := (re.step t0).wipe vs
    obtain ⟨sD, tD⟩ := s0.own hD (.lst [])
    have x0 : LcS K ρ0 P0 H0 D0 ρ0 P0 (upd H0 D0 (.lst [])) h1 [] := ⟨tD, sD, s0.noP hD, s0.noR hD, [], upd_same, .nil⟩
    -- one turn's body
    have turn : ∀ {ρ : Ro} {P H : Hp} {h : AH} {acc : List D} {d : D} {v : V} {rest : AH → R (List D)} {Nx : Hp → Prop}, LcS K ρ0 P0 H0 D0 ρ P H h acc → acc.length < sizeLine → Rep K ρ P d v →
        PostF K E ρ0 P0 H0 Q (((mg d (wipeE env vs) h).bind fun env1 h1 => (mc env1 h1).bind fun b h2 => if b = true then (me env1 h2).bind fun y h3 => (rest h3).bind fun r h4 => .ok (y :: r) h4 else rest h2).bind fun r h => .ok (acc ++ r) h) →
        (∀ ρ' P' H' h' acc', LcS K ρ0 P0 H0 D0 ρ' P' H' h' acc' → acc'.length ≤ acc.length + 1 → PostF K E ρ0 P0 H0 Q ((rest h').bind fun r h => .ok (acc' ++ r) h) → Nx H') →
        g v (wipe σ vs) H fun σ2 H2 => wipe σ2 vs = wipe σ vs ∧ tt σ2 H2 fun b H3 => if b = true then te σ2 H3 fun y H4 => ∃ acc, H4 D0 = some (.lst acc) ∧ acc.length < sizeLine ∧ Nx (upd H4 D0 (.lst (acc ++ [y]))) else Nx H3 := by
      intro ρ P H h acc d v rest Nx x hl rd pp nx
      have re' : RE K ρ P (wipeE env vs) (wipe σ vs) := ⟨re.1, fun i d e => let ⟨v, h1, h2⟩ := re.2 i d e; ⟨v, h1, h2.up x.t.mono x.t.pure⟩⟩
      rw [R.bind_bind] at pp
      have gg := hg ρ P (wipe σ vs) H (wipeE env vs) h d v x.s re' rd (fun σ2 H2 => tt σ2 H2 fun b H3 => if b = true then te σ2 H3 fun y H4 => ∃ acc, H4 D0 = some (.lst acc) ∧ acc.length < sizeLine ∧ Nx (upd H4 D0 (.lst (acc ++ [y]))) else Nx H3)
        (PostF.bindA pp x.t fun env1 h1 ρ1 P1 H1 σ1 t1 s1 r1 p1 => by
          rw [R.bind_bind] at p1
          have x1 := x.step t1 s1
          refine hc ρ1 P1 σ1 H1 env1 h1 s1 r1 _ (PostF.bindA p1 x1.t fun b h2 ρ2 P2 H2 b' t2 s2 eb p2 => ?_)
          cases eb
          have x2 := x1.step t2 s2
          cases b with
          | false =>
            rw [if_neg Bool.false_ne_true] at p2 ⊢
            exact nx ρ2 P2 H2 h2 acc x2 (Nat.le_succ _) p2
          | true =>
            rw [if_pos rfl] at p2 ⊢
            rw [R.bind_bind] at p2
            refine he ρ2 P2 σ1 H2 env1 h2 s2 (r1.step t2) _ (PostF.bindA p2 x2.t fun y h3 ρ3 P3 H3 yv t3 s3 ry p3 => ?_)
            obtain ⟨ws, e1, e2, x3⟩ := (x2.step t3 s3).app hD ry
            refine ⟨ws, e1, by rw [e2]; exact hl, nx _ _ _ _ _ x3 (by simp) ?_⟩
            rw [R.bind_bind] at p3
            have e : (fun (a : List D) (h : AH) => R.bind (R.ok (y :: a) h) fun r h => R.ok (acc ++ r) h) = fun r h => R.ok (acc ++ [y] ++ r) h := by funext a h; show R.ok (acc ++ (y :: a)) h = _; simp
            have p4 : PostF K E ρ0 P0 H0 Q ((rest h3).bind fun (a : List D) (h : AH) => R.bind (R.ok (y :: a) h) fun r h => R.ok (acc ++ r) h) := p3
            rw [e] at p4
            exact p4)
      have g2 := hv _ _ _ _ gg
      rw [wipe_wipe fun i hi => hi] at g2
      exact g2
    cases a with
    | items ds =>
      have p : PostF K E ρ0 P0 H0 Q (if ds.length ≤ sizeLine then lcItems mg mc me (wipeE env vs) ds h1 else .bad) := p
      by_cases hs : ds.length ≤ sizeLine
      · rw [if_pos hs] at p
        refine ⟨fun i m H => m = ds.length - i ∧ i ≤ ds.length ∧ ∃ ρ P h acc, LcS K ρ0 P0 H0 D0 ρ P H h acc ∧ acc.length ≤ i ∧ PostF K E ρ0 P0 H0 Q ((lcItems mg mc me (wipeE env vs) (ds.drop i) h).bind fun r h => .ok (acc ++ r) h), ⟨ds.length, rfl, Nat.zero_le _, ρ0, P0, h1, [], x0, Nat.le_refl _, ?_⟩, ?_⟩
        · have e : (fun (r : List D) (h : AH) => R.ok ([] ++ r) h) = fun r h => R.ok r h := rfl
          rw [e, R.bind_ok]
          exact p
        · rintro i m H ⟨rfl, hi, ρ, P, h, acc, x, ha, p⟩
          have t' : Step ρ0 P0 H0 ρ P H := x.t
          have jj := j0 ρ P H t' h x.s i
          by_cases hlt : i < ds.length
          · have e : ds.drop i = ds[i] :: ds.drop (i + 1) := by rw [List.drop_eq_getElem_cons hlt]
            rw [e] at p
            obtain ⟨go, yl⟩ := jj.1 ds[i] (List.getElem?_eq_getElem hlt)
            refine .inr ⟨go, fun H' => ∃ ρ P h acc, LcS K ρ0 P0 H0 D0 ρ P H' h acc ∧ acc.length ≤ i + 1 ∧ PostF K E ρ0 P0 H0 Q ((lcItems mg mc me (wipeE env vs) (ds.drop (i + 1)) h).bind fun r h => .ok (acc ++ r) h), fun H' z => ⟨ds.length - (i + 1), by omega, rfl, hlt, z⟩, fun v H' y => ?_⟩
            obtain ⟨P2, tx, sx, rx⟩ := yl v H' y
            exact turn (rest := lcItems mg mc me (wipeE env vs) (ds.drop (i + 1))) (x.step tx sx) (by omega) rx p fun ρ' P' H' h' acc' x' hl' p' => ⟨ρ', P', h', acc', x', by omega, p'⟩
          · have e : i = ds.length := by omega
            subst e
            rw [List.drop_length] at p
            refine .inl ⟨jj.2 (by simp), x.fin (E := E) hD ?_⟩
            have p : PostF K E ρ0 P0 H0 Q (.ok (acc ++ []) h) := p
            rw [List.append_nil] at p
            exact p
      · rw [if_neg hs] at p; exact p.elim
    | at_ n =>
      obtain ⟨a, ea, rfl⟩ := j0
      have p : PostF K E ρ0 P0 H0 Q (lcAt mg mc me (wipeE env vs) n 1000000 0 h1) := p
      refine ⟨fun i m H => i + m = 1000000 ∧ ∃ ρ P h acc, LcS K ρ0 P0 H0 D0 ρ P H h acc ∧ acc.length ≤ i ∧ PostF K E ρ0 P0 H0 Q ((lcAt mg mc me (wipeE env vs) n m i h).bind fun r h => .ok (acc ++ r) h), ⟨1000000, rfl, ρ0, P0, h1, [], x0, Nat.le_refl _, ?_⟩, ?_⟩
      · have e : (fun (r : List D) (h : AH) => R.ok ([] ++ r) h) = fun r h => R.ok r h := rfl
        rw [e, R.bind_ok]
        exact p
      · rintro i m H ⟨hm, ρ, P, h, acc, x, ha, p⟩
        cases m with
        | zero => exact p.elim
        | succ m =>
          have en := x.t.mono n a ea
          obtain ⟨o, eo, r⟩ := x.s.here en
          cases o with
          | lst ds =>
            obtain ⟨ws, ev, rv⟩ := r
            unfold lcAt at p
            simp only [eo] at p
            cases q : ds[i]? with
            | none =>
              simp only [q] at p
              refine .inl ⟨⟨ws, .of ev, by rw [rv.length]; simpa using q⟩, x.fin (E := E) hD ?_⟩
              have p : PostF K E ρ0 P0 H0 Q (.ok (acc ++ []) h) := p
              rw [List.append_nil] at p
              exact p
            | some d =>
              simp only [q] at p
              obtain ⟨v, hv1, rd⟩ := rv.get q
              by_cases hi : i < sizeLine
              · rw [if_pos hi] at p
                refine .inr ⟨⟨ws, v, .of ev, hv1⟩, fun H' => ∃ ρ P h acc, LcS K ρ0 P0 H0 D0 ρ P H' h acc ∧ acc.length ≤ i + 1 ∧ PostF K E ρ0 P0 H0 Q ((lcAt mg mc me (wipeE env vs) n m (i + 1) h).bind fun r h => .ok (acc ++ r) h), fun H' z => ⟨m, Nat.lt_succ_self m, by omega, z⟩, fun y H' yy => ?_⟩
                obtain ⟨rfl, yy⟩ := yy
                have ex := yy ws (.of ev)
                rw [hv1] at ex
                cases ex
                exact turn (rest := lcAt mg mc me (wipeE env vs) n m (i + 1)) x (by omega) rd p fun ρ' P' H' h' acc' x' hl' p' => ⟨ρ', P', h', acc', x', by omega, p'⟩
              · rw [if_neg hi] at p; exact p.elim
          | dct kvs =>
            unfold lcAt at p
            simp only [eo] at p
            exact p.elim
end
end Ab

namespace Ab
open PySem PySem.Spec L2
/-! ### a def: its frame at the entry, its end; numbers made within are dropped -/
mutual
def below (n : Nat) : D → Bool
  | .tup ds => belowL n ds
  | .lst ds => belowL n ds
  | .scr ds => belowL n ds
  | .loc m => decide (m < n)
  | _ => true
def belowL (n : Nat) : List D → Bool
  | [] => true
  | d :: ds => below n d && belowL n ds
end
def AO.below (n : Nat) : AO → Bool
  | .lst ds => belowL n ds
  | .dct kvs => belowL n (kvs.map (·.2))
def initE (N : Nat) (ds : List D) : En := ds.map some ++ List.replicate (N - ds.length) none
def bodyR : SS → R D
  | .nx _ h => .ok .non h
  | .rt d h => .ok d h
  | .exc x fs h => .exc x fs h
  | _ => .bad
def bodyR0 : SS → R D
  | .nx _ h => .ok .non h
  | .rt d h => .ok d h
  | _ => .bad
def exitD (n : Nat) (d : D) (h : AH) : R D :=
  if (h.take n).all (AO.below n) = true then
    (if below n d = true then .ok d (h.take n) else match d with
      | .loc k => (match h[k]? with
        | some (.lst ds) => if belowL n ds = true then .ok (.lst ds) (h.take n) else .ok d h
        | _ => .ok d h)
      | _ => .ok d h)
  else .ok d h
def exitR (n : Nat) : R D → R D
  | .ok d h => exitD n d h
  | .exc x fs h => if (h.take n).all (AO.below n) = true ∧ belowL n (fs.map (·.2)) = true then .exc x fs (h.take n) else .exc x fs h
  | .bad => .bad
abbrev Fn := List D → AH → R D
/-- a def that lets nothing out; numbers dropped (T), kept (K) -/
def mFnT (N : Nat) (m : MS) : Fn := fun ds h => exitR h.length (bodyR0 (m (initE N ds) h))
def mFnK (N : Nat) (m : MS) : Fn := fun ds h => bodyR0 (m (initE N ds) h)
/-- one that may raise -/
def mFnTX (N : Nat) (m : MS) : Fn := fun ds h => exitR h.length (bodyR (m (initE N ds) h))
section
variable {K : PySem.W.Frag} {E : XK} {ρ ρ' ρ1 : Ro} {P H P' H' P1 H1 : Hp}
/-- numbers from n on forgotten -/
def cutR (n : Nat) (ρ : Ro) : Ro := fun k => if k < n then ρ k else none
mutual
theorem Rep.cut {n : Nat} : ∀ {d : D} {v : V}, Rep K ρ P d v → below n d = true → Rep K (cutR n ρ) P d v
  | _, _, .non, _ => .non
  | _, _, .bl b, _ => .bl b
  | _, _, .int i, _ => .int i
  | _, _, .str x, _ => .str x
  | _, _, .glo x, _ => .glo x
  | _, _, .ty x, _ => .ty x
  | _, _, .tup p r, h => .tup p (RepL.cut r h)
  | _, _, .lst p r, h => .lst p (RepL.cut r h)
  | _, _, .scr p r, h => .scr p (RepL.cut r h)
  | _, _, .loc (n := k) e, h => .loc (by
      have hk : k < n := of_decide_eq_true h
      show (if k < n then ρ k else none) = _
      rw [if_pos hk]; exact e)
theorem RepL.cut {n : Nat} : ∀ {ds : List D} {vs : List V}, RepL K ρ P ds vs → belowL n ds = true → RepL K (cutR n ρ) P ds vs
  | _, _, .nil, _ => .nil
  | _, _, .cons a b, h => .cons (Rep.cut a (Bool.and_eq_true_iff.mp h).1) (RepL.cut b (Bool.and_eq_true_iff.mp h).2)
end
theorem SR.cut {h' : AH} {n : Nat} (s : SR K ρ' P' H' h') (hb : (h'.take n).all (AO.below n) = true) : SR K (cutR n ρ') P' H' (h'.take n) := by
  have sub : ∀ {k : Nat} {a : Addr}, cutR n ρ' k = some a → k < n ∧ ρ' k = some a := fun {k a} e => by
    have e : (if k < n then ρ' k else none) = some a := e
    split at e
    · exact ⟨by assumption, e⟩
    · cases e
  refine ⟨s.sub, fun k a e => s.apart k a (sub e).2, fun k m a e e' => s.inj k m a (sub e).2 (sub e').2, fun k o e => ?_, fun k hk => ?_⟩
  · have hk : k < n := by
      have := (List.getElem?_eq_some_iff.mp e).1
      simp at this; omega
    have e2 : h'[k]? = some o := by rw [List.getElem?_take_of_lt hk] at e; exact e
    obtain ⟨a, e1, r⟩ := s.obj k o e2
    refine ⟨a, by show (if k < n then ρ' k else none) = _; rw [if_pos hk]; exact e1, ?_⟩
    have ho : o.below n = true := List.all_eq_true.mp hb o (List.mem_of_getElem? e)
    cases o with
    | lst ds =>
      obtain ⟨vs, e3, r3⟩ := r
      exact ⟨vs, e3, r3.cut ho⟩
    | dct kvs =>
      obtain ⟨vs, e3, e4, r3⟩ := r
      exact ⟨vs, e3, e4, r3.cut ho⟩
  · show (if k < n then ρ' k else none) = none
    split
    · exact s.dom k (by simp at hk; omega)
    · rfl
theorem Step.cut {h : AH} (s : SR K ρ P H h) (t : Step ρ P H ρ' P' H') : Step ρ P H (cutR h.length ρ') P' H' := by
  refine ⟨fun k a e => ?_, t.pure, fun k a e e' => ?_, t.newp, t.keep, t.there⟩
  · have hk : k < h.length := by
      cases Nat.lt_or_ge k h.length with
      | inl z => exact z
      | inr z => rw [s.dom k z] at e; cases e
    show (if k < h.length then ρ' k else none) = _
    rw [if_pos hk]; exact t.mono k a e
  · have e' : (if k < h.length then ρ' k else none) = some a := e'
    split at e'
    · exact t.newr k a e e'
    · cases e'
theorem post_exit {h : AH} (s : SR K ρ P H h) {Q : VK} : ∀ {r : R D}, Post K (RV K) E ρ P H Q (exitR h.length r) → Post K (RV K) E ρ P H Q r
  | .bad, p => p
  | .exc x fs h', p => by
    intro ρ' P' H' dd t s' rx
    have p : Post K (RV K) E ρ P H Q (if (h'.take h.length).all (AO.below h.length) = true ∧ belowL h.length (fs.map (·.2)) = true then .exc x fs (h'.take h.length) else .exc x fs h') := p
    split at p
    · rename_i hb
      refine p _ P' H' dd (t.cut s) (s'.cut hb.1) ?_
      rcases rx with z | ⟨da, fvs, e1, e2, e3, r⟩
      · exact .inl z
      · exact .inr ⟨da, fvs, e1, e2, e3, r.cut hb.2⟩
    · exact p ρ' P' H' dd t s' rx
  | .ok d h', p => by
    intro ρ' P' H' v t s' w
    have p : Post K (RV K) E ρ P H Q (exitD h.length d h') := p
    unfold exitD at p
    split at p
    · rename_i hb
      split at p
      · rename_i hd
        exact p _ P' H' v (t.cut s) (s'.cut hb) (w.cut hd)
      · rename_i hd
        split at p
        · rename_i k pold
          split at p
          · rename_i ds ek
            split at p
            · rename_i hds
              cases w with
              | loc e =>
                rename_i a
                obtain ⟨o, eo, r⟩ := s'.here e
                rw [ek] at eo
                cases eo
                obtain ⟨vs, ev, rv⟩ := r
                have np := s'.apart k a e
                have hk : ¬ k < h.length := fun z => hd (decide_eq_true z)
                have h0 : H a = none := t.newr k a (s.dom k (Nat.le_of_not_lt hk)) e
                have sc := s'.cut hb
                have tc := t.cut s
                have nr : NoR (cutR h.length ρ') a := fun m em => by
                  have em : (if m < h.length then ρ' m else none) = some a := em
                  split at em
                  · have := s'.inj m k a em e
                    omega
                  · cases em
                have kp : ∀ b o, P' b = some o → upd P' a (.lst vs) b = some o := upd_keep np
                refine p (cutR h.length ρ') (upd P' a (.lst vs)) H' _ ⟨tc.mono, fun b o eb => kp b o (tc.pure b o eb), tc.newr, fun b o eb => ?_, tc.keep, tc.there⟩ ⟨fun b o eb => ?_, fun m b eb => ?_, sc.inj, fun m o eo => ?_, sc.dom⟩ (.lst upd_same ((rv.cut hds).up (fun _ _ e => e) kp))
                · by_cases z : b = a
                  · subst z; exact .inr h0
                  · rw [upd_ne z] at eb; exact tc.newp b o eb
                · by_cases z : b = a
                  · subst z; rw [upd_same] at eb; cases eb; exact ev
                  · rw [upd_ne z] at eb; exact sc.sub b o eb
                · have z : b ≠ a := fun z => nr m (z ▸ eb)
                  rw [upd_ne z]; exact sc.apart m b eb
                · obtain ⟨b, e1, r⟩ := sc.obj m o eo
                  exact ⟨b, e1, r.up (fun _ _ e => e) kp fun _ e => e⟩
            · exact p ρ' P' H' v t s' w
          · exact p ρ' P' H' v t s' w
        · exact p ρ' P' H' v t s' w
    · exact p ρ' P' H' v t s' w
theorem re_start {N : List Str} {ds : List D} {vs : List V} (r : RepL K ρ P ds vs) : RE K ρ P (initE N.length ds) (L2.start N vs) := by
  have hl := r.length
  refine ⟨by unfold initE L2.start; simp [hl], fun i d e => ?_⟩
  unfold initE at e
  by_cases hi : i < ds.length
  · rw [List.getElem?_append_left (by simpa using hi), List.getElem?_map] at e
    cases q : ds[i]? with
    | none => rw [q] at e; cases e
    | some d' =>
      rw [q] at e
      cases e
      obtain ⟨v, ev, rv⟩ := r.get q
      refine ⟨v, ?_, rv⟩
      unfold L2.start
      rw [List.getElem?_append_left (by simp [hl]; exact hi), List.getElem?_map, ev]
      rfl
  · rw [List.getElem?_append_right (by simpa using hi), List.getElem?_replicate] at e
    split at e <;> cases e
/-- the promise of a def that computes F -/
def spD (K : PySem.W.Frag) (n : Nat) (F : Fn) : Sp := fun vs H Q E => vs.length = n ∧ ∃ ρ P h ds, SR K ρ P H h ∧ RepL K ρ P ds vs ∧ Post K (RV K) E ρ P H Q (F ds h)
def mCall (n : Nat) (F : Fn) (m : M (List D)) : M D := fun env h => (m env h).bind fun ds h1 => if ds.length = n then F ds h1 else .bad
theorem sd_call {n : Nat} {F : Fn} {t : TA} {m : M (List D)} (ha : Sd K (RVs K) E t m) : Sd K (RV K) E (tCall (spD K n F) [] E t) (mCall n F m) := fun ρ P σ H env h s re Q p =>
  ha ρ P σ H env h s re _ (Post.bind p fun a h1 ρ1 P1 H1 v t1 s1 w1 p1 => by
    split at p1
    · rename_i hl
      show spD K n F (v ++ []) H1 Q E
      rw [List.append_nil]
      exact ⟨by rw [w1.length]; exact hl, ρ1, P1, h1, a, s1, w1, p1⟩
    · exact p1.elim)
/-- keywords: the values put into the parameters' order -/
def mCallK (n : Nat) (F : Fn) (g : List D → List D → List D) (m mk : M (List D)) : M D := fun env h => (m env h).bind fun ds h1 => (mk env h1).bind fun es h2 => if (g ds es).length = n then F (g ds es) h2 else .bad
theorem sd_callK {n : Nat} {F : Fn} {g : List D → List D → List D} {gV : List V → List V → List V} {t tk : TA} {m mk : M (List D)} (ha : Sd K (RVs K) E t m) (hk : Sd K (RVs K) E tk mk)
    (hg : ∀ {ρ : Ro} {P : Hp} {ds es : List D} {vs ws : List V}, RepL K ρ P ds vs → RepL K ρ P es ws → RepL K ρ P (g ds es) (gV vs ws)) : Sd K (RV K) E (tCallK (spD K n F) gV E t tk) (mCallK n F g m mk) := fun ρ P σ H env h s re Q p =>
  ha ρ P σ H env h s re _ (Post.bind p fun a h1 ρ1 P1 H1 v t1 s1 w1 p1 => hk _ _ _ _ _ _ s1 (re.step t1) _ (Post.bind p1 fun b h2 ρ2 P2 H2 u t2 s2 w2 p2 => by
    have r := hg (w1.step t2) w2
    split at p2
    · rename_i hl
      exact ⟨by rw [r.length]; exact hl, ρ2, P2, h2, _, s2, r, p2⟩
    · exact p2.elim))
end
/-! ### a judgement of the text and its computation -/
def JB (X : Cx) (E : XK) (s : List Stmt) (m : MS) : Prop := ∃ t, PSs X s t ∧ SdS X.K E t m
section
variable {P : Program} {w : World} {K : PySem.W.Frag} {mg : Str → Option Value} {base : Heap} {x qual : Str} {params : Arguments} {body : List Stmt} {scope : Scope} {dvs : List V} {kws : List (Str × V)} {f : Addr} {fd : FuncData} {N ps : List Str} {k : Nat} {m : MS}
theorem bodyR0_ok {E' E : XK} {ρ : Ro} {Pp H : Hp} {Q : VK} {r : SS} (p : Post K (RV K) E ρ Pp H Q (bodyR0 r)) : PostS K E' ρ Pp H { nx := fun _ H' => Q .non H', rt := Q } r := by
  cases r with
  | nx env h => exact fun ρ' P' H' σ' t s r => p ρ' P' H' .non t s .non
  | rt d h => exact p
  | bk env h => exact p.elim
  | ct env h => exact p.elim
  | exc x fs h => exact p.elim
  | bad => exact p.elim
theorem bodyR_ok {E : XK} {ρ : Ro} {Pp H : Hp} {Q : VK} {r : SS} (p : Post K (RV K) E ρ Pp H Q (bodyR r)) : PostS K E ρ Pp H { nx := fun _ H' => Q .non H', rt := Q } r := by
  cases r with
  | nx env h => exact fun ρ' P' H' σ' t s r => p ρ' P' H' .non t s .non
  | rt d h => exact p
  | bk env h => exact p.elim
  | ct env h => exact p.elim
  | exc x fs h => exact p
  | bad => exact p.elim
/-- THE RULE for a def that lets nothing out -/
theorem fn_okK (F : FunD K x qual params body scope dvs kws f fd) (S : FnScope N ps scope)
    (hb : ∀ (cdv : Value) (A : Around) (outer : List PySem.Env) (s : Shared) (H : Hp) (E : XK), Room k (A.deeper (PyProof.Rows.envOfC qual scope s.heap.objs.size f cdv)) → JB (cxOf CX0 P w K mg base N qual scope f cdv A outer s H E).nox E0 body m) :
    FnOk P w K mg base CX0 (k + 1) f fd ps (spD K ps.length (mFnK N.length m)) := by
  refine F.ok S (fun vs H Q E h => h.1) fun cdv A outer s H vs Q E hr h => ?_
  obtain ⟨t, ht, hs⟩ := hb cdv A outer s H E hr
  obtain ⟨_, ρ, Pp, h0, ds, sr, rl, p⟩ := h
  exact ⟨t, ht.nox, hs ρ Pp _ H _ h0 sr (re_start rl) _ (bodyR0_ok p)⟩
theorem fn_okT (F : FunD K x qual params body scope dvs kws f fd) (S : FnScope N ps scope)
    (hb : ∀ (cdv : Value) (A : Around) (outer : List PySem.Env) (s : Shared) (H : Hp) (E : XK), Room k (A.deeper (PyProof.Rows.envOfC qual scope s.heap.objs.size f cdv)) → JB (cxOf CX0 P w K mg base N qual scope f cdv A outer s H E).nox E0 body m) :
    FnOk P w K mg base CX0 (k + 1) f fd ps (spD K ps.length (mFnT N.length m)) := by
  refine F.ok S (fun vs H Q E h => h.1) fun cdv A outer s H vs Q E hr h => ?_
  obtain ⟨t, ht, hs⟩ := hb cdv A outer s H E hr
  obtain ⟨_, ρ, Pp, h0, ds, sr, rl, p⟩ := h
  exact ⟨t, ht.nox, hs ρ Pp _ H _ h0 sr (re_start rl) _ (bodyR0_ok (post_exit sr p))⟩
end
end Ab

namespace Ab
open PySem PySem.Spec L2
/-! A def's promise where no repr is under way around (guards known): for defs that ask repr of containers. -/
structure FnG (P : Program) (w : World) (K : PySem.W.Frag) (mg : Str → Option Value) (base : Heap) (CX : CXT) (k : Nat) (f : Addr) (fd : FuncData) (ps : List Str) (sp : Sp) : Prop where
  len : ∀ vs H Q E, sp vs H Q E → vs.length = ps.length
  go : ∀ (A : Around) (outer : List PySem.Env) (s : Shared) (H : Hp) (args : Args) (us : List Value) (vs : List V) (Q : VK) (E : XK),
    Room k A ∧ A.guards = some [] → Env0 P w K mg base A outer s H → BindsTo s fd args (ps.zip us) → Vals vs us → sp vs H Q E →
    codeAny (model P w) A (.call (.ref f) args) (CR CX outer P w H s Q E) s
theorem FnG.of {P : Program} {w : World} {K : PySem.W.Frag} {mg : Str → Option Value} {base : Heap} {CX : CXT} {k : Nat} {f : Addr} {fd : FuncData} {ps : List Str} {sp : Sp} (F : FnOk P w K mg base CX k f fd ps sp) : FnG P w K mg base CX k f fd ps sp :=
  ⟨F.len, fun A o s H a us vs Q E hr e0 hb r h => F.run A o s H a us vs Q E hr.1 e0 hb r h⟩
theorem FnG.mono {P : Program} {w : World} {K : PySem.W.Frag} {mg : Str → Option Value} {base : Heap} {CX : CXT} {j k : Nat} {f : Addr} {fd : FuncData} {ps : List Str} {sp : Sp} (F : FnG P w K mg base CX j f fd ps sp) (h : j ≤ k) : FnG P w K mg base CX k f fd ps sp :=
  ⟨F.len, fun A o s H a us vs Q E hr e0 hb r q => F.go A o s H a us vs Q E ⟨hr.1.mono h, hr.2⟩ e0 hb r q⟩
section
variable {P : Program} {w : World} {K : PySem.W.Frag} {mg : Str → Option Value} {base : Heap} {x qual : Str} {params : Arguments} {body : List Stmt} {scope : Scope} {dvs : List V} {kws : List (Str × V)} {f : Addr} {fd : FuncData} {N ps : List Str} {k : Nat} {m : MS}
/-- a def by its body, the guards known -/
theorem FunD.okG {CX : CXT} {sp : Sp} (F : FunD K x qual params body scope dvs kws f fd) (S : FnScope N ps scope) (len : ∀ vs H Q E, sp vs H Q E → vs.length = ps.length)
    (hbody : ∀ (cdv : Value) (A : Around) (outer : List PySem.Env) (s : Shared) (H : Hp) (vs : List V) (Q : VK) (E : XK), Room k (A.deeper (PyProof.Rows.envOfC qual scope s.heap.objs.size f cdv)) → A.guards = some [] → sp vs H Q E →
      ∃ t, PSs (cxOf CX P w K mg base N qual scope f cdv A outer s H E) body t ∧ t { nx := fun _ H' => Q .non H', rt := Q } (L2.start N vs) H) : FnG P w K mg base CX (k + 1) f fd ps sp := by
  obtain ⟨oc, od, dV, kV, doc, pm, an, cdv, ct, osl, rfl, lk, hcd, _, _⟩ := F.ex
  refine ⟨len, fun A outer s H args us vs Q E hr e0 hb r hsp => ?_⟩
  refine StX.run_bnd lk hcd S hr.1 e0 (G := fun vs' H' => vs' = vs ∧ H' = H) (fun A' Ex Q' h => ?_) fun s2 H2 vs' g hr' => ?_
  · exact hb _ _ _ _ (h s H vs us e0 Un.refl rfl (fun _ _ z => z) r (len _ _ _ _ hsp) ⟨rfl, rfl⟩)
  · obtain ⟨rfl, rfl⟩ := g
    exact hbody cdv A outer s2 _ _ Q E hr' hr.2 hsp
theorem fn_okKG (F : FunD K x qual params body scope dvs kws f fd) (S : FnScope N ps scope)
    (hb : ∀ (cdv : Value) (A : Around) (outer : List PySem.Env) (s : Shared) (H : Hp) (E : XK), Room k (A.deeper (PyProof.Rows.envOfC qual scope s.heap.objs.size f cdv)) → A.guards = some [] → JB (cxOf CX0 P w K mg base N qual scope f cdv A outer s H E).nox E0 body m) :
    FnG P w K mg base CX0 (k + 1) f fd ps (spD K ps.length (mFnK N.length m)) := by
  refine FunD.okG F S (fun vs H Q E h => h.1) fun cdv A outer s H vs Q E hr hg h => ?_
  obtain ⟨t, ht, hs⟩ := hb cdv A outer s H E hr hg
  obtain ⟨_, ρ, Pp, h0, ds, sr, rl, p⟩ := h
  exact ⟨t, ht.nox, hs ρ Pp _ H _ h0 sr (re_start rl) _ (bodyR0_ok p)⟩
theorem fn_okTG (F : FunD K x qual params body scope dvs kws f fd) (S : FnScope N ps scope)
    (hb : ∀ (cdv : Value) (A : Around) (outer : List PySem.Env) (s : Shared) (H : Hp) (E : XK), Room k (A.deeper (PyProof.Rows.envOfC qual scope s.heap.objs.size f cdv)) → A.guards = some [] → JB (cxOf CX0 P w K mg base N qual scope f cdv A outer s H E).nox E0 body m) :
    FnG P w K mg base CX0 (k + 1) f fd ps (spD K ps.length (mFnT N.length m)) := by
  refine FunD.okG F S (fun vs H Q E h => h.1) fun cdv A outer s H vs Q E hr hg h => ?_
  obtain ⟨t, ht, hs⟩ := hb cdv A outer s H E hr hg
  obtain ⟨_, ρ, Pp, h0, ds, sr, rl, p⟩ := h
  exact ⟨t, ht.nox, hs ρ Pp _ H _ h0 sr (re_start rl) _ (bodyR0_ok (post_exit sr p))⟩
end
/-! ### calls -/
section
variable {X : Cx} {CX : CXT} {k : Nat} {f C : Addr} {fd : FuncData} {ps ks : List Str} {sp : Sp} {E : XK} {x : Str} {p pos : Pos} {e : Expr} {es : List Expr} {t tk : TA} {kws : List Keyword}
theorem cr_ok {pins : List (Addr × Obj)} {σ : L2.St} {H : Hp} {s s' : Shared} {Q : VK} {r : Result} (I : Inv X pins σ H s) (hx : Passes CX X E) (h : CR CX X.stack X.prog X.w H s Q E r s') :
    match (generalizing := true) r with
    | .error e => X.xe e s'
    | .ok (.ret u) => EP X pins σ Q u s'
    | .ok _ => False := by
  cases r with
  | error e => exact hx pins σ H s e s' I h
  | ok fl => cases fl <;> first | exact I.after h | exact h
theorem run_g {pins : List (Addr × Obj)} {σ : L2.St} {H : Hp} {s : Shared} {Q : VK} {us us' : List Value} {vs : List V} {kw : List (Str × Value)} (F : FnG X.prog X.w X.K X.mg X.base CX k f fd ps sp) (hr : Room k X.A) (hg : X.A.guards = some []) (hx : Passes CX X E)
    (I : Inv X pins σ H s) (hb : us'.length = ps.length → BindsTo s fd ⟨us, kw⟩ (ps.zip us')) (r : Vals vs us') (h : sp vs H Q E) : wpAny (model X.prog X.w) X.A (call (.ref f) us kw) (EP X pins σ Q) X.xe s := by
  refine wpAny_call (codeAny_mono (F.go X.A X.stack s H ⟨us, kw⟩ us' vs Q E ⟨hr, hg⟩ I.env0 (hb (by rw [← r.length]; exact F.len _ _ _ _ h)) r h) fun r s' hq => ?_)
  have z := cr_ok I hx hq
  cases r with
  | error e => exact z
  | ok fl => cases fl <;> first | exact z | exact z.elim
theorem pe_callG (F : FnG X.prog X.w X.K X.mg X.base CX k f fd ps sp) (hr : Room k X.A) (hgu : X.A.guards = some []) (hg : Gl X x) (hm : X.mg x = some (.ref f)) (hk : PySem.W.keepIn X.K (.ref f) = true) (hb : Binds X.K fd ps []) (hx : Passes CX X E) (ha : PA X (e :: es) t)
    (hdb : (x == ("__debug__" : Str)) = false := by decide) (he : starEach (e :: es) X.env = (false, eval e X.env) :: starEach es X.env := by rfl) (hpl : (backTo pos (starEach es X.env)).any (·.1) = false := by rfl) : PE X (.Call (.Name x p) (e :: es) [] pos) (tCall sp [] E t) :=
  ⟨fun pins s σ H Q I h => wpAny_Call_Name_kw (ld_glob I hg hm (PySem.W.callWith_K (h₀ := X.base) I.ok.mod.kin hk (thn (ha.run pos pins s σ H _ I h) fun us s1 z => by
    obtain ⟨vs, H1, I1, r, q⟩ := z
    rw [List.append_nil] at q
    refine ⟨I1.kIn, run_g F hr hgu hx I1 (fun hl => ?_) r q⟩
    have hb1 := hb s1 us I1.kIn (by rw [List.append_nil]; exact hl)
    rw [List.append_nil] at hb1
    exact hb1) he hpl) hdb)⟩
theorem pe_callG0 (F : FnG X.prog X.w X.K X.mg X.base CX k f fd ps sp) (hr : Room k X.A) (hgu : X.A.guards = some []) (hg : Gl X x) (hm : X.mg x = some (.ref f)) (hk : PySem.W.keepIn X.K (.ref f) = true) (hb : Binds X.K fd ps []) (hx : Passes CX X E)
    (hdb : (x == ("__debug__" : Str)) = false := by decide) : PE X (.Call (.Name x p) [] [] pos) (tCall sp [] E tNil) :=
  ⟨fun pins s σ H Q I h => wpAny_Call_Name_kw (ld_glob I hg hm (PySem.W.callWith_K0 I.kIn hk (run_g (us := []) F hr hgu hx I (fun hl => hb s [] I.kIn hl) .nil h)) hdb)⟩
/-- keywords alone -/
theorem pe_callKG0 {g : List Value → List Value → List Value} {gV : List V → List V → List V} (F : FnG X.prog X.w X.K X.mg X.base CX k f fd ps sp) (hr : Room k X.A) (hgu : X.A.guards = some []) (hg : Gl X x) (hm : X.mg x = some (.ref f)) (hk : PySem.W.keepIn X.K (.ref f) = true)
    (hb : KBinds X.K fd ps ks g gV) (hx : Passes CX X E) (hkw : PK X kws tk) (hall : (backToKw pos (keywordEach kws X.env)).all (·.1.isSome) = true := by rfl) (hks : (backToKw pos (keywordEach kws X.env)).filterMap (·.1) = ks := by rfl)
    (hdb : (x == ("__debug__" : Str)) = false := by decide) (hpl : ((backTo pos (starEach [] X.env)).any (·.1) || (backToKw pos (keywordEach kws X.env)).any (·.1.isNone)) = false := by rfl) : PE X (.Call (.Name x p) [] kws pos) (tCallK sp gV E tNil tk) :=
  ⟨fun pins s σ H Q I h => wpAny_Call_Name_kw (ld_glob I hg hm (PySem.W.callWith_KW0 (h₀ := X.base) I.ok.mod.kin hk hall (thn (hkw.run pos pins s σ H _ I h) fun ws s1 z => by
    obtain ⟨zs, H1, I1, r, q⟩ := z
    rw [hks]
    exact ⟨I1.kIn, run_g (us := []) F hr hgu hx I1 (fun hl => hb.to s1 [] ws I1.kIn hl) (hb.rel .nil r) q⟩) hpl) hdb)⟩
/-- both -/
theorem pe_callKG {g : List Value → List Value → List Value} {gV : List V → List V → List V} (F : FnG X.prog X.w X.K X.mg X.base CX k f fd ps sp) (hr : Room k X.A) (hgu : X.A.guards = some []) (hg : Gl X x) (hm : X.mg x = some (.ref f)) (hk : PySem.W.keepIn X.K (.ref f) = true)
    (hb : KBinds X.K fd ps ks g gV) (hx : Passes CX X E) (ha : PA X (e :: es) t) (hkw : PK X kws tk) (hall : (backToKw pos (keywordEach kws X.env)).all (·.1.isSome) = true := by rfl) (hks : (backToKw pos (keywordEach kws X.env)).filterMap (·.1) = ks := by rfl)
    (hdb : (x == ("__debug__" : Str)) = false := by decide) (he : starEach (e :: es) X.env = (false, eval e X.env) :: starEach es X.env := by rfl)
    (hpl : ((backTo pos (starEach (e :: es) X.env)).any (·.1) || (backToKw pos (keywordEach kws X.env)).any (·.1.isNone)) = false := by rfl) : PE X (.Call (.Name x p) (e :: es) kws pos) (tCallK sp gV E t tk) :=
  ⟨fun pins s σ H Q I h => wpAny_Call_Name_kw (ld_glob I hg hm (PySem.W.callWith_KW (h₀ := X.base) I.ok.mod.kin hk hall (thn (ha.run pos pins s σ H _ I h) fun us s1 z => by
    obtain ⟨vs, H1, I1, r, q⟩ := z
    refine thn (hkw.run pos pins s1 σ H1 _ I1 q) fun ws s2 z => ?_
    obtain ⟨zs, H2, I2, rz, q2⟩ := z
    rw [hks]
    exact ⟨I2.kIn, run_g F hr hgu hx I2 (fun hl => hb.to s2 us ws I2.kIn hl) (hb.rel r rz) q2⟩) hpl he) hdb)⟩
end
/-! ### the law's own call -/
section
variable {P : Program} {w : World} {K : PySem.W.Frag} {mg mb : Str → Option Value} {k : Nat} {fa a : Addr} {fd : FuncData} {x : Str} {sp : Sp} {s₁ : Shared} {vs : List Value} {ns : List Int}
/-- the script as the abstract heap has it: a known list, or (where the module's own part holds it) nothing -/
def scriptHp (K : PySem.W.Frag) (a : Addr) (vs : List Value) (ns : List Int) : Hp := fun b =>
  if b = a ∧ K.lookup a = none then some (.frz { cls := .type "list", data := .seq vs.toArray } (.lst (ns.map V.int))) else none
theorem scriptHp_some {b : Addr} {u : HO} (e : scriptHp K a vs ns b = some u) : b = a ∧ K.lookup a = none ∧ u = .frz { cls := .type "list", data := .seq vs.toArray } (.lst (ns.map V.int)) := by
  unfold scriptHp at e
  by_cases z : b = a ∧ K.lookup a = none
  · rw [if_pos z] at e; cases e; exact ⟨z.1, z.2, rfl⟩
  · rw [if_neg z] at e; cases e
theorem law_callG (KX : K.In s₁.heap) (hns : s₁.heap.Ns mainGlobals mg) (hb : s₁.heap.Ns builtinsNs mb) (hbb : ∀ x : Str, x ≠ "__name__" → mb x = bootBuiltins x) (hlim : s₁.heap.NoLimit) (hg : s₁.gens = #[])
    (ha : s₁.heap.get? a = some { cls := .type "list", data := .seq vs.toArray }) (hi : PyProof.Rows.IntsAre vs ns) (hl : ns.length ≤ sizeLine) (hr : Room k callerA)
    (F : ∀ base : Heap, K.In base → base.Ns mainGlobals mg → FnG P w K mg base CX0 k fa fd [x] sp) (hbind : ∀ (s : Shared) (u : Value), BindsTo s fd ⟨[u], []⟩ [(x, u)])
    (hsp : ∀ H : Hp, (∀ b u, H b = some u → ∃ o, u = .frz o (.lst (ns.map V.int))) → SqL K H a (ns.map V.int) → sp [.ref a] H (fun v _ => v = .bl true) fun _ _ _ => False) :
    codeAny (model P w) callerA (.call (.ref fa) ⟨[.ref a], []⟩) (fun r s' => r = .ok (.ret (.bool true)) ∧ OldK s₁.heap s'.heap ∧ s'.os = s₁.os ∧ PyProof.Rows.AllBare s'.gens) s₁ := by
  have rv := vals_ints hi
  have hok : HOk P w (scriptHp K a vs ns) s₁.heap := fun b u e => by
    obtain ⟨rfl, _, rfl⟩ := scriptHp_some e
    exact ⟨ha, by rw [List.length_map]; exact hl, vs, _, rv, ha⟩
  -- a namespace, a written thing is not the script
  have free : ∀ {b : Addr} {o : Obj}, s₁.heap.get? b = some o → (∀ q n, o.data ≠ .seq q n) ∨ K.lookup b = some o → scriptHp K a vs ns b = none := fun {b o} e z => by
    cases q : scriptHp K a vs ns b with
    | none => rfl
    | some u =>
      obtain ⟨rfl, kn, _⟩ := scriptHp_some q
      rcases z with z | z
      · rw [ha] at e; cases e; exact absurd rfl (z _ _)
      · rw [kn] at z; cases z
  have nsK : ∀ {b : Addr} {m : Str → Option Value}, s₁.heap.Ns b m → (hidT s₁.heap (scriptHp K a vs ns)).Ns b m := fun {b m} n => by
    obtain ⟨o, es, ep, e, d, r⟩ := n
    exact ⟨o, es, ep, hidT_get e (free e (.inl fun q n z => by rw [d] at z; cases z)), d, r⟩
  have hKb : K.In (hidT s₁.heap (scriptHp K a vs ns)) := fun b o e => hidT_get (KX b o e) (free (KX b o e) (.inr e))
  have e0 : Env0 P w K mg (hidT s₁.heap (scriptHp K a vs ns)) callerA [] s₁ (scriptHp K a vs ns) := by
    refine ⟨rfl, ⟨hKb, nsK hns, ⟨mb, nsK hb, hbb⟩, ?_⟩, fun b o e => of_hidT e, Nat.le_of_eq (hidT_size _ _), trivial, fun b hb => ?_, hok, .of_eq hg⟩
    · obtain ⟨mc, h1, h2⟩ := hlim
      exact ⟨mc, nsK h1, h2⟩
    · cases (show b ∈ ([] : List Addr) from hb)
  have hS : SqL K (scriptHp K a vs ns) a (ns.map V.int) := by
    cases q : K.lookup a with
    | none => exact .inl (.inr ⟨_, if_pos ⟨rfl, q⟩⟩)
    | some o =>
      have e := KX a o q
      rw [ha] at e
      cases e
      exact .inr ⟨_, vs.toArray, _, q, rfl, rfl, rfl, by rw [List.size_toArray, hi.length]; exact hl, by simpa using rv⟩
  refine codeAny_mono ((F _ hKb (nsK hns)).go callerA [] s₁ (scriptHp K a vs ns) ⟨[.ref a], []⟩ [.ref a] [.ref a] _ _ ⟨hr, rfl⟩ e0 (hbind s₁ (.ref a)) (.cons rfl .nil)
    (hsp _ (fun b u e => ⟨_, (scriptHp_some e).2.2⟩) hS)) fun r s' h => ?_
  have h : CR CX0 [] P w (scriptHp K a vs ns) s₁ (fun v _ => v = .bl true) (fun _ _ _ => False) r s' := h
  cases r with
  | error e => exact h.elim
  | ok fl =>
    cases fl with
    | next => exact h.elim
    | brk => exact h.elim
    | cont => exact h.elim
    | ret u =>
      obtain ⟨v, H', os, bare, un, hok', r', q⟩ := h
      have q : v = .bl true := q
      subst q
      obtain rfl : u = Value.bool true := r'
      refine ⟨rfl, OldK.of_keep fun b o e => ?_, os, bare⟩
      have nb : b ∉ frs ([] : List PySem.Env) := fun z => by cases (show b ∈ ([] : List Addr) from z)
      cases q : scriptHp K a vs ns b with
      | none => exact un.keep b o e q nb (fun z => by cases z)
      | some u =>
        obtain ⟨rfl, _, rfl⟩ := scriptHp_some q
        have e2 := (hok' b _ (un.frzs b _ _ q)).1
        rw [ha] at e
        cases e
        exact e2
theorem walk_G {l : PySem.W.OpenLaw} {n k : Nat} {q : Program} {loose : List Str} {XP : (Str → Option Value) → Heap → Prop} {YP : World → Heap → Prop} {d : DefRec} {x : Str}
    (hn : l.most = some n) (hn2 : n ≤ sizeLine) (hdf : d.params.defaults = []) (hr : Room k callerA)
    (F : ∀ (w : World) (mg : Str → Option Value) (fa : Addr) (h : Heap), YP w h → h.Ns mainGlobals mg → mg d.name = some (.ref fa) →
      ∃ (K : PySem.W.Frag) (fd : FuncData) (sp : Sp), K.In h ∧ (∀ (s : Shared) (u : Value), BindsTo s fd ⟨[u], []⟩ [(x, u)]) ∧
        (∀ (H : Hp) (a : Addr) (ns : List Int), ns.length ≤ n → (∀ b u, H b = some u → ∃ o, u = .frz o (.lst (ns.map V.int))) → SqL K H a (ns.map V.int) → sp [.ref a] H (fun v _ => v = .bl true) fun _ _ _ => False) ∧
        ∀ base : Heap, K.In base → base.Ns mainGlobals mg → FnG l.prog w K mg base CX0 k fa fd [x] sp) :
    PySem.W.WalkO q loose XP YP l.row.toRowW d [] (fun f vs => PySem.call f vs) := by
  refine Att.attach_call hn hdf fun w s₀ s₁ mg mb fa o pm cd doc a vs ns G Y ho hd hcd hmg hobj hints hlen hg => ?_
  obtain ⟨K, fd, sp, KX, hb, hsp, hF⟩ := F w mg fa _ Y G.T.g hmg
  exact law_callG KX G.T.g G.T.b G.T.builtins G.T.nolimit hg hobj hints (Nat.le_trans hlen hn2) hr hF hb fun H hO hS => hsp H a ns hlen hO hS
/-- the law's promise, by what it computes -/
theorem sp_law {F : Fn} (h : ∀ ns : List Int, ns.length ≤ 63 → ∃ h', F [.scr (ns.map D.int)] [] = .ok (.bl true) h') (H : Hp) (a : Addr) (ns : List Int) (hl : ns.length ≤ 63) (hO : ∀ b u, H b = some u → ∃ o, u = .frz o (.lst (ns.map V.int))) (hS : SqL K H a (ns.map V.int)) :
    spD K 1 F [.ref a] H (fun v _ => v = .bl true) fun _ _ _ => False := by
  obtain ⟨h', e⟩ := h ns hl
  refine ⟨rfl, fun _ => none, H, [], [.scr (ns.map D.int)], ⟨fun _ _ e => e, fun n a e => (by cases e), fun n m a e => (by cases e), fun n o e => (by simp at e), fun _ _ => rfl⟩, .cons (.scr hS (RepL.ints ns)) .nil, ?_⟩
  rw [e]
  intro ρ' P' H' v t s w
  cases w
  rfl
end
end Ab

namespace Ab
open PySem PySem.Spec L2
/-! ### plain data -/
mutual
def toPy0 : D → Option PyData
  | .non => some .none
  | .bl b => some (.bool b)
  | .int i => some (.int i)
  | .str x => some (.str x)
  | .tup ds => (toPyL ds).map PyData.tuple
  | .lst ds => (toPyL ds).map PyData.list
  | .scr ds => (toPyL ds).map PyData.list
  | _ => none
def toPyL : List D → Option (List PyData)
  | [] => some []
  | d :: ds => match toPy0 d, toPyL ds with
    | some p, some ps => some (p :: ps)
    | _, _ => none
end
def toPy (h : AH) (d : D) : Option PyData := match d with
  | .loc n => (match h[n]? with
    | some (.lst ds) => (toPyL ds).map PyData.list
    | _ => none)
  | d => toPy0 d
section
variable {K : PySem.W.Frag} {E : XK} {ρ ρ' ρ1 : Ro} {P H P' H' P1 H1 : Hp}
mutual
theorem dp_of0 (sub : ∀ a o, P a = some o → H a = some o) : ∀ {d : D} {v : V} {p : PyData}, Rep K ρ P d v → toPy0 d = some p → Dp K H v p
  | _, _, _, .non, e => by cases e; exact .non
  | _, _, _, .bl b, e => by cases e; exact .bl b
  | _, _, _, .int i, e => by cases e; exact .int i
  | _, _, _, .str x, e => by cases e; exact .str x
  | _, _, _, .glo x, e => by cases e
  | _, _, _, .ty x, e => by cases e
  | _, _, _, .loc x, e => by cases e
  | _, _, p, .tup (ds := ds) q r, e => by
    have e : (toPyL ds).map PyData.tuple = some p := e
    cases z : toPyL ds with
    | none => rw [z] at e; cases e
    | some ps => rw [z] at e; cases e; exact .tup (sqT_tk sub q) (dp_ofL sub r z)
  | _, _, p, .lst (ds := ds) q r, e => by
    have e : (toPyL ds).map PyData.list = some p := e
    cases z : toPyL ds with
    | none => rw [z] at e; cases e
    | some ps => rw [z] at e; cases e; exact .lst (.of (sub _ _ q)) (dp_ofL sub r z)
  | _, _, p, .scr (ds := ds) q r, e => by
    have e : (toPyL ds).map PyData.list = some p := e
    cases z : toPyL ds with
    | none => rw [z] at e; cases e
    | some ps => rw [z] at e; cases e; exact .lst (sqL_sub sub q) (dp_ofL sub r z)
theorem dp_ofL (sub : ∀ a o, P a = some o → H a = some o) : ∀ {ds : List D} {vs : List V} {ps : List PyData}, RepL K ρ P ds vs → toPyL ds = some ps → DpAll K H vs ps
  | _, _, _, .nil, e => by cases e; exact .nil
  | _, _, ps, .cons (d := d) (ds := ds) a b, e => by
    have e : (match toPy0 d, toPyL ds with
      | some p, some ps => some (p :: ps)
      | _, _ => none) = some ps := e
    cases z : toPy0 d with
    | none => rw [z] at e; cases e
    | some p =>
      cases y : toPyL ds with
      | none => rw [z, y] at e; cases e
      | some qs => rw [z, y] at e; cases e; exact .cons (dp_of0 sub a z) (dp_ofL sub b y)
end
theorem dp_of {h : AH} {d : D} {v : V} {p : PyData} (s : SR K ρ P H h) (w : Rep K ρ P d v) (e : toPy h d = some p) : Dp K H v p := by
  cases w with
  | loc e1 =>
    obtain ⟨o, eo, r⟩ := s.here e1
    simp only [toPy, eo] at e
    cases o with
    | lst ds =>
      obtain ⟨vs, ev, rv⟩ := r
      simp only at e
      cases z : toPyL ds with
      | none => rw [z] at e; cases e
      | some ps => rw [z] at e; cases e; exact .lst (.of ev) (dp_ofL s.sub rv z)
    | dct kvs => cases e
  | non => exact dp_of0 (ρ := ρ) s.sub (.non) e
  | bl b => exact dp_of0 (ρ := ρ) s.sub (.bl b) e
  | int i => exact dp_of0 (ρ := ρ) s.sub (.int i) e
  | str x => exact dp_of0 (ρ := ρ) s.sub (.str x) e
  | glo x => exact dp_of0 (ρ := ρ) s.sub (.glo x) e
  | ty x => exact dp_of0 (ρ := ρ) s.sub (.ty x) e
  | tup q r => exact dp_of0 (ρ := ρ) s.sub (.tup q r) e
  | lst q r => exact dp_of0 (ρ := ρ) s.sub (.lst q r) e
  | scr q r => exact dp_of0 (ρ := ρ) s.sub (.scr q r) e
/-! ### operators -/
def lstD (d : D) (h : AH) : Option (List D) := match d with
  | .lst ds => some ds
  | .loc n => match h[n]? with
    | some (.lst ds) => some ds
    | _ => none
  | _ => none
theorem lstD_ok {h : AH} {d : D} {v : V} {ds : List D} (s : SR K ρ P H h) (w : Rep K ρ P d v) (e : lstD d h = some ds) : ∃ a vs, v = .ref a ∧ H a = some (.lst vs) ∧ RepL K ρ P ds vs := by
  cases w with
  | lst p q => cases e; exact ⟨_, _, rfl, s.sub _ _ p, q⟩
  | loc e1 =>
    obtain ⟨o, e2, r⟩ := s.here e1
    simp only [lstD, e2] at e
    cases o with
    | lst es => cases e; obtain ⟨vs, e3, q⟩ := r; exact ⟨_, vs, rfl, e3, q⟩
    | dct kvs => cases e
  | _ => cases e
def rAddU (K : PySem.W.Frag) : R2 := fun x y H Q => rI0 (fun i j => .int (i + j)) x y H Q ∨ (∃ i j, x = .str i ∧ y = .str j ∧ i.length + j.length ≤ sizeLine ∧ Q (.str (i ++ j)) H) ∨ rCatA K x y H Q
theorem op_addU {X : Cx} : OpR X (binaryOp .Add) (rAddU X.K) := op_add.or (op_add_str.or op_catA)
def addD : D → D → AH → R D
  | .int i, .int j, h => .ok (.int (i + j)) h
  | .str i, .str j, h => if i.length + j.length ≤ sizeLine then .ok (.str (i ++ j)) h else .bad
  | .tup xs, .tup ys, h => if xs.length + ys.length ≤ sizeLine then .ok (.tup (xs ++ ys)) h else .bad
  | _, _, _ => .bad
theorem os_add : OpS K E (rAddU K) addD := fun ρ P H h x y dx dy s wx wy Q p => by
  cases wx with
  | int i =>
    cases wy with
    | int j => exact .inl ⟨i, j, rfl, rfl, Post.here p s (.int _)⟩
    | _ => exact p.elim
  | str i =>
    cases wy with
    | str j =>
      have p : Post K (RV K) E ρ P H Q (if i.length + j.length ≤ sizeLine then .ok (.str (i ++ j)) h else .bad) := p
      split at p
      · rename_i hl; exact .inr (.inl ⟨i, j, rfl, rfl, hl, Post.here p s (.str _)⟩)
      · exact p.elim
    | _ => exact p.elim
  | tup q r =>
    cases wy with
    | tup q' r' =>
      rename_i a xs ds b ys es
      have p : Post K (RV K) E ρ P H Q (if ds.length + es.length ≤ sizeLine then .ok (.tup (ds ++ es)) h else .bad) := p
      split at p
      · rename_i hl
        refine .inr (.inr ⟨a, b, xs, ys, rfl, rfl, sqT_tk s.sub q, sqT_tk s.sub q', by rw [r.length, r'.length]; exact hl, fun e => ?_, fun _ e => ?_, fun _ _ => p.newT s (r.append r')⟩)
        · subst e; cases r; exact Post.here p s (.tup q' r')
        · subst e; cases r'; rw [List.append_nil] at p; exact Post.here p s (.tup q r)
      · exact p.elim
    | _ => exact p.elim
  | _ => exact p.elim
/-- two lists: a new one -/
def catD : D → D → AH → R (List D) := fun a b h => match lstD a h, lstD b h with
  | some xs, some ys => if xs.length + ys.length ≤ sizeLine then .ok (xs ++ ys) h else .bad
  | _, _ => .bad
def mBinF (f : D → D → AH → R (List D)) (ma mb : M D) : M (List D) := fun env h => (ma env h).bind fun a h1 => (mb env h1).bind fun b h2 => f a b h2
theorem sf_cat {ta tb : TE} {ma mb : M D} (ha : Sd K (RV K) E ta ma) (hb : Sd K (RV K) E tb mb) : SdF K E (tOp rCat ta tb) (mBinF catD ma mb) := fun ρ P σ H env h s re Q p =>
  ha ρ P σ H env h s re _ (PostF.bind p fun a h1 ρ1 P1 H1 v t1 s1 w1 p1 =>
    hb ρ1 P1 σ H1 env h1 s1 (re.step t1) _ (PostF.bind p1 fun b h2 ρ2 P2 H2 u t2 s2 w2 p2 => by
      unfold catD at p2
      cases ea : lstD a h2 with
      | none => rw [ea] at p2; exact p2.elim
      | some xs =>
        cases eb : lstD b h2 with
        | none => rw [ea, eb] at p2; exact p2.elim
        | some ys =>
          rw [ea, eb] at p2
          dsimp only at p2
          obtain ⟨a1, vs, rfl, q1, r1⟩ := lstD_ok s2 (w1.step t2) ea
          obtain ⟨b1, us, rfl, q2, r2⟩ := lstD_ok s2 w2 eb
          split at p2
          · rename_i hl
            exact ⟨a1, b1, vs, us, rfl, rfl, q1, q2, by rw [r1.length, r2.length]; exact hl, p2.newL s2 (r1.append r2)⟩
          · exact p2.elim))
/-- list * int -/
def repD : D → D → AH → R (List D) := fun a b h => match lstD a h, b with
  | some xs, .int k => if -(2 ^ 63) ≤ k ∧ k < 2 ^ 63 ∧ xs.length * k.toNat ≤ sizeLine then .ok (List.replicate k.toNat xs).flatten h else .bad
  | _, _ => .bad
theorem RepL.rep {ds : List D} {vs : List V} (r : RepL K ρ P ds vs) : ∀ k : Nat, RepL K ρ P (List.replicate k ds).flatten (List.replicate k vs).flatten
  | 0 => .nil
  | k + 1 => by
    rw [List.replicate_succ, List.replicate_succ, List.flatten_cons, List.flatten_cons]
    exact r.append (RepL.rep r k)
theorem sf_rep {ta tb : TE} {ma mb : M D} (ha : Sd K (RV K) E ta ma) (hb : Sd K (RV K) E tb mb) : SdF K E (tOp rRep ta tb) (mBinF repD ma mb) := fun ρ P σ H env h s re Q p =>
  ha ρ P σ H env h s re _ (PostF.bind p fun a h1 ρ1 P1 H1 v t1 s1 w1 p1 =>
    hb ρ1 P1 σ H1 env h1 s1 (re.step t1) _ (PostF.bind p1 fun b h2 ρ2 P2 H2 u t2 s2 w2 p2 => by
      unfold repD at p2
      cases ea : lstD a h2 with
      | none => rw [ea] at p2; exact p2.elim
      | some xs =>
        rw [ea] at p2
        obtain ⟨a1, vs, rfl, q1, r1⟩ := lstD_ok s2 (w1.step t2) ea
        cases w2 with
        | int k =>
          dsimp only at p2
          split at p2
          · rename_i hl
            exact ⟨a1, k, vs, rfl, rfl, q1, hl.1, hl.2.1, by rw [r1.length]; exact hl.2.2, p2.newL s2 (r1.rep _)⟩
          · exact p2.elim
        | _ => exact p2.elim))
def subD : D → D → AH → R D
  | .int i, .int j, h => .ok (.int (i - j)) h
  | _, _, _ => .bad
theorem os_sub : OpS K E (rI0 fun i j => .int (i - j)) subD := fun ρ P H h x y dx dy s wx wy Q p => by
  cases wx with
  | int i =>
    cases wy with
    | int j => exact ⟨i, j, rfl, rfl, Post.here p s (.int _)⟩
    | _ => exact p.elim
  | _ => exact p.elim
@[irreducible] instance insCMul (i j : Int) : Decidable (CMul i j) := inferInstanceAs (Decidable ((-(2 ^ 64) < i ∧ i < 2 ^ 64) ∨ (-(2 ^ 64) < j ∧ j < 2 ^ 64)))
@[irreducible] instance insCMulW (i j : Int) : Decidable (CMulW i j) := inferInstanceAs (Decidable (_ < _))
def rMulU (K : PySem.W.Frag) : R2 := fun x y H Q => rI CMul (fun i j => .int (i * j)) x y H Q ∨ rI CMulW (fun i j => .int (i * j)) x y H Q ∨ rRepT K x y H Q
theorem op_mulU {X : Cx} : OpR X (binaryOp .Mult) (rMulU X.K) := op_mul.or (op_mulW.or op_repT)
def mulD : D → D → AH → R D
  | .int i, .int j, h => if CMul i j ∨ CMulW i j then .ok (.int (i * j)) h else .bad
  | .tup xs, .int k, h => if xs ≠ [] ∧ 2 ≤ k ∧ k ≤ 1000 ∧ xs.length ≤ 1000 then .ok (.tup (List.replicate k.toNat xs).flatten) h else .bad
  | _, _, _ => .bad
theorem os_mul : OpS K E (rMulU K) mulD := fun ρ P H h x y dx dy s wx wy Q p => by
  cases wx with
  | int i =>
    cases wy with
    | int j =>
      have p : Post K (RV K) E ρ P H Q (if CMul i j ∨ CMulW i j then .ok (.int (i * j)) h else .bad) := p
      split at p
      · rename_i hc
        rcases hc with hc | hc
        · exact .inl ⟨i, j, rfl, rfl, hc, Post.here p s (.int _)⟩
        · exact .inr (.inl ⟨i, j, rfl, rfl, hc, Post.here p s (.int _)⟩)
      · exact p.elim
    | _ => exact p.elim
  | tup q r =>
    rename_i a xs ds
    cases wy with
    | int k =>
      have p : Post K (RV K) E ρ P H Q (if ds ≠ [] ∧ 2 ≤ k ∧ k ≤ 1000 ∧ ds.length ≤ 1000 then .ok (.tup (List.replicate k.toNat ds).flatten) h else .bad) := p
      split at p
      · rename_i hc
        refine .inr (.inr ⟨a, k, xs, rfl, rfl, sqT_tk s.sub q, fun e => ?_, hc.2.1, hc.2.2.1, by rw [r.length]; exact hc.2.2.2, p.newT s (r.rep _)⟩)
        subst e; cases r; exact hc.1 rfl
      · exact p.elim
    | _ => exact p.elim
  | _ => exact p.elim
@[irreducible] instance insCDivW (i j : Int) : Decidable (CDivW i j) := inferInstanceAs (Decidable (_ ∧ _))
@[irreducible] instance insCDiv (i j : Int) : Decidable (CDiv i j) := inferInstanceAs (Decidable (_ ∧ _))
@[irreducible] instance insCPow (i j : Int) : Decidable (CPow i j) := inferInstanceAs (Decidable (_ ∧ _))
def rDivU : R2 := fun x y H Q => rI CDiv (fun i j => .int (i / j)) x y H Q ∨ rI CDivW (fun i j => .int (i / j)) x y H Q
theorem op_divU {X : Cx} : OpR X (binaryOp .FloorDiv) rDivU := op_fdiv.or op_fdivW
def divD : D → D → AH → R D
  | .int i, .int j, h => if CDiv i j ∨ CDivW i j then .ok (.int (i / j)) h else .bad
  | _, _, _ => .bad
theorem os_div : OpS K E rDivU divD := fun ρ P H h x y dx dy s wx wy Q p => by
  cases wx with
  | int i =>
    cases wy with
    | int j =>
      have p : Post K (RV K) E ρ P H Q (if CDiv i j ∨ CDivW i j then .ok (.int (i / j)) h else .bad) := p
      split at p
      · rename_i hc
        rcases hc with hc | hc
        · exact .inl ⟨i, j, rfl, rfl, hc, Post.here p s (.int _)⟩
        · exact .inr ⟨i, j, rfl, rfl, hc, Post.here p s (.int _)⟩
      · exact p.elim
    | _ => exact p.elim
  | _ => exact p.elim
def modD : D → D → AH → R D
  | .int i, .int j, h => if 0 < j then .ok (.int (i % j)) h else .bad
  | _, _, _ => .bad
theorem os_mod : OpS K E (rI (fun _ j => 0 < j) fun i j => .int (i % j)) modD := fun ρ P H h x y dx dy s wx wy Q p => by
  cases wx with
  | int i =>
    cases wy with
    | int j =>
      have p : Post K (RV K) E ρ P H Q (if 0 < j then .ok (.int (i % j)) h else .bad) := p
      split at p
      · rename_i hc; exact ⟨i, j, rfl, rfl, hc, Post.here p s (.int _)⟩
      · exact p.elim
    | _ => exact p.elim
  | _ => exact p.elim
def powD : D → D → AH → R D
  | .int i, .int j, h => if CPow i j then .ok (.int (i ^ j.toNat)) h else .bad
  | _, _, _ => .bad
theorem os_pow : OpS K E (rI CPow fun i j => .int (i ^ j.toNat)) powD := fun ρ P H h x y dx dy s wx wy Q p => by
  cases wx with
  | int i =>
    cases wy with
    | int j =>
      have p : Post K (RV K) E ρ P H Q (if CPow i j then .ok (.int (i ^ j.toNat)) h else .bad) := p
      split at p
      · rename_i hc; exact ⟨i, j, rfl, rfl, hc, Post.here p s (.int _)⟩
      · exact p.elim
    | _ => exact p.elim
  | _ => exact p.elim
/-- comparisons of ints -/
def cmpD (f : Int → Int → Bool) : D → D → AH → R D
  | .int i, .int j, h => .ok (.bl (f i j)) h
  | _, _, _ => .bad
theorem os_cmp {f : Int → Int → Bool} : OpS K E (rI0 fun i j => .bl (f i j)) (cmpD f) := fun ρ P H h x y dx dy s wx wy Q p => by
  cases wx with
  | int i =>
    cases wy with
    | int j => exact ⟨i, j, rfl, rfl, Post.here p s (.bl _)⟩
    | _ => exact p.elim
  | _ => exact p.elim
/-- -x -/
def negD : D → AH → R D
  | .int i, h => .ok (.int (-i)) h
  | _, _ => .bad
theorem us_neg : UnS K E (rU fun i => .int (-i)) negD := fun ρ P H h x dx s wx Q p => by
  cases wx with
  | int i => exact ⟨i, rfl, Post.here p s (.int _)⟩
  | _ => exact p.elim
/-! == of data -/
def rEqU (K : PySem.W.Frag) : R2 := fun x y H Q => rEq x y H Q ∨ rEqD K x y H Q
def rNeU (K : PySem.W.Frag) : R2 := fun x y H Q => rNe x y H Q ∨ rNeD K x y H Q
theorem op_eqU {X : Cx} (hu : X.A.units + 64 < cLine) : OpR X (compareOp .Eq) (rEqU X.K) := op_eq.or (op_eqD hu)
theorem op_neU {X : Cx} (hu : X.A.units + 64 < cLine) : OpR X (compareOp .NotEq) (rNeU X.K) := op_ne.or (op_neD hu)
def eqB (a b : D) (h : AH) : Option Bool := match a, b with
  | .int i, .int j => some (decide (i = j))
  | .bl i, .bl j => some (decide (i = j))
  | .str i, .str j => some (decide (i = j))
  | a, b => match toPy h a, toPy h b with
    | some p, some q => if SeqAt.shaped p = true ∧ SeqAt.shaped q = true then some (PyData.eqv p q) else none
    | _, _ => none
theorem eqB_ok {h : AH} {a b : D} {x y : V} {k : Bool} (s : SR K ρ P H h) (wx : Rep K ρ P a x) (wy : Rep K ρ P b y) (e : eqB a b h = some k) :
    (scal x y = true ∧ decide (x = y) = k) ∨ ∃ p q, Dp K H x p ∧ Dp K H y q ∧ SeqAt.shaped p = true ∧ SeqAt.shaped q = true ∧ PyData.eqv p q = k := by
  have gen : (match toPy h a, toPy h b with
    | some p, some q => if SeqAt.shaped p = true ∧ SeqAt.shaped q = true then some (PyData.eqv p q) else none
    | _, _ => none) = some k → ∃ p q, Dp K H x p ∧ Dp K H y q ∧ SeqAt.shaped p = true ∧ SeqAt.shaped q = true ∧ PyData.eqv p q = k := fun e => by
    cases ea : toPy h a with
    | none => rw [ea] at e; cases e
    | some p =>
      cases eb : toPy h b with
      | none => rw [ea, eb] at e; cases e
      | some q =>
        rw [ea, eb] at e
        dsimp only at e
        split at e
        · rename_i hh; cases e; exact ⟨p, q, dp_of s wx ea, dp_of s wy eb, hh.1, hh.2, rfl⟩
        · cases e
  unfold eqB at e
  split at e
  · cases wx; cases wy; cases e; exact .inl ⟨rfl, by rw [dec_int]; rfl⟩
  · cases wx; cases wy; cases e; exact .inl ⟨rfl, by rw [dec_bl]; rename_i i j; cases i <;> cases j <;> rfl⟩
  · cases wx; cases wy; cases e; exact .inl ⟨rfl, by rename_i i j; by_cases z : i = j; · subst z; simp
                                                     · rw [decide_eq_false z, decide_eq_false fun q => z (V.str.inj q)]⟩
  · exact .inr (gen e)
def eqD (a b : D) (h : AH) : R D := match eqB a b h with
  | some k => .ok (.bl k) h
  | none => .bad
def neD (a b : D) (h : AH) : R D := match eqB a b h with
  | some k => .ok (.bl (!k)) h
  | none => .bad
theorem os_eq : OpS K E (rEqU K) eqD := fun ρ P H h x y dx dy s wx wy Q p => by
  unfold eqD at p
  cases e : eqB dx dy h with
  | none => rw [e] at p; exact p.elim
  | some k =>
    rw [e] at p
    have q := Post.here p s (.bl k)
    rcases eqB_ok s wx wy e with ⟨h1, h2⟩ | ⟨a, b, h1, h2, h3, h4, h5⟩
    · exact .inl ⟨h1, by rw [h2]; exact q⟩
    · exact .inr ⟨a, b, h1, h2, h3, h4, by rw [h5]; exact q⟩
theorem os_ne : OpS K E (rNeU K) neD := fun ρ P H h x y dx dy s wx wy Q p => by
  unfold neD at p
  cases e : eqB dx dy h with
  | none => rw [e] at p; exact p.elim
  | some k =>
    rw [e] at p
    have q := Post.here p s (.bl !k)
    rcases eqB_ok s wx wy e with ⟨h1, h2⟩ | ⟨a, b, h1, h2, h3, h4, h5⟩
    · exact .inl ⟨h1, by rw [h2]; exact q⟩
    · exact .inr ⟨a, b, h1, h2, h3, h4, by rw [h5]; exact q⟩
/-! in -/
def rInG (K : PySem.W.Frag) (neg : Bool) : R2 := fun x y H Q => ∃ d ds, Dp K H x d ∧ (Dp K H y (.list ds) ∨ Dp K H y (.tuple ds)) ∧ SeqAt.shaped d = true ∧ PyData.canLayAll0 ds = true ∧ Q (.bl (if neg then !ds.any (fun z => PyData.eqv z d) else ds.any fun z => PyData.eqv z d)) H
theorem room_in {X : Cx} {d : PyData} {ds : List PyData} (sd : SeqAt.shaped d = true) (hu : X.A.units + 65 < cLine) : X.A.units + 1 + min (PyData.depthAll ds) d.depth < cLine := by
  have h1 := SeqAt.depth_of_shaped sd
  have h2 : min (PyData.depthAll ds) d.depth ≤ d.depth := Nat.min_le_right _ _
  omega
theorem op_inG {X : Cx} (hu : X.A.units + 65 < cLine) : OpR X (compareOp .In) (rInG X.K false) := by
  intro pins s σ H x y v u Q I rx ry h
  obtain ⟨d, ds, hd, he, sd, se, q⟩ := h
  obtain ⟨as, r1⟩ := Dp.reads I d x v hd rx
  have hr := room_in (X := X) (ds := ds) sd hu
  rcases he with he | he
  · obtain ⟨bs, r2⟩ := Dp.reads I _ y u he ry
    exact SeqAt.in_list_reads r2 r1 se (SeqAt.canLay_of_shaped sd) hr ⟨.bl _, H, I, rfl, q⟩
  · obtain ⟨bs, r2⟩ := Dp.reads I _ y u he ry
    exact SeqAt.in_tuple_reads r2 r1 se (SeqAt.canLay_of_shaped sd) hr ⟨.bl _, H, I, rfl, q⟩
theorem op_notInG {X : Cx} (hu : X.A.units + 65 < cLine) : OpR X (compareOp .NotIn) (rInG X.K true) := by
  intro pins s σ H x y v u Q I rx ry h
  obtain ⟨d, ds, hd, he, sd, se, q⟩ := h
  obtain ⟨as, r1⟩ := Dp.reads I d x v hd rx
  have hr := room_in (X := X) (ds := ds) sd hu
  rcases he with he | he
  · obtain ⟨bs, r2⟩ := Dp.reads I _ y u he ry
    exact SeqAt.notIn_list_reads r2 r1 se (SeqAt.canLay_of_shaped sd) hr ⟨.bl _, H, I, rfl, q⟩
  · obtain ⟨bs, r2⟩ := Dp.reads I _ y u he ry
    exact SeqAt.notIn_tuple_reads r2 r1 se (SeqAt.canLay_of_shaped sd) hr ⟨.bl _, H, I, rfl, q⟩
def inB (a b : D) (h : AH) : Option Bool := match toPy h a, toPy h b with
  | some p, some (.list qs) => if SeqAt.shaped p = true ∧ PyData.canLayAll0 qs = true then some (qs.any fun z => PyData.eqv z p) else none
  | some p, some (.tuple qs) => if SeqAt.shaped p = true ∧ PyData.canLayAll0 qs = true then some (qs.any fun z => PyData.eqv z p) else none
  | _, _ => none
def inD (neg : Bool) (a b : D) (h : AH) : R D := match inB a b h with
  | some k => .ok (.bl (if neg then !k else k)) h
  | none => .bad
theorem os_in {neg : Bool} : OpS K E (rInG K neg) (inD neg) := fun ρ P H h x y dx dy s wx wy Q p => by
  unfold inD at p
  cases e : inB dx dy h with
  | none => rw [e] at p; exact p.elim
  | some k =>
    rw [e] at p
    have q := Post.here p s (.bl _)
    unfold inB at e
    cases ea : toPy h dx with
    | none => rw [ea] at e; cases e
    | some a =>
      cases eb : toPy h dy with
      | none => rw [ea, eb] at e; cases e
      | some b =>
        rw [ea, eb] at e
        have hb := dp_of s wy eb
        have ha := dp_of s wx ea
        cases b with
        | list qs =>
          dsimp only at e
          split at e
          · rename_i hh; cases e; exact ⟨a, qs, ha, .inl hb, hh.1, hh.2, q⟩
          · cases e
        | tuple qs =>
          dsimp only at e
          split at e
          · rename_i hh; cases e; exact ⟨a, qs, ha, .inr hb, hh.1, hh.2, q⟩
          · cases e
        | _ => cases e
/-! is None -/
def isND (neg : Bool) (a b : D) (h : AH) : R D := match b with
  | .non => .ok (.bl (match a with
    | .non => !neg
    | _ => neg)) h
  | _ => .bad
theorem rep_non {d : D} {v : V} (w : Rep K ρ P d v) : decide (v = .non) = (match d with
    | .non => true
    | _ => false) := by cases w <;> simp
theorem os_isN : OpS K E (fun x y H Q => y = .non ∧ Q (.bl (decide (x = .non))) H) (isND false) := fun ρ P H h x y dx dy s wx wy Q p => by
  cases wy with
  | non =>
    refine ⟨rfl, ?_⟩
    have q := Post.here p s (.bl _)
    rw [rep_non wx]
    cases dx <;> exact q
  | _ => exact p.elim
theorem os_notN : OpS K E (fun x y H Q => y = .non ∧ Q (.bl (!decide (x = .non))) H) (isND true) := fun ρ P H h x y dx dy s wx wy Q p => by
  cases wy with
  | non =>
    refine ⟨rfl, ?_⟩
    have q := Post.here p s (.bl _)
    rw [rep_non wx]
    cases dx <;> exact q
  | _ => exact p.elim
/-! xs[i] -/
def ixD (a b : D) (h : AH) : R D := match a, b with
  | .str z, .int i => if z.length ≤ sizeLine then (match atI z.cps.toList i with
    | some c => .ok (.str ⟨#[c]⟩) h
    | none => .bad) else .bad
  | .tup ds, .int i => (match atI ds i with
    | some d => .ok d h
    | none => .bad)
  | a, .int i => (match seqD a h with
    | some ds => (match atI ds i with
      | some d => .ok d h
      | none => .bad)
    | none => .bad)
  | _, _ => .bad
theorem RepL.atI {ds : List D} {vs : List V} {i : Int} {d : D} (r : RepL K ρ P ds vs) (e : atI ds i = some d) : ∃ v, L2.atI vs i = some v ∧ Rep K ρ P d v := by
  have hl := r.length
  unfold L2.atI at e ⊢
  rw [hl]
  cases q : ixN ds.length i with
  | none => rw [q] at e; cases e
  | some j =>
    rw [q] at e
    exact r.get e
theorem os_ix : OpS K E (rIx K) ixD := fun ρ P H h x y dx dy s wx wy Q p => by
  have sq : ∀ {ds : List D} {i : Int}, dy = .int i → seqD dx h = some ds → Post K (RV K) E ρ P H Q (match atI ds i with
      | some d => .ok d h
      | none => .bad) → rIx K x y H Q := fun {ds i} ey es pp => by
    subst ey
    cases wy
    cases e : L2.atI ds i with
    | none => rw [e] at pp; exact pp.elim
    | some d =>
      rw [e] at pp
      obtain ⟨a, vs, rfl, q, r⟩ := seqD_sq s wx es
      obtain ⟨v, e2, rv⟩ := r.atI e
      exact .inl ⟨a, vs, i, v, rfl, rfl, q, e2, Post.here pp s rv⟩
  cases wy with
  | int i =>
    cases wx with
    | str z =>
      have p : Post K (RV K) E ρ P H Q (if z.length ≤ sizeLine then (match L2.atI z.cps.toList i with
        | some c => .ok (.str ⟨#[c]⟩) h
        | none => .bad) else .bad) := p
      split at p
      · rename_i hl
        cases e : L2.atI z.cps.toList i with
        | none => rw [e] at p; exact p.elim
        | some c =>
          rw [e] at p
          exact .inr (.inr ⟨z, i, c, rfl, rfl, hl, e, Post.here p s (.str _)⟩)
      · exact p.elim
    | tup q r =>
      rename_i a vs ds
      have p : Post K (RV K) E ρ P H Q (match L2.atI ds i with
        | some d => .ok d h
        | none => .bad) := p
      cases e : L2.atI ds i with
      | none => rw [e] at p; exact p.elim
      | some d =>
        rw [e] at p
        obtain ⟨v, e2, rv⟩ := r.atI e
        exact .inr (.inl ⟨a, vs, i, v, rfl, rfl, sqT_tk s.sub q, e2, Post.here p s rv⟩)
    | lst q r => exact sq rfl rfl p
    | scr q r => exact sq rfl rfl p
    | loc e =>
      rename_i n a
      have p : Post K (RV K) E ρ P H Q (match seqD (.loc n) h with
        | some ds => (match L2.atI ds i with
          | some d => .ok d h
          | none => .bad)
        | none => .bad) := p
      cases q : seqD (.loc n) h with
      | none => rw [q] at p; exact p.elim
      | some ds => rw [q] at p; exact sq rfl q p
    | _ => exact p.elim
  | _ => cases wx <;> exact p.elim
end
end Ab

namespace Ab
open PySem PySem.Spec L2
section
variable {K : PySem.W.Frag} {E : XK} {ρ ρ' ρ1 : Ro} {P H P' H' P1 H1 : Hp}
/-! ### built-in functions, by values -/
def CbS (K : PySem.W.Frag) (E : XK) (r : List V → Hp → VK → Prop) (f : List D → AH → R D) : Prop := ∀ ρ P H h vs ds, SR K ρ P H h → RepL K ρ P ds vs → ∀ Q, Post K (RV K) E ρ P H Q (f ds h) → r vs H Q
def CbF (K : PySem.W.Frag) (E : XK) (r : List V → Hp → VK → Prop) (f : List D → AH → R (List D)) : Prop := ∀ ρ P H h vs ds, SR K ρ P H h → RepL K ρ P ds vs → ∀ Q, PostF K E ρ P H Q (f ds h) → r vs H Q
def mCB (f : List D → AH → R D) (m : M (List D)) : M D := fun env h => (m env h).bind fun ds h1 => f ds h1
def mCBF (f : List D → AH → R (List D)) (m : M (List D)) : M (List D) := fun env h => (m env h).bind fun ds h1 => f ds h1
theorem sd_cb {r : List V → Hp → VK → Prop} {f : List D → AH → R D} {t : TA} {m : M (List D)} (hr : CbS K E r f) (ha : Sd K (RVs K) E t m) : Sd K (RV K) E (tCB r t) (mCB f m) := fun ρ P σ H env h s re Q p =>
  ha ρ P σ H env h s re _ (Post.bind p fun a h1 ρ1 P1 H1 v t1 s1 w1 p1 => hr _ _ _ _ _ _ s1 w1 Q p1)
theorem sf_cb {r : List V → Hp → VK → Prop} {f : List D → AH → R (List D)} {t : TA} {m : M (List D)} (hr : CbF K E r f) (ha : Sd K (RVs K) E t m) : SdF K E (tCB r t) (mCBF f m) := fun ρ P σ H env h s re Q p =>
  ha ρ P σ H env h s re _ (PostF.bind p fun a h1 ρ1 P1 H1 v t1 s1 w1 p1 => hr _ _ _ _ _ _ s1 w1 Q p1)
theorem RepL.one {d : D} {vs : List V} (r : RepL K ρ P [d] vs) : ∃ v, vs = [v] ∧ Rep K ρ P d v := by
  cases r with
  | cons a b => cases b; exact ⟨_, rfl, a⟩
theorem RepL.two {d e : D} {vs : List V} (r : RepL K ρ P [d, e] vs) : ∃ v u, vs = [v, u] ∧ Rep K ρ P d v ∧ Rep K ρ P e u := by
  cases r with
  | cons a b =>
    obtain ⟨u, rfl, w⟩ := b.one
    exact ⟨_, u, rfl, a, w⟩
def lenD : List D → AH → R D
  | [.str x], h => if x.length ≤ sizeLine then .ok (.int x.length) h else .bad
  | [.tup ds], h => .ok (.int ds.length) h
  | [d], h => (match seqD d h with
    | some ds => .ok (.int ds.length) h
    | none => .bad)
  | _, _ => .bad
theorem cb_len : CbS K E (fun xs H Q => ∃ x n, xs = [x] ∧ LenV K x H n ∧ Q (.int n) H) lenD := fun ρ P H h vs ds s w Q p => by
  unfold lenD at p
  split at p
  · obtain ⟨v, rfl, r⟩ := w.one
    cases r
    split at p
    · rename_i hl; exact ⟨_, _, rfl, ⟨hl, rfl⟩, Post.here p s (.int _)⟩
    · exact p.elim
  · obtain ⟨v, rfl, r⟩ := w.one
    cases r with
    | tup q r => exact ⟨_, _, rfl, .inr ⟨_, sqT_tk s.sub q, rfl⟩, by rw [r.length]; exact Post.here p s (.int _)⟩
  · obtain ⟨v, rfl, r⟩ := w.one
    split at p
    · rename_i e
      obtain ⟨a, us, rfl, q, r2⟩ := seqD_sq s r e
      exact ⟨_, _, rfl, .inl ⟨_, q, rfl⟩, by rw [r2.length]; exact Post.here p s (.int _)⟩
    · exact p.elim
  · exact p.elim
def absD : List D → AH → R D
  | [.int i], h => .ok (.int (if i < 0 then -i else i)) h
  | _, _ => .bad
theorem cb_abs : CbS K E (fun xs H Q => ∃ i, xs = [.int i] ∧ Q (.int (if i < 0 then -i else i)) H) absD := fun ρ P H h vs ds s w Q p => by
  unfold absD at p
  split at p
  · obtain ⟨v, rfl, r⟩ := w.one
    cases r
    exact ⟨_, rfl, Post.here p s (.int _)⟩
  · exact p.elim
def max2D : List D → AH → R D
  | [.int i, .int j], h => .ok (.int (if j > i then j else i)) h
  | _, _ => .bad
def min2D : List D → AH → R D
  | [.int i, .int j], h => .ok (.int (if j < i then j else i)) h
  | _, _ => .bad
theorem cb_max2 : CbS K E (fun xs H Q => ∃ i j, xs = [.int i, .int j] ∧ Q (.int (if j > i then j else i)) H) max2D := fun ρ P H h vs ds s w Q p => by
  unfold max2D at p
  split at p
  · obtain ⟨v, u, rfl, r1, r2⟩ := w.two
    cases r1; cases r2
    exact ⟨_, _, rfl, Post.here p s (.int _)⟩
  · exact p.elim
theorem cb_min2 : CbS K E (fun xs H Q => ∃ i j, xs = [.int i, .int j] ∧ Q (.int (if j < i then j else i)) H) min2D := fun ρ P H h vs ds s w Q p => by
  unfold min2D at p
  split at p
  · obtain ⟨v, u, rfl, r1, r2⟩ := w.two
    cases r1; cases r2
    exact ⟨_, _, rfl, Post.here p s (.int _)⟩
  · exact p.elim
def intD : List D → AH → R D
  | [.int i], h => .ok (.int i) h
  | [.bl k], h => .ok (.int (if k then 1 else 0)) h
  | _, _ => .bad
theorem cb_int : CbS K E (fun xs H Q => (∃ i, xs = [.int i] ∧ Q (.int i) H) ∨ ∃ k, xs = [.bl k] ∧ Q (.int (if k then 1 else 0)) H) intD := fun ρ P H h vs ds s w Q p => by
  unfold intD at p
  split at p
  · obtain ⟨v, rfl, r⟩ := w.one
    cases r
    exact .inl ⟨_, rfl, Post.here p s (.int _)⟩
  · obtain ⟨v, rfl, r⟩ := w.one
    cases r
    exact .inr ⟨_, rfl, Post.here p s (.int _)⟩
  · exact p.elim
def strD : List D → AH → R D
  | [.int i], h => if i.natAbs.log2 < 1920 then .ok (.str (toString i)) h else .bad
  | _, _ => .bad
theorem cb_str : CbS K E (fun xs H Q => ∃ i, xs = [.int i] ∧ i.natAbs.log2 < 1920 ∧ Q (.str (toString i)) H) strD := fun ρ P H h vs ds s w Q p => by
  unfold strD at p
  split at p
  · obtain ⟨v, rfl, r⟩ := w.one
    cases r
    split at p
    · rename_i hl; exact ⟨_, rfl, hl, Post.here p s (.str _)⟩
    · exact p.elim
  · exact p.elim
def divmodD : List D → AH → R D
  | [.int i, .int j], h => if CDiv i j then .ok (.tup [.int (i / j), .int (i % j)]) h else .bad
  | _, _ => .bad
theorem cb_divmod : CbS K E (fun xs H Q => ∃ i j, xs = [.int i, .int j] ∧ CDiv i j ∧ ∀ p, H p = none → Q (.ref p) (upd H p (.tup [.int (i / j), .int (i % j)]))) divmodD := fun ρ P H h vs ds s w Q p => by
  unfold divmodD at p
  split at p
  · obtain ⟨v, u, rfl, r1, r2⟩ := w.two
    cases r1; cases r2
    split at p
    · rename_i hc; exact ⟨_, _, rfl, hc, p.newT s (.cons (.int _) (.cons (.int _) .nil))⟩
    · exact p.elim
  · exact p.elim
/-- list(xs) -/
def listD : List D → AH → R (List D)
  | [.tup ds], h => .ok ds h
  | [d], h => (match seqD d h with
    | some ds => .ok ds h
    | none => .bad)
  | _, _ => .bad
theorem cb_list : CbF K E (fun xs H Q => ∃ p ys, xs = [.ref p] ∧ (SqL K H p ys ∨ SqT K H p ys) ∧ ∀ l, H l = none → Q (.ref l) (upd H l (.lst ys))) listD := fun ρ P H h vs ds s w Q p => by
  unfold listD at p
  split at p
  · obtain ⟨v, rfl, r⟩ := w.one
    cases r with
    | tup q r => exact ⟨_, _, rfl, .inr (sqT_tk s.sub q), p.newL s r⟩
  · obtain ⟨v, rfl, r⟩ := w.one
    split at p
    · rename_i e
      obtain ⟨a, us, rfl, q, r2⟩ := seqD_sq s r e
      exact ⟨_, _, rfl, .inl q, p.newL s r2⟩
    · exact p.elim
  · exact p.elim
/-- tuple(xs) -/
def tupleD : List D → AH → R D
  | [.tup ds], h => .ok (.tup ds) h
  | [d], h => (match seqD d h with
    | some ds => .ok (.tup ds) h
    | none => .bad)
  | _, _ => .bad
theorem cb_tuple : CbS K E (fun xs H Q => ∃ p ys, xs = [.ref p] ∧ ((SqL K H p ys ∧ ∀ l, H l = none → Q (.ref l) (upd H l (.tup ys))) ∨ (SqT K H p ys ∧ Q (.ref p) H))) tupleD := fun ρ P H h vs ds s w Q p => by
  unfold tupleD at p
  split at p
  · obtain ⟨v, rfl, r⟩ := w.one
    cases r with
    | tup q r => exact ⟨_, _, rfl, .inr ⟨sqT_tk s.sub q, Post.here p s (.tup q r)⟩⟩
  · obtain ⟨v, rfl, r⟩ := w.one
    split at p
    · rename_i e
      obtain ⟨a, us, rfl, q, r2⟩ := seqD_sq s r e
      exact ⟨_, _, rfl, .inl ⟨q, p.newT s r2⟩⟩
    · exact p.elim
  · exact p.elim
/-- the truth values of a list -/
def blsD : List D → Option (List Bool)
  | [] => some []
  | .bl b :: ds => (blsD ds).map (b :: ·)
  | _ => none
theorem blsD_ok : ∀ {ds : List D} {bs : List Bool}, blsD ds = some bs → ds = bs.map D.bl
  | [], _, e => by cases e; rfl
  | d :: ds, bs, e => by
    cases d with
    | bl b =>
      have e : (blsD ds).map (b :: ·) = some bs := e
      cases q : blsD ds with
      | none => rw [q] at e; cases e
      | some cs => rw [q] at e; cases e; rw [blsD_ok q]; rfl
    | _ => cases e
def allD (any : Bool) : List D → AH → R D
  | [d], h => (match seqD d h with
    | some ds => (match blsD ds with
      | some bs => .ok (.bl (if any then bs.any id else bs.all id)) h
      | none => .bad)
    | _ => .bad)
  | _, _ => .bad
theorem cb_all : CbS K E (rAll K) (allD false) := fun ρ P H h vs ds s w Q p => by
  unfold allD at p
  split at p
  · obtain ⟨v, rfl, r⟩ := w.one
    split at p
    · rename_i e
      split at p
      · rename_i bs eb
        obtain ⟨a, us, rfl, q, r2⟩ := seqD_sq s r e
        rw [blsD_ok eb] at r2
        rw [RepL.bls_iff r2] at q
        exact ⟨_, bs, rfl, q, Post.here p s (.bl _)⟩
      · exact p.elim
    · exact p.elim
  · exact p.elim
theorem cb_any : CbS K E (rAny K) (allD true) := fun ρ P H h vs ds s w Q p => by
  unfold allD at p
  split at p
  · obtain ⟨v, rfl, r⟩ := w.one
    split at p
    · rename_i e
      split at p
      · rename_i bs eb
        obtain ⟨a, us, rfl, q, r2⟩ := seqD_sq s r e
        rw [blsD_ok eb] at r2
        rw [RepL.bls_iff r2] at q
        exact ⟨_, bs, rfl, q, Post.here p s (.bl _)⟩
      · exact p.elim
    · exact p.elim
  · exact p.elim
def intsD : List D → Option (List Int)
  | [] => some []
  | .int b :: ds => (intsD ds).map (b :: ·)
  | _ => none
theorem intsD_ok : ∀ {ds : List D} {bs : List Int}, intsD ds = some bs → ds = bs.map D.int
  | [], _, e => by cases e; rfl
  | d :: ds, bs, e => by
    cases d with
    | int b =>
      have e : (intsD ds).map (b :: ·) = some bs := e
      cases q : intsD ds with
      | none => rw [q] at e; cases e
      | some cs => rw [q] at e; cases e; rw [intsD_ok q]; rfl
    | _ => cases e
def sumD : List D → AH → R D
  | [d], h => (match seqD d h with
    | some ds => (match intsD ds with
      | some bs => .ok (.int bs.sum) h
      | none => .bad)
    | _ => .bad)
  | _, _ => .bad
theorem cb_sum : CbS K E (rSum K) sumD := fun ρ P H h vs ds s w Q p => by
  unfold sumD at p
  split at p
  · obtain ⟨v, rfl, r⟩ := w.one
    split at p
    · rename_i e
      split at p
      · rename_i bs eb
        obtain ⟨a, us, rfl, q, r2⟩ := seqD_sq s r e
        rw [intsD_ok eb] at r2
        rw [RepL.ints_iff r2] at q
        exact ⟨_, bs, rfl, q, Post.here p s (.int _)⟩
      · exact p.elim
    · exact p.elim
  · exact p.elim
/-- isinstance of a built-in type -/
def tyD (d : D) (h : AH) : Option String := match d with
  | .non => some "NoneType"
  | .bl _ => some "bool"
  | .int _ => some "int"
  | .str _ => some "str"
  | .tup _ => some "tuple"
  | .lst _ => some "list"
  | .scr _ => some "list"
  | .loc n => (match h[n]? with
    | some (.lst _) => some "list"
    | _ => none)
  | _ => none
theorem tyD_ok {h : AH} {d : D} {v : V} {n : String} (s : SR K ρ P H h) (w : Rep K ρ P d v) (e : tyD d h = some n) : TyX K H v (.type n) := by
  have lq : ∀ {a : Addr} {vs : List V}, SqL K H a vs → TyX K H (.ref a) (.type "list") := fun {a vs} q => by
    rcases q with (q | ⟨o, q⟩) | ⟨o, its, m, q, c, _⟩
    · exact .base (.lst q)
    · exact .base (.frz q)
    · exact .kList q c
  cases w with
  | non => cases e; exact .base .non
  | bl b => cases e; exact .base (.bl b)
  | int i => cases e; exact .base (.int i)
  | str x => cases e; exact .base (.str x)
  | glo x => cases e
  | ty x => cases e
  | tup q r =>
    cases e
    rcases sqT_tk s.sub q with (q | ⟨o, q⟩) | ⟨o, its, m, q, c, _⟩
    · exact .base (.tup q)
    · exact .fTuple q
    · exact .kTuple q c
  | lst q r => cases e; exact lq (.of (s.sub _ _ q))
  | scr q r => cases e; exact lq (sqL_sub s.sub q)
  | loc e1 =>
    obtain ⟨o, eo, r⟩ := s.here e1
    simp only [tyD, eo] at e
    cases o with
    | lst ds => cases e; obtain ⟨us, ev, _⟩ := r; exact lq (.of ev)
    | dct kvs => cases e
def isTy (a b : String) : Option Bool := if (a = "NoneType" ∨ a = "bool" ∨ a = "int" ∨ a = "str" ∨ a = "tuple" ∨ a = "list") ∧ (b = "bool" ∨ b = "int" ∨ b = "str" ∨ b = "tuple" ∨ b = "list") then some (decide (a = b) || (decide (a = "bool") && decide (b = "int"))) else none
theorem isTy_ok {a b : String} {k : Bool} (e : isTy a b = some k) : kitB a b = some k := by
  unfold isTy at e
  split at e
  · rename_i hh
    rw [← e]
    obtain ⟨ha, hb⟩ := hh
    rcases ha with rfl | rfl | rfl | rfl | rfl | rfl <;> rcases hb with rfl | rfl | rfl | rfl | rfl <;> decide +kernel
  · cases e
def isiD : List D → AH → R D
  | [d, .ty n], h => (match tyD d h with
    | some t => (match isTy t n with
      | some k => .ok (.bl k) h
      | none => .bad)
    | _ => .bad)
  | _, _ => .bad
theorem cb_isi : CbS K E (rIsi K) isiD := fun ρ P H h vs ds s w Q p => by
  unfold isiD at p
  split at p
  · obtain ⟨v, u, rfl, r1, r2⟩ := w.two
    cases r2
    split at p
    · rename_i t et
      split at p
      · rename_i k ek
        exact ⟨v, _, _, _, k, rfl, .ty _, tyD_ok s r1 et, kit_ty (isTy_ok ek), Post.here p s (.bl _)⟩
      · exact p.elim
    · exact p.elim
  · exact p.elim
end
/-! ### repr -/
mutual
/-- a bound of a repr's length that does not hang on the ints -/
def cost : PyData → Nat
  | .none => 8
  | .bool _ => 8
  | .int _ => 2000
  | .str x => (reprText x).length
  | .list ds => costL ds + 4
  | .tuple ds => costL ds + 4
  | .dict _ => 0
def costL : List PyData → Nat
  | [] => 0
  | d :: ds => cost d + 2 + costL ds
end
mutual
def noDict : PyData → Bool
  | .list ds => noDictL ds
  | .tuple ds => noDictL ds
  | .dict _ => false
  | _ => true
def noDictL : List PyData → Bool
  | [] => true
  | d :: ds => noDict d && noDictL ds
end
theorem listText_le : ∀ ts : List Str, (listText ts).length ≤ piled ts + 2
  | [] => by decide
  | t :: r => by
    have h := textFrom_length_pos r 1 ((("[" : String) : Str) ++ (if (0 : Nat) > 0 then ", " else "" : String) ++ t) (Nat.succ_pos 0)
    have e : (listText (t :: r)).length = (textFrom 1 ((("[" : String) : Str) ++ (if (0 : Nat) > 0 then ", " else "" : String) ++ t) r).length + 1 := strLen_append _ _
    have e2 : ((("[" : String) : Str) ++ (if (0 : Nat) > 0 then ", " else "" : String) ++ t).length = 1 + t.length := by rw [strLen_append, strLen_append]; rfl
    rw [e, h, e2, piled_cons]
    omega
theorem tupleText_le (ts : List Str) : (tupleText ts).length ≤ piled ts + 4 := by
  unfold tupleText
  rw [strLen_append, strLen_append]
  have e1 : ((("(" : String) : Str)).length = 1 := rfl
  have e3 : (((if ts.length == 1 then ",)" else ")" : String) : Str)).length ≤ 2 := by split <;> decide
  rw [e1]
  by_cases z : ts = []
  · subst z
    have e0 : (Str.join ((", " : String) : Str) []).length = 0 := rfl
    rw [e0]
    omega
  · have := join_length_add ts z
    omega
mutual
theorem shown_le : ∀ d : PyData, d.showable = true → noDict d = true → d.shown.length ≤ cost d
  | .none, _, _ => by decide
  | .bool b, _, _ => by cases b <;> decide
  | .int i, h, _ => by
    have h1 : i.natAbs.log2 < 1920 := of_decide_eq_true h
    have h2 := int_text_length_le (k := 1920) (by decide) h1
    show (Str.ofString (toString i)).length ≤ 2000
    have h3 : (Str.ofString (toString i)).length = (toString i).length := by
      rw [Str.ofString_eq_toList]
      show ((toString i).toList.map Char.toNat).toArray.size = _
      rw [List.size_toArray, List.length_map]
      exact String.length_toList
    omega
  | .str x, _, _ => Nat.le_refl _
  | .list ds, h, n => by
    have h1 := shownL_le ds (by simpa only [PyData.showable] using h) (by simpa only [noDict] using n)
    have h2 := listText_le (PyData.shownAll ds)
    show (PyData.shown (.list ds)).length ≤ costL ds + 4
    rw [PyData.shown]
    omega
  | .tuple ds, h, n => by
    have h1 := shownL_le ds (by simpa only [PyData.showable] using h) (by simpa only [noDict] using n)
    have h2 := tupleText_le (PyData.shownAll ds)
    show (PyData.shown (.tuple ds)).length ≤ costL ds + 4
    rw [PyData.shown]
    omega
  | .dict _, _, n => by simp [noDict] at n
theorem shownL_le : ∀ ds : List PyData, PyData.showableAll ds = true → noDictL ds = true → piled (PyData.shownAll ds) ≤ costL ds
  | [], _, _ => by decide
  | d :: ds, h, n => by
    have h' : d.showable = true ∧ PyData.showableAll ds = true := by simpa only [PyData.showableAll, Bool.and_eq_true] using h
    have n' : noDict d = true ∧ noDictL ds = true := by simpa only [noDictL, Bool.and_eq_true] using n
    have h1 := shown_le d h'.1 n'.1
    have h2 := shownL_le ds h'.2 n'.2
    show piled (PyData.shown d :: PyData.shownAll ds) ≤ cost d + 2 + costL ds
    rw [piled_cons]
    omega
end
mutual
theorem noDict_has : ∀ d : PyData, noDict d = true → d.hasDict = false
  | .none, _ => by simp only [PyData.hasDict]
  | .bool _, _ => by simp only [PyData.hasDict]
  | .int _, _ => by simp only [PyData.hasDict]
  | .str _, _ => by simp only [PyData.hasDict]
  | .list ds, h => by simp only [PyData.hasDict]; exact noDictL_has ds (by simpa only [noDict] using h)
  | .tuple ds, h => by simp only [PyData.hasDict]; exact noDictL_has ds (by simpa only [noDict] using h)
  | .dict _, n => by simp [noDict] at n
theorem noDictL_has : ∀ ds : List PyData, noDictL ds = true → PyData.hasDictAll ds = false
  | [], _ => by simp only [PyData.hasDictAll]
  | d :: ds, n => by
    have n' : noDict d = true ∧ noDictL ds = true := by simpa only [noDictL, Bool.and_eq_true] using n
    simp only [PyData.hasDictAll, noDict_has d n'.1, noDictL_has ds n'.2, Bool.or_self]
end
def reprOk (d : PyData) : Bool := d.showable && (noDict d && (decide (cost d ≤ sizeLine) && decide (d.depth ≤ 64)))
def rReprU (K : PySem.W.Frag) : List V → Hp → VK → Prop := fun xs H Q => ∃ x d, xs = [x] ∧ Dp K H x d ∧ reprOk d = true ∧ Q (.str d.shown) H
theorem call_reprU {X : Cx} (hg : X.A.guards = some []) (hu : X.A.units + 70 < cLine) : CallR X (.builtin "repr") (rReprU X.K) := by
  intro pins s σ H xs us Q I r h
  obtain ⟨x, d, rfl, dp, ok, q⟩ := h
  obtain ⟨u, rfl, rx⟩ := vals1 r
  simp only [reprOk, Bool.and_eq_true, decide_eq_true_eq] at ok
  obtain ⟨h1, h2, h3, h4⟩ := ok
  have hl := shown_le d h1 h2
  have go : ∀ a, x = .ref a → wpAny (model X.prog X.w) X.A (call (.builtin "repr") [u]) (EP X pins σ Q) X.xe s := fun a e => by
    obtain ⟨as, rd⟩ := Dp.reads I d x u dp rx
    subst e
    obtain rfl : u = Value.ref a := rx
    exact repr_of_reads' rd h1 (fun z => by rw [noDict_has d h2] at z; cases z) hg (by omega) (fun _ _ e => e) (fun h' u tk hk => ⟨.str _, H, I.kept hk, ⟨_, rfl⟩, q⟩) (Nat.le_trans hl h3)
  cases dp with
  | non => obtain rfl : u = Value.none := rx; exact P.repr_of_none ⟨.str _, H, I.tok _, ⟨_, rfl⟩, q⟩
  | bl b =>
    obtain rfl : u = Value.bool b := rx
    refine P.repr_of_bool ⟨.str _, H, I.tok _, ⟨_, rfl⟩, ?_⟩
    cases b <;> exact q
  | int i =>
    obtain ⟨t, rfl⟩ := rx
    exact P.repr_of_int (of_decide_eq_true h1) ⟨.str _, H, I.tok _, ⟨_, rfl⟩, q⟩
  | str y =>
    obtain ⟨t, rfl⟩ := rx
    exact P.repr_of_str ⟨.str _, H, I.tok _, ⟨_, rfl⟩, q⟩ (Nat.le_trans hl h3)
  | lst a b => exact go _ rfl
  | tup a b => exact go _ rfl
section
variable {K : PySem.W.Frag} {E : XK} {ρ ρ' ρ1 : Ro} {P H P' H' P1 H1 : Hp}
def reprD : List D → AH → R D
  | [d], h => (match toPy h d with
    | some p => if reprOk p = true then .ok (.str p.shown) h else .bad
    | none => .bad)
  | _, _ => .bad
theorem cb_repr : CbS K E (rReprU K) reprD := fun ρ P H h vs ds s w Q p => by
  unfold reprD at p
  split at p
  · obtain ⟨v, rfl, r⟩ := w.one
    split at p
    · rename_i d ed
      split at p
      · rename_i hk; exact ⟨v, d, rfl, dp_of s r ed, hk, Post.here p s (.str _)⟩
      · exact p.elim
    · exact p.elim
  · exact p.elim
/-! ### slices -/
def cutL {α : Type} (xs : List α) (lo hi : Option Int) : List α := (xs.drop (HT.sIx xs.length 0 lo)).take (HT.sIx xs.length xs.length hi - HT.sIx xs.length 0 lo)
theorem RepL.cutL {ds : List D} {vs : List V} (r : RepL K ρ P ds vs) (lo hi : Option Int) : RepL K ρ P (Ab.cutL ds lo hi) (cutV vs lo hi) := by
  unfold Ab.cutL cutV
  rw [r.length]
  exact (r.drop _).take _
def mNoPart : M (Option Int) := fun _ h => .ok none h
def mPart (m : M D) : M (Option Int) := fun env h => (m env h).bind fun d h1 => match d with
  | .int i => .ok (some i) h1
  | _ => .bad
theorem sd_noPart : Sd K (RQ (Option Int)) E tNoPart mNoPart := fun ρ P σ H env h s re Q p => Post.here p s rfl
theorem sd_part {t : TE} {m : M D} (ha : Sd K (RV K) E t m) : Sd K (RQ (Option Int)) E (tPart t) (mPart m) := fun ρ P σ H env h s re Q p =>
  ha ρ P σ H env h s re _ (Post.bind p fun a h1 ρ1 P1 H1 v t1 s1 w1 p1 => by
    cases w1 with
    | int i => exact ⟨i, rfl, Post.here p1 s1 rfl⟩
    | _ => exact p1.elim)
def mSlL (m : M D) (lo hi : M (Option Int)) : M (List D) := fun env h => (m env h).bind fun d h1 => (lo env h1).bind fun l h2 => (hi env h2).bind fun u h3 => match seqD d h3 with
  | some ds => .ok (cutL ds l u) h3
  | none => .bad
theorem sf_slL {te : TE} {tl th : TO} {m : M D} {lo hi : M (Option Int)} (ha : Sd K (RV K) E te m) (hl : Sd K (RQ (Option Int)) E tl lo) (hh : Sd K (RQ (Option Int)) E th hi) : SdF K E (tSl (rSlL K) te tl th) (mSlL m lo hi) := fun ρ P σ H env h s re Q p =>
  ha ρ P σ H env h s re _ (PostF.bind p fun a h1 ρ1 P1 H1 v t1 s1 w1 p1 => hl _ _ _ _ _ _ s1 (re.step t1) _ (PostF.bind p1 fun b h2 ρ2 P2 H2 u t2 s2 w2 p2 =>
    hh _ _ _ _ _ _ s2 ((re.step t1).step t2) _ (PostF.bind p2 fun c h3 ρ3 P3 H3 x t3 s3 w3 p3 => by
      cases w2; cases w3
      split at p3
      · rename_i ds e
        obtain ⟨q, us, rfl, sq, r⟩ := seqD_sq s3 ((w1.step t2).step t3) e
        exact ⟨q, us, rfl, sq, p3.newL s3 (r.cutL _ _)⟩
      · exact p3.elim)))
def mSlT (m : M D) (lo hi : M (Option Int)) : M D := fun env h => (m env h).bind fun d h1 => (lo env h1).bind fun l h2 => (hi env h2).bind fun u h3 => match d with
  | .tup ds => .ok (.tup (cutL ds l u)) h3
  | _ => .bad
theorem cutL_whole {α : Type} {xs : List α} {lo hi : Option Int} (h : HT.sIx xs.length 0 lo = 0 ∧ HT.sIx xs.length xs.length hi = xs.length) : cutL xs lo hi = xs := by
  unfold cutL
  rw [h.1, h.2]
  simp
theorem sd_slT {te : TE} {tl th : TO} {m : M D} {lo hi : M (Option Int)} (ha : Sd K (RV K) E te m) (hl : Sd K (RQ (Option Int)) E tl lo) (hh : Sd K (RQ (Option Int)) E th hi) : Sd K (RV K) E (tSl (rSlA K) te tl th) (mSlT m lo hi) := fun ρ P σ H env h s re Q p =>
  ha ρ P σ H env h s re _ (Post.bind p fun a h1 ρ1 P1 H1 v t1 s1 w1 p1 => hl _ _ _ _ _ _ s1 (re.step t1) _ (Post.bind p1 fun b h2 ρ2 P2 H2 u t2 s2 w2 p2 =>
    hh _ _ _ _ _ _ s2 ((re.step t1).step t2) _ (Post.bind p2 fun c h3 ρ3 P3 H3 x t3 s3 w3 p3 => by
      cases w2; cases w3
      have w4 := (w1.step t2).step t3
      cases w4 with
      | tup q r =>
        refine ⟨_, _, rfl, sqT_tk s3.sub q, fun e => ?_, fun _ => Post.newT p3 s3 (r.cutL _ _)⟩
        rw [r.length] at e
        have p3 : Post K (RV K) E ρ3 P3 H3 Q (.ok (.tup (cutL _ _ _)) h3) := p3
        rw [cutL_whole e] at p3
        exact Post.here p3 s3 (.tup q r)
      | _ => exact p3.elim)))
/-! ### xs[i] = v, xs.append(v) .. -/
def mgSub (mo mi : M D) : MG := fun d env h => (mo env h).bind fun o h1 => (mi env h1).bind fun i h2 => match o, i with
  | .loc n, .int k => (match h2[n]? with
    | some (.lst ds) => (match ixN ds.length k with
      | some j => .ok env (h2.set n (.lst (ds.set j d)))
      | none => .bad)
    | _ => .bad)
  | _, _ => .bad
theorem sg_sub {to ti : TE} {mo mi : M D} (ho : Sd K (RV K) E to mo) (hi : Sd K (RV K) E ti mi) : SdG K E (gSub to ti rSetL) (mgSub mo mi) := fun ρ P σ H env h d v s re w Q p =>
  ho ρ P σ H env h s re _ (Post.bind p fun a h1 ρ1 P1 H1 x t1 s1 w1 p1 => hi _ _ _ _ _ _ s1 (re.step t1) _ (Post.bind p1 fun b h2 ρ2 P2 H2 y t2 s2 w2 p2 => by
    have w1 := w1.step t2
    have re2 := (re.step t1).step t2
    cases w1 with
    | loc e =>
      cases w2 with
      | int k =>
        rename_i n q
        obtain ⟨o, eo, r⟩ := s2.here e
        cases o with
        | lst ds =>
          obtain ⟨us, ev, rv⟩ := r
          simp only [eo] at p2
          cases ej : ixN ds.length k with
          | none => simp only [ej] at p2; exact p2.elim
          | some j =>
            simp only [ej] at p2
            refine ⟨q, us, k, j, rfl, rfl, ev, by rw [rv.length]; exact ej, ?_⟩
            obtain ⟨s3, t3⟩ := s2.put (u := .lst (us.set j v)) (o := .lst (ds.set j d)) e ⟨_, upd_same, rv.set ((w.step t1).step t2) j⟩
            exact p2 _ _ _ _ t3 s3 (re2.step t3)
        | dct kvs => simp only [eo] at p2; exact p2.elim
      | _ => exact p2.elim
    | _ => exact p2.elim))
def mMeth (f : D → List D → AH → R D) (mo : M D) (ma : M (List D)) : M D := fun env h => (mo env h).bind fun o h1 => (ma env h1).bind fun ds h2 => f o ds h2
def MtS (K : PySem.W.Frag) (E : XK) (T : String) (r : V → List V → Hp → VK → Prop) (ok : D → AH → Bool) (f : D → List D → AH → R D) : Prop :=
  (∀ ρ P H h x d, SR K ρ P H h → Rep K ρ P d x → ok d h = true → tyV K T x H) ∧
  ∀ ρ P H h x vs d ds, SR K ρ P H h → Rep K ρ P d x → RepL K ρ P ds vs → ∀ Q, Post K (RV K) E ρ P H Q (f d ds h) → r x vs H Q
def mMethT (ok : D → AH → Bool) (f : D → List D → AH → R D) (mo : M D) (ma : M (List D)) : M D := fun env h => (mo env h).bind fun o h1 => if ok o h1 = true then (ma env h1).bind fun ds h2 => f o ds h2 else .bad
theorem sd_meth {T : String} {r : V → List V → Hp → VK → Prop} {ok : D → AH → Bool} {f : D → List D → AH → R D} {to : TE} {ta : TA} {mo : M D} {ma : M (List D)} (hm : MtS K E T r ok f) (ho : Sd K (RV K) E to mo) (ha : Sd K (RVs K) E ta ma) :
    Sd K (RV K) E (tBM K T r to ta) (mMethT ok f mo ma) := fun ρ P σ H env h s re Q p =>
  ho ρ P σ H env h s re _ (Post.bind p fun a h1 ρ1 P1 H1 x t1 s1 w1 p1 => by
    split at p1
    · rename_i hk
      exact ⟨hm.1 _ _ _ _ _ _ s1 w1 hk, ha _ _ _ _ _ _ s1 (re.step t1) _ (Post.bind p1 fun b h2 ρ2 P2 H2 y t2 s2 w2 p2 => hm.2 _ _ _ _ _ _ _ _ s2 (w1.step t2) w2 Q p2)⟩
    · exact p1.elim)
def mMethT0 (ok : D → AH → Bool) (f : D → List D → AH → R D) (mo : M D) : M D := fun env h => (mo env h).bind fun o h1 => if ok o h1 = true then f o [] h1 else .bad
theorem sd_meth0 {T : String} {r : V → List V → Hp → VK → Prop} {ok : D → AH → Bool} {f : D → List D → AH → R D} {to : TE} {mo : M D} (hm : MtS K E T r ok f) (ho : Sd K (RV K) E to mo) :
    Sd K (RV K) E (tBM0 K T r to) (mMethT0 ok f mo) := fun ρ P σ H env h s re Q p =>
  ho ρ P σ H env h s re _ (Post.bind p fun a h1 ρ1 P1 H1 x t1 s1 w1 p1 => by
    split at p1
    · rename_i hk
      exact ⟨hm.1 _ _ _ _ _ _ s1 w1 hk, hm.2 _ _ _ _ _ _ _ _ s1 w1 .nil Q p1⟩
    · exact p1.elim)
def isLoc (d : D) (h : AH) : Bool := match d with
  | .loc n => (match h[n]? with
    | some (.lst _) => true
    | _ => false)
  | _ => false
theorem isLoc_ty : ∀ ρ P H h x d, SR K ρ P H h → Rep K ρ P d x → isLoc d h = true → tyV K "list" x H := fun ρ P H h x d s w e => by
  cases w with
  | loc e1 =>
    obtain ⟨o, eo, r⟩ := s.here e1
    cases o with
    | lst ds => obtain ⟨us, ev, _⟩ := r; exact .inl ⟨rfl, _, .of ev⟩
    | dct kvs => simp [isLoc, eo] at e
  | _ => cases e
def appendD : D → List D → AH → R D
  | .loc n, [d], h => (match h[n]? with
    | some (.lst ds) => if ds.length < sizeLine then .ok .non (h.set n (.lst (ds ++ [d]))) else .bad
    | _ => .bad)
  | _, _, _ => .bad
theorem mt_appendU : MtS K E "list" rAppend isLoc appendD := by
  refine ⟨isLoc_ty, fun ρ P H h x vs d ds s w ws Q p => ?_⟩
  unfold appendD at p
  split at p
  · obtain ⟨v, rfl, r⟩ := ws.one
    cases w with
    | loc e =>
      obtain ⟨o, eo, q⟩ := s.here e
      cases o with
      | lst es =>
        obtain ⟨us, ev, rv⟩ := q
        simp only [eo] at p
        split at p
        · rename_i hl
          obtain ⟨s3, t3⟩ := s.put (u := .lst (us ++ [v])) (o := .lst (es ++ [_])) e ⟨_, upd_same, rv.append (.cons r .nil)⟩
          exact ⟨_, us, v, rfl, rfl, ev, by rw [rv.length]; exact hl, p _ _ _ _ t3 s3 .non⟩
        · exact p.elim
      | dct kvs => simp only [eo] at p; exact p.elim
  · exact p.elim
def popD : D → List D → AH → R D
  | .loc n, [], h => (match h[n]? with
    | some (.lst ds) => (match ds[ds.length - 1]? with
      | some d => .ok d (h.set n (.lst ds.dropLast))
      | none => .bad)
    | _ => .bad)
  | _, _, _ => .bad
theorem RepL.dropLast {ds : List D} {vs : List V} (r : RepL K ρ P ds vs) : RepL K ρ P ds.dropLast vs.dropLast := by
  rw [List.dropLast_eq_take, List.dropLast_eq_take, r.length]
  exact r.take _
theorem mt_popU : MtS K E "list" rPop isLoc popD := by
  refine ⟨isLoc_ty, fun ρ P H h x vs d ds s w ws Q p => ?_⟩
  unfold popD at p
  split at p
  · cases ws
    cases w with
    | loc e =>
      obtain ⟨o, eo, q⟩ := s.here e
      cases o with
      | lst es =>
        obtain ⟨us, ev, rv⟩ := q
        simp only [eo] at p
        cases q2 : es[es.length - 1]? with
        | none => simp only [q2] at p; exact p.elim
        | some d =>
          simp only [q2] at p
          obtain ⟨v, ev2, rd⟩ := rv.get q2
          obtain ⟨s3, t3⟩ := s.put (u := .lst us.dropLast) (o := .lst es.dropLast) e ⟨_, upd_same, rv.dropLast⟩
          exact ⟨_, us, v, rfl, rfl, ev, by rw [rv.length]; exact ev2, p _ _ _ _ t3 s3 rd⟩
      | dct kvs => simp only [eo] at p; exact p.elim
  · exact p.elim
def popAtD : D → List D → AH → R D
  | .loc n, [.int i], h => if -(2 ^ 63) ≤ i ∧ i < 2 ^ 63 then (match h[n]? with
    | some (.lst ds) => (match seqIndex? i ds.length with
      | some k => (match ds[k]? with
        | some d => .ok d (h.set n (.lst (ds.eraseIdx k)))
        | none => .bad)
      | none => .bad)
    | _ => .bad) else .bad
  | _, _, _ => .bad
theorem mt_popAtU : MtS K E "list" rPopAt isLoc popAtD := by
  refine ⟨isLoc_ty, fun ρ P H h x vs d ds s w ws Q p => ?_⟩
  unfold popAtD at p
  split at p
  · obtain ⟨v, rfl, r⟩ := ws.one
    cases r
    cases w with
    | loc e =>
      split at p
      · rename_i hb
        obtain ⟨o, eo, q⟩ := s.here e
        cases o with
        | lst es =>
          obtain ⟨us, ev, rv⟩ := q
          simp only [eo] at p
          split at p
          · rename_i k q1
            split at p
            · rename_i d q2
              obtain ⟨v, ev2, rd⟩ := rv.get q2
              obtain ⟨s3, t3⟩ := s.put (u := .lst (us.eraseIdx k)) (o := .lst (es.eraseIdx k)) e ⟨_, upd_same, rv.eraseIdx k⟩
              exact ⟨_, us, _, k, v, rfl, rfl, ev, hb.1, hb.2, by rw [rv.length]; exact q1, ev2, p _ _ _ _ t3 s3 rd⟩
            · exact p.elim
          · exact p.elim
        | dct kvs => simp only [eo] at p; exact p.elim
      · exact p.elim
  · exact p.elim
end
end Ab

namespace Ab
open PySem PySem.Spec L2
/-! ### the text, its reading, its computation -/
structure JE (K : PySem.W.Frag) (E : XK) (X : Cx) (e : Expr) (t : TE) (m : M D) : Prop where
  k : X.K = K
  p : PE X e t
  s : Sd K (RV K) E t m
structure JF (K : PySem.W.Frag) (E : XK) (X : Cx) (e : Expr) (t : TE) (m : M (List D)) : Prop where
  k : X.K = K
  p : PE X e t
  s : SdF K E t m
structure JT (K : PySem.W.Frag) (E : XK) (X : Cx) (e : Expr) (t : TT) (m : M Bool) : Prop where
  k : X.K = K
  p : PT X e t
  s : Sd K (RQ Bool) E t m
structure JTs (K : PySem.W.Frag) (E : XK) (X : Cx) (e : List Expr) (t : TT) (m : M Bool) : Prop where
  k : X.K = K
  p : PTs X e t
  s : Sd K (RQ Bool) E t m
structure JW (K : PySem.W.Frag) (E : XK) (X : Cx) (e : Expr) (t : TT) (m : M Bool) : Prop where
  k : X.K = K
  p : PW X e t
  s : Sd K (RQ Bool) E t m
structure JA (K : PySem.W.Frag) (E : XK) (X : Cx) (e : List Expr) (t : TA) (m : M (List D)) : Prop where
  k : X.K = K
  p : PA X e t
  s : Sd K (RVs K) E t m
structure JK (K : PySem.W.Frag) (E : XK) (X : Cx) (e : List Keyword) (t : TA) (m : M (List D)) : Prop where
  k : X.K = K
  p : PK X e t
  s : Sd K (RVs K) E t m
structure JO (K : PySem.W.Frag) (E : XK) (X : Cx) (e : Option Expr) (t : TO) (m : M (Option Int)) : Prop where
  k : X.K = K
  p : PO X e t
  s : Sd K (RQ (Option Int)) E t m
structure JI (K : PySem.W.Frag) (E : XK) (X : Cx) (tg e : Expr) (t : TI) (m : MI) : Prop where
  k : X.K = K
  p : PI X tg e t
  s : SdI K E t m
structure JG (K : PySem.W.Frag) (E : XK) (X : Cx) (e : Expr) (t : TG) (m : MG) : Prop where
  k : X.K = K
  p : PG X e t
  s : SdG K E t m
structure JGs (K : PySem.W.Frag) (E : XK) (X : Cx) (e : List Expr) (t : TGs) (m : List D → En → AH → R En) : Prop where
  k : X.K = K
  p : PGs X e t
  s : SdGs K E t m
structure JS (K : PySem.W.Frag) (E : XK) (X : Cx) (e : Stmt) (t : TS) (m : MS) : Prop where
  k : X.K = K
  p : PS X e t
  s : SdS K E t m
structure JSs (K : PySem.W.Frag) (E : XK) (X : Cx) (e : List Stmt) (t : TS) (m : MS) : Prop where
  k : X.K = K
  p : PSs X e t
  s : SdS K E t m
theorem JSs.b {K : PySem.W.Frag} {E : XK} {X : Cx} {e : List Stmt} {t : TS} {m : MS} (h : JSs K E X e t m) : JB X E e m := ⟨t, h.p, by rw [h.k]; exact h.s⟩
section
variable {K : PySem.W.Frag} {E : XK} {X : Cx} {e a b c : Expr} {es : List Expr} {ta tb tc : TE} {t : TA} {ma mb mc : M D} {m : M (List D)} {pos pos' : Pos}
/-! names, constants -/
theorem je_v (i : Nat) {x : Str} (hK : X.K = K := by rfl) (hN : X.N[i]? = some x := by rfl) (hv : Vis X.env.scope x := by first | exact Or.inl rfl | exact Or.inr (Or.inl rfl) | exact Or.inr (Or.inr rfl)) (hd : (x == ("__debug__" : Str)) = false := by decide)
    (hcd : (x == ("__classdict__" : Str)) = false := by decide) : JE K E X (.Name x pos) (tVar i) (mVar i) := ⟨hK, pe_var hN hv hd hcd, sd_var⟩
theorem je_int {i : Int} {j} (hK : X.K = K := by rfl) : JE K E X (.Constant (.int i) j pos) (tC (.int i)) (mC (.int i)) := ⟨hK, pe_int, sd_c fun _ _ => .int _⟩
theorem je_bl {i : Bool} {j} (hK : X.K = K := by rfl) : JE K E X (.Constant (.bool i) j pos) (tC (.bl i)) (mC (.bl i)) := ⟨hK, pe_bl, sd_c fun _ _ => .bl _⟩
theorem je_str {i : Str} {j} (hK : X.K = K := by rfl) : JE K E X (.Constant (.str i) j pos) (tC (.str i)) (mC (.str i)) := ⟨hK, pe_str, sd_c fun _ _ => .str _⟩
theorem je_non {j} (hK : X.K = K := by rfl) : JE K E X (.Constant .none j pos) (tC .non) (mC .non) := ⟨hK, pe_non, sd_c fun _ _ => .non⟩
/-- a module's int, text -/
theorem je_gint {x : Str} {i : Int} (hm : ∃ t, X.mg x = some (.int i t)) (hg : Gl X x := by rfl) (hd : (x == ("__debug__" : Str)) = false := by decide) (hK : X.K = K := by rfl) : JE K E X (.Name x pos) (tC (.int i)) (mC (.int i)) := by
  obtain ⟨t, hm⟩ := hm
  exact ⟨hK, pe_glob hg hm ⟨t, rfl⟩ hd, sd_c fun _ _ => .int _⟩
theorem je_gstr {x : Str} {i : Str} (hm : ∃ t, X.mg x = some (.str i t)) (hg : Gl X x := by rfl) (hd : (x == ("__debug__" : Str)) = false := by decide) (hK : X.K = K := by rfl) : JE K E X (.Name x pos) (tC (.str i)) (mC (.str i)) := by
  obtain ⟨t, hm⟩ := hm
  exact ⟨hK, pe_glob hg hm ⟨t, rfl⟩ hd, sd_c fun _ _ => .str _⟩
/-- a built-in type as a value -/
theorem je_ty {x : Str} {n : String} (hm : X.mg x = none) (hv : bootBuiltins x = some (.type n) := by decide +kernel) (hg : Gl X x := by rfl) (hn : x ≠ "__name__" := by decide) (hd : (x == ("__debug__" : Str)) = false := by decide) (hK : X.K = K := by rfl) :
    JE K E X (.Name x pos) (tC (.ty n)) (mC (.ty n)) := ⟨hK, pe_bltn hg hm hv rfl hn hd, sd_c fun _ _ => .ty _⟩
/-! operators -/
theorem je_bin {op : Operator} {r : R2} {f : D → D → AH → R D} (ho : OpR X (binaryOp op) r) (hs : OpS K E r f) (ha : JE K E X a ta ma) (hb : JE K E X b tb mb) : JE K E X (.BinOp a op b pos) (tOp r ta tb) (mBin f ma mb) := ⟨ha.k, pe_op ho ha.p hb.p, sd_op ha.s hb.s hs⟩
theorem je_add (ha : JE K E X a ta ma) (hb : JE K E X b tb mb) : JE K E X (.BinOp a .Add b pos) (tOp (rAddU K) ta tb) (mBin addD ma mb) := je_bin (by have := ha.k; subst this; exact op_addU) os_add ha hb
theorem je_sub (ha : JE K E X a ta ma) (hb : JE K E X b tb mb) : JE K E X (.BinOp a .Sub b pos) (tOp (rI0 fun i j => .int (i - j)) ta tb) (mBin subD ma mb) := je_bin op_sub os_sub ha hb
theorem je_mul (ha : JE K E X a ta ma) (hb : JE K E X b tb mb) : JE K E X (.BinOp a .Mult b pos) (tOp (rMulU K) ta tb) (mBin mulD ma mb) := je_bin (by have := ha.k; subst this; exact op_mulU) os_mul ha hb
theorem je_div (ha : JE K E X a ta ma) (hb : JE K E X b tb mb) : JE K E X (.BinOp a .FloorDiv b pos) (tOp rDivU ta tb) (mBin divD ma mb) := je_bin op_divU os_div ha hb
theorem je_mod (ha : JE K E X a ta ma) (hb : JE K E X b tb mb) : JE K E X (.BinOp a .Mod b pos) (tOp (rI (fun _ j => 0 < j) fun i j => .int (i % j)) ta tb) (mBin modD ma mb) := je_bin op_mod os_mod ha hb
theorem je_pow (ha : JE K E X a ta ma) (hb : JE K E X b tb mb) : JE K E X (.BinOp a .Pow b pos) (tOp (rI CPow fun i j => .int (i ^ j.toNat)) ta tb) (mBin powD ma mb) := je_bin op_pow os_pow ha hb
theorem je_neg (ha : JE K E X a ta ma) : JE K E X (.UnaryOp .USub a pos) (tUn (rU fun i => .int (-i)) ta) (mUn negD ma) := ⟨ha.k, pe_un un_neg ha.p, sd_un ha.s us_neg⟩
/-- lists -/
theorem jf_cat (ha : JE K E X a ta ma) (hb : JE K E X b tb mb) : JF K E X (.BinOp a .Add b pos) (tOp rCat ta tb) (mBinF catD ma mb) := ⟨ha.k, pe_op op_cat ha.p hb.p, sf_cat ha.s hb.s⟩
theorem jf_rep (ha : JE K E X a ta ma) (hb : JE K E X b tb mb) : JF K E X (.BinOp a .Mult b pos) (tOp rRep ta tb) (mBinF repD ma mb) := ⟨ha.k, pe_op op_rep ha.p hb.p, sf_rep ha.s hb.s⟩
/-! comparisons -/
/-- what a comparison does -/
structure JC (K : PySem.W.Frag) (E : XK) (X : Cx) (op : CmpOp) (r : R2) (f : D → D → AH → R D) : Prop where
  o : OpR X (compareOp op) r
  s : OpS K E r f
theorem jc_lt : JC K E X .Lt (rI0 fun i j => .bl (decide (i < j))) (cmpD fun i j => decide (i < j)) := ⟨op_lt, os_cmp⟩
theorem jc_le : JC K E X .LtE (rI0 fun i j => .bl (decide (i ≤ j))) (cmpD fun i j => decide (i ≤ j)) := ⟨op_le, os_cmp⟩
theorem jc_gt : JC K E X .Gt (rI0 fun i j => .bl (decide (j < i))) (cmpD fun i j => decide (j < i)) := ⟨op_gt, os_cmp⟩
theorem jc_ge : JC K E X .GtE (rI0 fun i j => .bl (decide (j ≤ i))) (cmpD fun i j => decide (j ≤ i)) := ⟨op_ge, os_cmp⟩
theorem jc_eq {k : Nat} (hr : Room k X.A) (hK : X.K = K := by rfl) : JC K E X .Eq (rEqU K) eqD := by subst hK; exact ⟨op_eqU hr.units, os_eq⟩
theorem jc_ne {k : Nat} (hr : Room k X.A) (hK : X.K = K := by rfl) : JC K E X .NotEq (rNeU K) neD := by subst hK; exact ⟨op_neU hr.units, os_ne⟩
theorem jc_in {k : Nat} (hr : Room k X.A) (hK : X.K = K := by rfl) : JC K E X .In (rInG K false) (inD false) := by
  subst hK
  exact ⟨op_inG (by have := hr.un; omega), os_in⟩
theorem jc_notIn {k : Nat} (hr : Room k X.A) (hK : X.K = K := by rfl) : JC K E X .NotIn (rInG K true) (inD true) := by
  subst hK
  exact ⟨op_notInG (by have := hr.un; omega), os_in⟩
theorem jc_isN : JC K E X .Is (fun x y H Q => y = .non ∧ Q (.bl (decide (x = .non))) H) (isND false) := ⟨op_isN, os_isN⟩
theorem jc_notN : JC K E X .IsNot (fun x y H Q => y = .non ∧ Q (.bl (!decide (x = .non))) H) (isND true) := ⟨op_notN, os_notN⟩
theorem je_cmp {op : CmpOp} {r : R2} {f : D → D → AH → R D} (hc : JC K E X op r f) (ha : JE K E X a ta ma) (hb : JE K E X b tb mb) (hm : behindInMarks op b = false := by first | exact nomark _ | rfl) : JE K E X (.Compare a [op] [b] pos) (tOp r ta tb) (mBin f ma mb) :=
  ⟨ha.k, pe_cmpR hc.o ha.p hb.p hm, sd_op ha.s hb.s hc.s⟩
theorem jt_cmp {op : CmpOp} {r : R2} {f : D → D → AH → R D} (hc : JC K E X op r f) (ha : JE K E X a ta ma) (hb : JE K E X b tb mb) (hm : behindInMarks op b = false := by first | exact nomark _ | rfl) : JT K E X (.Compare a [op] [b] pos) (tTest (tOp r ta tb)) (mBl (mBin f ma mb)) :=
  ⟨ha.k, pt_cmpR hc.o ha.p hb.p hm, sd_test (sd_op ha.s hb.s hc.s)⟩
def mChain (f g : D → D → AH → R D) (ma mb mc : M D) : M D := fun env h => (ma env h).bind fun a h1 => (mb env h1).bind fun b h2 => (f a b h2).bind fun k h3 => match k with
  | .bl true => (mc env h3).bind fun c h4 => g b c h4
  | .bl false => .ok (.bl false) h3
  | _ => .bad
theorem sd_chain {r r' : R2} {f g : D → D → AH → R D} (hf : OpS K E r f) (hg : OpS K E r' g) (ha : Sd K (RV K) E ta ma) (hb : Sd K (RV K) E tb mb) (hc : Sd K (RV K) E tc mc) : Sd K (RV K) E (tChain r r' ta tb tc) (mChain f g ma mb mc) := fun ρ P σ H env h s re Q p =>
  ha ρ P σ H env h s re _ (Post.bind p fun a h1 ρ1 P1 H1 v t1 s1 w1 p1 => hb _ _ _ _ _ _ s1 (re.step t1) _ (Post.bind p1 fun b h2 ρ2 P2 H2 u t2 s2 w2 p2 =>
    hf _ _ _ _ _ _ _ _ s2 (w1.step t2) w2 _ (Post.bind p2 fun k h3 ρ3 P3 H3 x t3 s3 w3 p3 => by
      cases w3 with
      | bl k =>
        refine ⟨k, rfl, ?_⟩
        cases k with
        | true => exact hc _ _ _ _ _ _ s3 (((re.step t1).step t2).step t3) _ (Post.bind p3 fun c h4 ρ4 P4 H4 y t4 s4 w4 p4 => hg _ _ _ _ _ _ _ _ s4 ((w2.step t3).step t4) w4 Q p4)
        | false => exact Post.here p3 s3 (.bl _)
      | _ => exact p3.elim)))
theorem je_chain {op op' : CmpOp} {r r' : R2} {f g : D → D → AH → R D} (h1 : JC K E X op r f) (h2 : JC K E X op' r' g) (ha : JE K E X a ta ma) (hb : JE K E X b tb mb) (hc : JE K E X c tc mc) (hm : lastMarks [op, op'] [b, c] = false := by with_unfolding_all rfl) :
    JE K E X (.Compare a [op, op'] [b, c] pos) (tChain r r' ta tb tc) (mChain f g ma mb mc) := ⟨ha.k, pe_chain h1.o h2.o ha.p hb.p hc.p hm, sd_chain h1.s h2.s ha.s hb.s hc.s⟩
theorem jt_chain {op op' : CmpOp} {r r' : R2} {f g : D → D → AH → R D} (h1 : JC K E X op r f) (h2 : JC K E X op' r' g) (ha : JE K E X a ta ma) (hb : JE K E X b tb mb) (hc : JE K E X c tc mc) (hm : lastMarks [op, op'] [b, c] = false := by with_unfolding_all rfl) :
    JT K E X (.Compare a [op, op'] [b, c] pos) (tTest (tChain r r' ta tb tc)) (mBl (mChain f g ma mb mc)) := ⟨ha.k, pt_chain h1.o h2.o ha.p hb.p hc.p hm, sd_test (sd_chain h1.s h2.s ha.s hb.s hc.s)⟩
/-! truth -/
def tTruU (K : PySem.W.Frag) (ta : TE) : TT := fun σ H Q => ta σ H fun x H' => ∃ k, TruV K x H' k ∧ Q k H'
theorem jt_tru (ha : JE K E X a ta ma) (he : ∀ whole, isTrue a X.env whole = (do let v ← whole; standAt a.pos; holding [v] (truthy v)) := by intro _; rfl) : JT K E X a (tTruU K ta) (mTru ma) := by
  obtain ⟨hK, hp, hs⟩ := ha
  subst hK
  exact ⟨rfl, pt_truth hp he, sd_tru hs⟩
variable {tt tu : TT} {mt mu : M Bool} {rest : List Expr}
theorem jt_not (ha : JT K E X a tt mt) : JT K E X (.UnaryOp .Not a pos) (tNot tt) (mNotT mt) := ⟨ha.k, pt_not ha.p, sd_notT ha.s⟩
theorem jw_and1 (ha : JT K E X a tt mt) : JW K E X (.BoolOp .And [a] pos) tt mt := ⟨ha.k, pw_and1 ha.p, ha.s⟩
theorem jw_or1 (ha : JT K E X a tt mt) : JW K E X (.BoolOp .Or [a] pos) tt mt := ⟨ha.k, pw_or1 ha.p, ha.s⟩
theorem jw_and (ha : JT K E X a tt mt) (hb : JW K E X (.BoolOp .And (b :: rest) pos) tu mu) : JW K E X (.BoolOp .And (a :: b :: rest) pos) (tAnd tt tu) (mAndT mt mu) := ⟨ha.k, pw_and ha.p hb.p, sd_andT ha.s hb.s⟩
theorem jw_or (ha : JT K E X a tt mt) (hb : JW K E X (.BoolOp .Or (b :: rest) pos) tu mu) : JW K E X (.BoolOp .Or (a :: b :: rest) pos) (tOr tt tu) (mOrT mt mu) := ⟨ha.k, pw_or ha.p hb.p, sd_orT ha.s hb.s⟩
theorem JW.jt (h : JW K E X a tt mt) : JT K E X a tt mt := ⟨h.k, h.p.pt, h.s⟩
theorem je_not (ha : JE K E X a ta ma) : JE K E X (.UnaryOp .Not a pos) (tNotT K ta) (mNot ma) := by
  obtain ⟨hK, hp, hs⟩ := ha
  subst hK
  exact ⟨rfl, pe_notT hp, sd_not hs⟩
theorem je_one {op} (ha : JE K E X a ta ma) : JE K E X (.BoolOp op [a] pos) ta ma := ⟨ha.k, pe_one ha.p, ha.s⟩
theorem je_and (ha : JE K E X a ta ma) (hb : JE K E X (.BoolOp .And (b :: rest) pos) tb mb) : JE K E X (.BoolOp .And (a :: b :: rest) pos) (tAndT K ta tb) (mAnd ma mb) := by
  obtain ⟨hK, hp, hs⟩ := ha
  subst hK
  exact ⟨rfl, pe_andT hp hb.p, sd_and hs hb.s⟩
theorem je_or (ha : JE K E X a ta ma) (hb : JE K E X (.BoolOp .Or (b :: rest) pos) tb mb) : JE K E X (.BoolOp .Or (a :: b :: rest) pos) (tOrT K ta tb) (mOr ma mb) := by
  obtain ⟨hK, hp, hs⟩ := ha
  subst hK
  exact ⟨rfl, pe_orT hp hb.p, sd_or hs hb.s⟩
theorem je_if (hc : JT K E X c tt mt) (ha : JE K E X a ta ma) (hb : JE K E X b tb mb) : JE K E X (.IfExp c a b pos) (tIf tt ta tb) (mIf mt ma mb) := ⟨ha.k, pe_ifExp hc.p ha.p hb.p, sd_if hc.s ha.s hb.s⟩
/-! arguments, displays -/
theorem ja_nil (hK : X.K = K := by rfl) : JA K E X [] tNil mNil := ⟨hK, pa_nil, sd_nil⟩
theorem ja_cons (ha : JE K E X e ta ma) (hr : JA K E X es t m) (hs : starEach (e :: es) X.env = (false, eval e X.env) :: starEach es X.env := by rfl) : JA K E X (e :: es) (tCons ta t) (mCons ma m) := ⟨ha.k, pa_cons ha.p hr.p hs, sd_cons ha.s hr.s⟩
theorem je_tup {x1} (h : JA K E X es t m) : JE K E X (.Tuple es x1 pos) (tTup t) (mTup m) := ⟨h.k, pe_tup h.p, sd_tup h.s⟩
theorem jf_lst (h : JA K E X es t m) : JF K E X (.List es pos) (tLst t) (mLst m) := ⟨h.k, pe_lst h.p, sf_lst h.s⟩
theorem JF.f {mf : M (List D)} (h : JF K E X e ta mf) : JE K E X e ta (mFrz mf) := ⟨h.k, h.p, sd_frz h.s⟩
theorem JF.o {mf : M (List D)} (h : JF K E X e ta mf) : JE K E X e ta (mOwn mf) := ⟨h.k, h.p, sd_own h.s⟩
/-! subscripts -/
theorem je_ix (ha : JE K E X a ta ma) (hb : JE K E X b tb mb) (hs : PlainIx b := by exact fun _ _ => rfl) : JE K E X (.Subscript a b pos) (tOp (rIx K) ta tb) (mBin ixD ma mb) := by
  obtain ⟨hK, hp, hq⟩ := ha
  subst hK
  exact ⟨rfl, pe_ix ix_seq hp hb.p hs, sd_op hq hb.s os_ix⟩
variable {lo hi : Option Expr} {tl th : TO} {ml mh : M (Option Int)} {p2 : Pos}
theorem jo_none (hK : X.K = K := by rfl) : JO K E X none tNoPart mNoPart := ⟨hK, po_none, sd_noPart⟩
theorem jo_some (ha : JE K E X a ta ma) : JO K E X (some a) (tPart ta) (mPart ma) := ⟨ha.k, po_some ha.p, sd_part ha.s⟩
theorem jf_sl (ha : JE K E X a ta ma) (hl : JO K E X lo tl ml) (hh : JO K E X hi th mh) : JF K E X (.Subscript a (.Slice lo hi none p2) pos) (tSl (rSlL K) ta tl th) (mSlL ma ml mh) := by
  obtain ⟨hK, hp, hq⟩ := ha
  subst hK
  exact ⟨rfl, pe_slice sl_list hp hl.p hh.p, sf_slL hq hl.s hh.s⟩
theorem je_slT (ha : JE K E X a ta ma) (hl : JO K E X lo tl ml) (hh : JO K E X hi th mh) : JE K E X (.Subscript a (.Slice lo hi none p2) pos) (tSl (rSlA K) ta tl th) (mSlT ma ml mh) := by
  obtain ⟨hK, hp, hq⟩ := ha
  subst hK
  exact ⟨rfl, pe_slice sl_tupA hp hl.p hh.p, sd_slT hq hl.s hh.s⟩
/-! built-ins -/
variable {x : Str} {pn : Pos}
theorem je_bf {id : String} {r : List V → Hp → VK → Prop} {f : List D → AH → R D} (hr : CallR X (.builtin id) r) (hs : CbS K E r f) (hm : X.mg x = none) (ha : JA K E X (e :: es) t m) (hv : bootBuiltins x = some (.builtin id) := by decide +kernel) (hg : Gl X x := by rfl)
    (hn : x ≠ "__name__" := by decide) (hd : (x == ("__debug__" : Str)) = false := by decide) (he : starEach (e :: es) X.env = (false, eval e X.env) :: starEach es X.env := by rfl) (hpl : (backTo pos (starEach es X.env)).any (·.1) = false := by rfl) :
    JE K E X (.Call (.Name x pn) (e :: es) [] pos) (tCB r t) (mCB f m) := ⟨ha.k, pe_callB hr hg hm hv ha.p hn hd he hpl, sd_cb hs ha.s⟩
theorem je_bt {id : String} {r : List V → Hp → VK → Prop} {f : List D → AH → R D} (hr : CallR X (.type id) r) (hs : CbS K E r f) (hm : X.mg x = none) (ha : JA K E X (e :: es) t m) (hv : bootBuiltins x = some (.type id) := by decide +kernel) (hg : Gl X x := by rfl)
    (hn : x ≠ "__name__" := by decide) (hd : (x == ("__debug__" : Str)) = false := by decide) (he : starEach (e :: es) X.env = (false, eval e X.env) :: starEach es X.env := by rfl) (hpl : (backTo pos (starEach es X.env)).any (·.1) = false := by rfl) :
    JE K E X (.Call (.Name x pn) (e :: es) [] pos) (tCB r t) (mCB f m) := ⟨ha.k, pe_callTy hr hg hm hv ha.p hn hd he hpl, sd_cb hs ha.s⟩
theorem jf_bt {id : String} {r : List V → Hp → VK → Prop} {f : List D → AH → R (List D)} (hr : CallR X (.type id) r) (hs : CbF K E r f) (hm : X.mg x = none) (ha : JA K E X (e :: es) t m) (hv : bootBuiltins x = some (.type id) := by decide +kernel) (hg : Gl X x := by rfl)
    (hn : x ≠ "__name__" := by decide) (hd : (x == ("__debug__" : Str)) = false := by decide) (he : starEach (e :: es) X.env = (false, eval e X.env) :: starEach es X.env := by rfl) (hpl : (backTo pos (starEach es X.env)).any (·.1) = false := by rfl) :
    JF K E X (.Call (.Name x pn) (e :: es) [] pos) (tCB r t) (mCBF f m) := ⟨ha.k, pe_callTy hr hg hm hv ha.p hn hd he hpl, sf_cb hs ha.s⟩
/-- what a built-in function does -/
structure JBf (K : PySem.W.Frag) (E : XK) (X : Cx) (v : Value) (r : List V → Hp → VK → Prop) (f : List D → AH → R D) : Prop where
  o : CallR X v r
  s : CbS K E r f
structure JBl (K : PySem.W.Frag) (E : XK) (X : Cx) (v : Value) (r : List V → Hp → VK → Prop) (f : List D → AH → R (List D)) : Prop where
  o : CallR X v r
  s : CbF K E r f
theorem jb_len (hK : X.K = K := by rfl) : JBf K E X (.builtin "len") (fun xs H Q => ∃ x n, xs = [x] ∧ LenV K x H n ∧ Q (.int n) H) lenD := by subst hK; exact ⟨call_len, cb_len⟩
theorem jb_abs : JBf K E X (.builtin "abs") (fun xs H Q => ∃ i, xs = [.int i] ∧ Q (.int (if i < 0 then -i else i)) H) absD := ⟨call_abs, cb_abs⟩
theorem jb_max2 (hc : X.calm = true := by rfl) : JBf K E X (.builtin "max") (fun xs H Q => ∃ i j, xs = [.int i, .int j] ∧ Q (.int (if j > i then j else i)) H) max2D := ⟨call_max2 hc, cb_max2⟩
theorem jb_min2 (hc : X.calm = true := by rfl) : JBf K E X (.builtin "min") (fun xs H Q => ∃ i j, xs = [.int i, .int j] ∧ Q (.int (if j < i then j else i)) H) min2D := ⟨call_min2 hc, cb_min2⟩
theorem jb_int : JBf K E X (.type "int") (fun xs H Q => (∃ i, xs = [.int i] ∧ Q (.int i) H) ∨ ∃ k, xs = [.bl k] ∧ Q (.int (if k then 1 else 0)) H) intD := ⟨call_int1, cb_int⟩
theorem jb_str : JBf K E X (.type "str") (fun xs H Q => ∃ i, xs = [.int i] ∧ i.natAbs.log2 < 1920 ∧ Q (.str (toString i)) H) strD := ⟨call_str_int, cb_str⟩
theorem jb_divmod : JBf K E X (.builtin "divmod") (fun xs H Q => ∃ i j, xs = [.int i, .int j] ∧ CDiv i j ∧ ∀ p, H p = none → Q (.ref p) (upd H p (.tup [.int (i / j), .int (i % j)]))) divmodD := ⟨call_divmod, cb_divmod⟩
theorem jb_list (hK : X.K = K := by rfl) : JBl K E X (.type "list") (fun xs H Q => ∃ p ys, xs = [.ref p] ∧ (SqL K H p ys ∨ SqT K H p ys) ∧ ∀ l, H l = none → Q (.ref l) (upd H l (.lst ys))) listD := by subst hK; exact ⟨call_list_of, cb_list⟩
theorem jb_tuple (hK : X.K = K := by rfl) : JBf K E X (.type "tuple") (fun xs H Q => ∃ p ys, xs = [.ref p] ∧ ((SqL K H p ys ∧ ∀ l, H l = none → Q (.ref l) (upd H l (.tup ys))) ∨ (SqT K H p ys ∧ Q (.ref p) H))) tupleD := by subst hK; exact ⟨call_tuple_of, cb_tuple⟩
theorem jb_all (hc : X.calm = true := by rfl) (hK : X.K = K := by rfl) : JBf K E X (.builtin "all") (rAll K) (allD false) := by subst hK; exact ⟨cr_all hc, cb_all⟩
theorem jb_any (hc : X.calm = true := by rfl) (hK : X.K = K := by rfl) : JBf K E X (.builtin "any") (rAny K) (allD true) := by subst hK; exact ⟨cr_any hc, cb_any⟩
theorem jb_sum (hc : X.calm = true := by rfl) (hK : X.K = K := by rfl) : JBf K E X (.builtin "sum") (rSum K) sumD := by subst hK; exact ⟨cr_sum hc, cb_sum⟩
theorem jb_isi (hK : X.K = K := by rfl) : JBf K E X (.builtin "isinstance") (rIsi K) isiD := by subst hK; exact ⟨call_isi, cb_isi⟩
theorem jb_repr {k : Nat} (hr : Room k X.A) (hg : X.A.guards = some []) (hK : X.K = K := by rfl) : JBf K E X (.builtin "repr") (rReprU K) reprD := by
  subst hK
  exact ⟨call_reprU hg (by have := hr.un; omega), cb_repr⟩
theorem je_b {id : String} {r : List V → Hp → VK → Prop} {f : List D → AH → R D} (h : JBf K E X (.builtin id) r f) (hm : X.mg x = none) (ha : JA K E X (e :: es) t m) (hv : bootBuiltins x = some (.builtin id) := by decide +kernel) (hg : Gl X x := by rfl)
    (hn : x ≠ "__name__" := by decide) (hd : (x == ("__debug__" : Str)) = false := by decide) (he : starEach (e :: es) X.env = (false, eval e X.env) :: starEach es X.env := by rfl) (hpl : (backTo pos (starEach es X.env)).any (·.1) = false := by rfl) :
    JE K E X (.Call (.Name x pn) (e :: es) [] pos) (tCB r t) (mCB f m) := je_bf h.o h.s hm ha hv hg hn hd he hpl
theorem je_t {id : String} {r : List V → Hp → VK → Prop} {f : List D → AH → R D} (h : JBf K E X (.type id) r f) (hm : X.mg x = none) (ha : JA K E X (e :: es) t m) (hv : bootBuiltins x = some (.type id) := by decide +kernel) (hg : Gl X x := by rfl)
    (hn : x ≠ "__name__" := by decide) (hd : (x == ("__debug__" : Str)) = false := by decide) (he : starEach (e :: es) X.env = (false, eval e X.env) :: starEach es X.env := by rfl) (hpl : (backTo pos (starEach es X.env)).any (·.1) = false := by rfl) :
    JE K E X (.Call (.Name x pn) (e :: es) [] pos) (tCB r t) (mCB f m) := je_bt h.o h.s hm ha hv hg hn hd he hpl
theorem jf_t {id : String} {r : List V → Hp → VK → Prop} {f : List D → AH → R (List D)} (h : JBl K E X (.type id) r f) (hm : X.mg x = none) (ha : JA K E X (e :: es) t m) (hv : bootBuiltins x = some (.type id) := by decide +kernel) (hg : Gl X x := by rfl)
    (hn : x ≠ "__name__" := by decide) (hd : (x == ("__debug__" : Str)) = false := by decide) (he : starEach (e :: es) X.env = (false, eval e X.env) :: starEach es X.env := by rfl) (hpl : (backTo pos (starEach es X.env)).any (·.1) = false := by rfl) :
    JF K E X (.Call (.Name x pn) (e :: es) [] pos) (tCB r t) (mCBF f m) := jf_bt h.o h.s hm ha hv hg hn hd he hpl
/-! methods of lists -/
variable {name : Str} {apos : Pos}
structure JM (K : PySem.W.Frag) (E : XK) (X : Cx) (T id : String) (r : V → List V → Hp → VK → Prop) (ok : D → AH → Bool) (f : D → List D → AH → R D) : Prop where
  o : MtR X id r
  s : MtS K E T r ok f
theorem jm_append : JM K E X "list" "list.append" rAppend isLoc appendD := ⟨mt_append, mt_appendU⟩
theorem jm_pop : JM K E X "list" "list.pop" rPop isLoc popD := ⟨mt_pop, mt_popU⟩
theorem jm_popAt : JM K E X "list" "list.pop" rPopAt isLoc popAtD := ⟨mt_popAt, mt_popAtU⟩
theorem je_m {T id : String} {r : V → List V → Hp → VK → Prop} {ok : D → AH → Bool} {f : D → List D → AH → R D} (pa : PlainAttrs T) (slot : Slot T name id) (hty : typeOf (.builtin id) = pure (.type "method_descriptor")) (h : JM K E X T id r ok f) (ho : JE K E X a ta ma) (hA : JA K E X (e :: es) t m)
    (hbase : attributeBase a name X.env (eval a X.env) = eval a X.env := by rfl)
    (hfew : ((backTo pos (starEach (e :: es) X.env)).all (fun x => !x.1) && (backToKw pos (keywordEach [] X.env)).all (fun x => x.1.isSome) && decide ((e :: es).length + ([] : List Keyword).length + (if ([] : List Keyword).isEmpty then 0 else 1) < 30)) = true := by rfl)
    (hline : (apos.endLine == pos.line) = true := by rfl) (hs : starEach (e :: es) X.env = (false, eval e X.env) :: starEach es X.env := by rfl) (hplain : (backTo pos (starEach es X.env)).any (·.1) = false := by rfl) :
    JE K E X (.Call (.Attribute a name apos) (e :: es) [] pos) (tBM K T r ta t) (mMethT ok f ma m) := by
  obtain ⟨hK, hp, hq⟩ := ho
  subst hK
  exact ⟨rfl, pe_bm pa slot hty h.o hp hA.p hbase hfew hline hs hplain, sd_meth h.s hq hA.s⟩
theorem je_m0 {T id : String} {r : V → List V → Hp → VK → Prop} {ok : D → AH → Bool} {f : D → List D → AH → R D} (pa : PlainAttrs T) (slot : Slot T name id) (hty : typeOf (.builtin id) = pure (.type "method_descriptor")) (h : JM K E X T id r ok f) (ho : JE K E X a ta ma)
    (hbase : attributeBase a name X.env (eval a X.env) = eval a X.env := by rfl) (hline : (apos.endLine == pos.line) = true := by rfl) : JE K E X (.Call (.Attribute a name apos) [] [] pos) (tBM0 K T r ta) (mMethT0 ok f ma) := by
  obtain ⟨hK, hp, hq⟩ := ho
  subst hK
  exact ⟨rfl, pe_bm0 pa slot hty h.o hp hbase hline, sd_meth0 h.s hq⟩
/-! own defs -/
/-- a def of the text as a caller wants it -/
structure Cal (P : Program) (w : World) (K : PySem.W.Frag) (mg : Str → Option Value) (base : Heap) (k : Nat) (x : Str) (ps : List Str) (F : Fn) (st : Stmt) : Prop where
  ex : ∃ f fd, FnG P w K mg base CX0 k f fd ps (spD K ps.length F) ∧ mg x = some (.ref f) ∧ PySem.W.keepIn K (.ref f) = true ∧ Binds K fd ps [] ∧ ∃ q, FunD K q q (defArgs st) (defBody st) (defScope st) [] [] f fd
variable {k : Nat} {ps : List Str} {F : Fn} {st : Stmt}
theorem je_call {n : Nat} (G : Cal X.prog X.w K X.mg X.base k x ps F st) (hr : Room k X.A) (hgu : X.A.guards = some []) (ha : JA K E X (e :: es) t m) (hn : ps.length = n := by rfl) (hx : Passes CX0 X E := by exact pass0) (hg : Gl X x := by rfl)
    (hdb : (x == ("__debug__" : Str)) = false := by decide) (he : starEach (e :: es) X.env = (false, eval e X.env) :: starEach es X.env := by rfl) (hpl : (backTo pos (starEach es X.env)).any (·.1) = false := by rfl) :
    JE K E X (.Call (.Name x pn) (e :: es) [] pos) (tCall (spD K n F) [] E t) (mCall n F m) := by
  obtain ⟨hK, hp, hq⟩ := ha
  subst hK
  subst hn
  obtain ⟨f, fd, G, hm, hk, hb, _⟩ := G.ex
  exact ⟨rfl, pe_callG G hr hgu hg hm hk hb hx hp hdb he hpl, sd_call hq⟩
theorem je_call0 {n : Nat} (G : Cal X.prog X.w K X.mg X.base k x ps F st) (hr : Room k X.A) (hgu : X.A.guards = some []) (hn : ps.length = n := by rfl) (hK : X.K = K := by rfl) (hx : Passes CX0 X E := by exact pass0) (hg : Gl X x := by rfl)
    (hdb : (x == ("__debug__" : Str)) = false := by decide) : JE K E X (.Call (.Name x pn) [] [] pos) (tCall (spD K n F) [] E tNil) (mCall n F mNil) := by
  subst hK
  subst hn
  obtain ⟨f, fd, G, hm, hk, hb, _⟩ := G.ex
  exact ⟨rfl, pe_callG0 G hr hgu hg hm hk hb hx hdb, sd_call sd_nil⟩
/-- keywords put into the parameters' order: the places among positional values, then keywords -/
def permL {α : Type} (n m : Nat) (ix : List Nat) (d : α) (us ws : List α) : List α := if us.length = n ∧ ws.length = m then ix.map (fun i => (us ++ ws).getD i d) else []
theorem permL_len {α : Type} {n m : Nat} {ix : List Nat} {d : α} {us ws : List α} {l : Nat} (h : (permL n m ix d us ws).length = l) (hl : 0 < l) : us.length = n ∧ ws.length = m := by
  unfold permL at h
  split at h
  · assumption
  · rw [List.length_nil] at h; omega
theorem vals_getD {vs : List V} {us : List Value} (r : Vals vs us) (i : Nat) : RelV (vs.getD i .non) (us.getD i .none) := by
  rw [List.getD_eq_getElem?_getD, List.getD_eq_getElem?_getD]
  cases e : vs[i]? with
  | none => rw [r.none_of e]; rfl
  | some v => obtain ⟨u, e2, q⟩ := r.get e; rw [e2]; exact q
theorem vals_map {f : Nat → V} {g : Nat → Value} (h : ∀ i, RelV (f i) (g i)) : ∀ ix : List Nat, Vals (ix.map f) (ix.map g)
  | [] => .nil
  | i :: ix => .cons (h i) (vals_map h ix)
theorem repL_map {ρ : Ro} {P : Hp} {f : Nat → D} {g : Nat → V} (h : ∀ i, Rep K ρ P (f i) (g i)) : ∀ ix : List Nat, RepL K ρ P (ix.map f) (ix.map g)
  | [] => .nil
  | i :: ix => .cons (h i) (repL_map h ix)
theorem permL_vals {n m : Nat} {ix : List Nat} {vs zs : List V} {us ws : List Value} (r : Vals vs us) (q : Vals zs ws) : Vals (permL n m ix .non vs zs) (permL n m ix .none us ws) := by
  unfold permL
  rw [r.length, q.length]
  split
  · exact vals_map (fun i => vals_getD (r.append q) i) ix
  · exact .nil
theorem rep_getD {ρ : Ro} {P : Hp} {ds : List D} {vs : List V} (r : RepL K ρ P ds vs) (i : Nat) : Rep K ρ P (ds.getD i .non) (vs.getD i .non) := by
  rw [List.getD_eq_getElem?_getD, List.getD_eq_getElem?_getD]
  cases e : ds[i]? with
  | none =>
    have : vs[i]? = none := by rw [List.getElem?_eq_none_iff] at e ⊢; rw [r.length]; exact e
    rw [this]; exact .non
  | some v => obtain ⟨u, e2, q⟩ := r.get e; rw [e2]; exact q
theorem permL_rep {ρ : Ro} {P : Hp} {n m : Nat} {ix : List Nat} {ds es : List D} {vs ws : List V} (r : RepL K ρ P ds vs) (q : RepL K ρ P es ws) : RepL K ρ P (permL n m ix .non ds es) (permL n m ix .non vs ws) := by
  unfold permL
  rw [r.length, q.length]
  split
  · exact repL_map (fun i => rep_getD (r.append q) i) ix
  · exact .nil
theorem kb_of {q q' : Str} {params : Arguments} {body : List Stmt} {scope : Scope} {f : Addr} {fd : FuncData} {n l : Nat} {ks : List Str} {ix : List Nat} (F : FunD K q q' params body scope [] [] f fd) (h0 : 0 < ps.length) (hks : ks.length = l)
    (h : ∀ (kV doc pm : Value) (an : Option Addr) (cdv ct : Value) (us ws : List Value), us.length = n → ws.length = l → bindArgs (PySem.W.fnOf q q' params body scope .none kV doc pm an cdv ct) ⟨us, ks.zip ws⟩ = pure (ps.zip (permL n l ix .none us ws))) :
    KBinds K fd ps ks (permL n l ix .none) (permL n l ix .non) := by
  obtain ⟨oc, od, dV, kV, doc, pm, an, cdv, ct, osl, rfl, lk, hcd, hD, hK⟩ := F.ex
  refine ⟨fun s us ws _ hl => ?_, fun r q => permL_vals r q⟩
  obtain ⟨e1, e2⟩ := permL_len hl h0
  rcases hD with ⟨_, rfl⟩ | ⟨e, _⟩
  · exact .of_eq (h kV doc pm an cdv ct us ws e1 e2)
  · exact absurd rfl e
variable {kws : List Keyword} {tk : TA} {mk : M (List D)} {nm : Option Str} {kpos : Pos}
theorem jk_nil (hK : X.K = K := by rfl) : JK K E X [] tNil mNil := ⟨hK, pk_nil, sd_nil⟩
theorem jk_cons (ha : JE K E X e ta ma) (hr : JK K E X kws tk mk) : JK K E X (⟨nm, e, kpos⟩ :: kws) (tCons ta tk) (mCons ma mk) := ⟨ha.k, pk_cons ha.p hr.p, sd_cons ha.s hr.s⟩
/-- f(.., k = v) without positional values -/
theorem je_callK0 {ks : List Str} {l N : Nat} (ix : List Nat) (G : Cal X.prog X.w K X.mg X.base k x ps F st) (hr : Room k X.A) (hgu : X.A.guards = some []) (hkw : JK K E X kws tk mk)
    (h : ∀ (q : Str) (kV doc pm : Value) (an : Option Addr) (cdv ct : Value) (us ws : List Value), us.length = 0 → ws.length = l → bindArgs (PySem.W.fnOf q q (defArgs st) (defBody st) (defScope st) .none kV doc pm an cdv ct) ⟨us, ks.zip ws⟩ = pure (ps.zip (permL 0 l ix .none us ws)))
    (hks : (backToKw pos (keywordEach kws X.env)).filterMap (·.1) = ks := by rfl) (hl : ks.length = l := by rfl) (hn : ps.length = N := by rfl) (h0 : 0 < ps.length := by decide) (hx : Passes CX0 X E := by exact pass0) (hg : Gl X x := by rfl)
    (hall : (backToKw pos (keywordEach kws X.env)).all (·.1.isSome) = true := by rfl) (hdb : (x == ("__debug__" : Str)) = false := by decide) (hpl : ((backTo pos (starEach [] X.env)).any (·.1) || (backToKw pos (keywordEach kws X.env)).any (·.1.isNone)) = false := by rfl) :
    JE K E X (.Call (.Name x pn) [] kws pos) (tCallK (spD K N F) (permL 0 l ix .non) E tNil tk) (mCallK N F (permL 0 l ix .non) mNil mk) := by
  obtain ⟨hK, hp, hq⟩ := hkw
  subst hK
  subst hn
  obtain ⟨f, fd, G, hm, hk, hb, q, FD⟩ := G.ex
  exact ⟨rfl, pe_callKG0 G hr hgu hg hm hk (kb_of FD h0 hl (h q)) hx hp hall hks hdb hpl, sd_callK sd_nil hq fun r q => permL_rep r q⟩
theorem je_callK {ks : List Str} {n l N : Nat} (ix : List Nat) (G : Cal X.prog X.w K X.mg X.base k x ps F st) (hr : Room k X.A) (hgu : X.A.guards = some []) (ha : JA K E X (e :: es) t m) (hkw : JK K E X kws tk mk)
    (h : ∀ (q : Str) (kV doc pm : Value) (an : Option Addr) (cdv ct : Value) (us ws : List Value), us.length = n → ws.length = l → bindArgs (PySem.W.fnOf q q (defArgs st) (defBody st) (defScope st) .none kV doc pm an cdv ct) ⟨us, ks.zip ws⟩ = pure (ps.zip (permL n l ix .none us ws)))
    (hks : (backToKw pos (keywordEach kws X.env)).filterMap (·.1) = ks := by rfl) (hl : ks.length = l := by rfl) (hn : ps.length = N := by rfl) (h0 : 0 < ps.length := by decide) (hx : Passes CX0 X E := by exact pass0) (hg : Gl X x := by rfl)
    (hall : (backToKw pos (keywordEach kws X.env)).all (·.1.isSome) = true := by rfl) (hdb : (x == ("__debug__" : Str)) = false := by decide) (he : starEach (e :: es) X.env = (false, eval e X.env) :: starEach es X.env := by rfl)
    (hpl : ((backTo pos (starEach (e :: es) X.env)).any (·.1) || (backToKw pos (keywordEach kws X.env)).any (·.1.isNone)) = false := by rfl) :
    JE K E X (.Call (.Name x pn) (e :: es) kws pos) (tCallK (spD K N F) (permL n l ix .non) E t tk) (mCallK N F (permL n l ix .non) m mk) := by
  obtain ⟨hK, hp, hq⟩ := hkw
  subst hK
  subst hn
  obtain ⟨f, fd, G, hm, hk, hb, q, FD⟩ := G.ex
  exact ⟨rfl, pe_callKG G hr hgu hg hm hk (kb_of FD h0 hl (h q)) hx ha.p hp hall hks hdb he hpl, sd_callK ha.s hq fun r q => permL_rep r q⟩
/-! what is walked -/
variable {tg : Expr}
theorem pi_seq (ha : PE X a ta) : PI X tg a (iSeq X.K ta) := by
  refine ⟨fun pins s σ H W I h => thn (ha.run pins s σ H _ I h) fun v s1 z => ?_⟩
  obtain ⟨y, H1, I1, r1, q, rfl, d⟩ := z
  obtain rfl : v = Value.ref q := r1
  rcases d with ⟨⟨xs, hq⟩, go⟩ | ⟨⟨xs, hq⟩, go⟩
  · obtain ⟨its, _, pl, _⟩ := I1.list hq
    refine wpAny_pyIter_list pl.isList ⟨_, [_], _, _, H1, rfl, I1.kept (t' := s1.toks) fun b o e => Heap.get?_push_of_some _ e, turn_list q _, ⟨_, Heap.get?_push_size _ rfl, rfl, rfl⟩, fun b hb => ?_, go⟩
    cases (List.mem_singleton.mp hb)
    exact I1.fpOk (Nat.le_refl _) I1.fresh
  · obtain ⟨its, _, pl, _⟩ := I1.tuple hq
    refine wpAny_pyIter_tuple (show s1.heap.IsTuple q its.toArray from pl) ⟨_, [_], _, _, H1, rfl, I1.kept (t' := s1.toks) fun b o e => Heap.get?_push_of_some _ e, turn_tuple q _, ⟨_, Heap.get?_push_size _ rfl, rfl, rfl⟩, fun b hb => ?_, go⟩
    cases (List.mem_singleton.mp hb)
    exact I1.fpOk (Nat.le_refl _) I1.fresh
theorem ji_seq (ha : JE K E X a ta ma) : JI K E X tg a (iSeq K ta) (miSeq ma) := by
  obtain ⟨hK, hp, hq⟩ := ha
  subst hK
  exact ⟨rfl, pi_seq hp, si_seq hq⟩
def miRng1 (m : M (List D)) : MI := fun env h => (m env h).bind fun ds h1 => match ds with
    | [.int j] => if InW j then .ok (.items (rngD 0 j)) h1 else .bad
    | _ => .bad
def miRng2 (m : M (List D)) : MI := fun env h => (m env h).bind fun ds h1 => match ds with
    | [.int i, .int j] => if InW i ∧ InW j then .ok (.items (rngD i j)) h1 else .bad
    | _ => .bad
theorem ji_rng1 (hm : X.mg "range" = none) (ha : JA K E X [a] t m) (hg : Gl X "range" := by rfl) (hs : starEach [a] X.env = [(false, eval a X.env)] := by rfl) : JI K E X tg (.Call (.Name "range" pn) [a] [] pos) (iRng1 t) (miRng1 m) := ⟨ha.k, pi_range1 hg hm ha.p hs, si_rng1 ha.s⟩
theorem ji_rng2 (hm : X.mg "range" = none) (ha : JA K E X [a, b] t m) (hg : Gl X "range" := by rfl) (hs : starEach [a, b] X.env = [(false, eval a X.env), (false, eval b X.env)] := by rfl) (hs2 : starEach [b] X.env = [(false, eval b X.env)] := by rfl) :
    JI K E X tg (.Call (.Name "range" pn) [a, b] [] pos) (iRng2 t) (miRng2 m) := ⟨ha.k, pi_range2 hg hm ha.p hs hs2, si_rng2 ha.s⟩
/-! targets -/
theorem jg_n (i : Nat) {x : Str} (hN : X.N.Nodup) (hi : X.N[i]? = some x := by rfl) (hx : Loc X.env.scope x := by first | exact Or.inl rfl | exact Or.inr rfl) (hf : X.fn x = true ∨ X.env.scope.names.lookup x = some .local := by first | exact .inl rfl | exact .inr rfl) (hK : X.K = K := by rfl) :
    JG K E X (.Name x pos) (gName i) (mgName i) := ⟨hK, pg_name hN hi hx hf, sg_name⟩
variable {g : TG} {gs : TGs} {mg : MG} {mgs : List D → En → AH → R En}
theorem jgs_nil (hK : X.K = K := by rfl) : JGs K E X [] gNil mgNil := ⟨hK, pgs_nil, sg_nil⟩
theorem jgs_cons (ha : JG K E X e g mg) (hr : JGs K E X es gs mgs) (hs : (assignEach (e :: es) X.env).map (·.2) = assign e X.env :: (assignEach es X.env).map (·.2) := by rfl) : JGs K E X (e :: es) (gCons g gs) (mgCons mg mgs) := ⟨ha.k, pgs_cons ha.p hr.p hs, sg_cons ha.s hr.s⟩
theorem jg_tup {kk : Nat} {n : Nat} (h : JGs K E X es gs mgs) (hc : X.calm = true := by rfl) (hn : (assignEach es X.env).length = n := by rfl) (hst : (assignEach es X.env).findIdx? (·.1) = none := by rfl) : JG K E X (.Tuple es kk pos) (gTup K n gs) (mgTup n mgs) := by
  obtain ⟨hK, hp, hq⟩ := h
  subst hK
  exact ⟨rfl, pg_tup hc hp hn hst, sg_tup hq⟩
theorem jg_sub (ho : JE K E X a ta ma) (hi : JE K E X b tb mb) (ha : ∀ v, assign (.Subscript a b pos) X.env v = (do
      let ov ← holding [v] (eval a X.env)
      let iv ← holding [v, ov] (eval b X.env)
      standAt pos
      holding [v, ov, iv] (setItem ov iv v)
      release [v, ov, iv] []) := by intro _; rfl) : JG K E X (.Subscript a b pos) (gSub ta tb rSetL) (mgSub ma mb) := ⟨ho.k, pg_sub ho.p hi.p set_list ha, sg_sub ho.s hi.s⟩
/-! statements -/
variable {sts sts2 : List Stmt} {s0 : Stmt} {ts tu2 : TS} {ms mu2 : MS}
theorem jss_nil (hK : X.K = K := by rfl) : JSs K E X [] tNext mNext := ⟨hK, pss_nil, ss_next⟩
theorem jss_one (h : JS K E X s0 ts ms) : JSs K E X [s0] ts ms := ⟨h.k, pss_one h.p, h.s⟩
theorem jss_cons (h : JS K E X s0 ts ms) (hr : JSs K E X sts tu2 mu2) : JSs K E X (s0 :: sts) (tSeq ts tu2) (mSeq ms mu2) := ⟨h.k, pss_cons h.p hr.p, ss_seq h.s hr.s⟩
theorem js_pass (hK : X.K = K := by rfl) : JS K E X (.Pass pos) tNext mNext := ⟨hK, ps_pass, ss_next⟩
theorem js_brk (hK : X.K = K := by rfl) : JS K E X (.Break pos) tBreak (fun env h => .bk env h) := ⟨hK, ps_break, ss_brk⟩
theorem js_cont (hK : X.K = K := by rfl) : JS K E X (.Continue pos) tCont (fun env h => .ct env h) := ⟨hK, ps_continue, ss_cont⟩
theorem js_expr (h : JE K E X e ta ma) (hs : swapsWith e none pos.line X.env = pure false := by rfl) : JS K E X (.Expr e pos) (tDrop ta) (mDrop ma) := ⟨h.k, ps_expr h.p hs, ss_drop h.s⟩
theorem js_ret (h : JE K E X e ta ma) : JS K E X (.Return (some e) pos) (tRet ta) (mRet ma) := ⟨h.k, ps_ret h.p, ss_ret h.s⟩
theorem js_retN (hK : X.K = K := by rfl) : JS K E X (.Return none pos) tRetN (fun env h => .rt .non h) := ⟨hK, ps_retN, ss_retN⟩
theorem js_if (hc : JT K E X c tt mt) (ha : JSs K E X sts ts ms) (hb : JSs K E X sts2 tu2 mu2) : JS K E X (.If c sts sts2 pos) (tIfS tt ts tu2) (mIfS mt ms mu2) := ⟨hc.k, ps_if hc.p ha.p hb.p, ss_if hc.s ha.s hb.s⟩
theorem js_never (hK : X.K = K := by rfl) : JS K E X s0 tNever (fun _ _ => .bad) := ⟨hK, ps_never, ss_never⟩
theorem js_set (i : Nat) {x : Str} (hN : X.N.Nodup) (he : JE K E X e ta ma) (hi : X.N[i]? = some x := by rfl) (hx : Loc X.env.scope x := by first | exact Or.inl rfl | exact Or.inr rfl) (hs : swapsWith e (some (.Name x pos')) pos.line X.env = pure false := by rfl)
    (hf : X.fn x = true ∨ X.env.scope.names.lookup x = some .local := by first | exact .inl rfl | exact .inr rfl) : JS K E X (.Assign [.Name x pos'] e pos) (tAsg ta (gName i)) (mAsg ma (mgName i)) := ⟨he.k, ps_set hN hi hx he.p hs hf, ss_asg he.s sg_name⟩
theorem js_asg (he : JE K E X e ta ma) (hg : JG K E X tg g mg) (hs : swapsWithSole [tg] e pos.line X.env = pure false := by rfl) (hw : swappedStores [tg] e X.env = pure none := by rfl) (h1 : (assignEach [tg] X.env).map (·.2) = [assign tg X.env] := by rfl) :
    JS K E X (.Assign [tg] e pos) (tAsg ta g) (mAsg ma mg) := ⟨he.k, ps_asg he.p hg.p hs hw h1, ss_asg he.s hg.s⟩
theorem js_par (i j : Nat) {x y : Str} {px py pt pt2 : Pos} {kt k2 : Nat} (hN : X.N.Nodup) (ha : JA K E X [a, b] t m) (hi : X.N[i]? = some x := by rfl) (hj : X.N[j]? = some y := by rfl) (hij : i ≠ j := by decide) (hx : X.env.scope.names.lookup x = some .local := by rfl) (hy : X.env.scope.names.lookup y = some .local := by rfl)
    (hc : X.calm = true := by rfl) (hw : swappedStores [.Tuple [.Name x px, .Name y py] kt pt] (.Tuple [a, b] k2 pt2) X.env = pure (some [x, y]) := by rfl) (hs : swapsWithSole [.Tuple [.Name x px, .Name y py] kt pt] (.Tuple [a, b] k2 pt2) pos.line X.env = pure false := by rfl) :
    JS K E X (.Assign [.Tuple [.Name x px, .Name y py] kt pt] (.Tuple [a, b] k2 pt2) pos) (tPar i j t) (mPar i j m) := ⟨ha.k, ps_par hc hN hi hj hij hx hy ha.p hw hs, ss_par ha.s⟩
theorem js_aug (i : Nat) {x : Str} {op : Operator} {r : TIp} {f : D → D → AH → R D} (hN : X.N.Nodup) (ho : PIp X op r) (hs : OpS K E r f) (he : JE K E X e ta ma) (hi : X.N[i]? = some x := by rfl) (hx : Loc X.env.scope x := by first | exact Or.inl rfl | exact Or.inr rfl)
    (hf : X.fn x = true ∨ X.env.scope.names.lookup x = some .local := by first | exact .inl rfl | exact .inr rfl) : JS K E X (.AugAssign (.Name x pos') op e pos) (tAug i ta r) (mAug i f ma) := ⟨he.k, ps_aug hN hi hx he.p ho hf, ss_aug he.s hs⟩
def addI : D → D → AH → R D
  | .int i, .int j, h => .ok (.int (i + j)) h
  | _, _, _ => .bad
theorem os_addI : OpS K E (ipI fun i j => i + j) addI := fun ρ P H h x y dx dy s wx wy Q p => by
  cases wx with
  | int i =>
    cases wy with
    | int j => exact ⟨i, j, rfl, rfl, Post.here p s (.int _)⟩
    | _ => exact p.elim
  | _ => exact p.elim
theorem js_augAdd (i : Nat) {x : Str} (hN : X.N.Nodup) (he : JE K E X e ta ma) (hi : X.N[i]? = some x := by rfl) (hx : Loc X.env.scope x := by first | exact Or.inl rfl | exact Or.inr rfl)
    (hf : X.fn x = true ∨ X.env.scope.names.lookup x = some .local := by first | exact .inl rfl | exact .inr rfl) : JS K E X (.AugAssign (.Name x pos') .Add e pos) (tAug i ta (ipI fun i j => i + j)) (mAug i addI ma) := js_aug i hN ip_add os_addI he hi hx hf
theorem js_while (n : Nat) (hc : JT K E X c tt mt) (hb : JSs K E X sts ts ms) (hp : PassesOwn (model X.prog X.w) X.A X.env X.xe := by exact PassesOwn.never) : JS K E X (.While c sts [] pos) (tWhile tt ts) (mWhile mt ms n) := ⟨hc.k, ps_while hp hc.p hb.p, ss_while hc.s hb.s n⟩
variable {w : TI} {mi : MI}
theorem js_for (hi : JI K E X tg e w mi) (hg : JG K E X tg g mg) (hb : JSs K E X sts ts ms) (hc : X.calm = true := by rfl) (hp : PassesOwn (model X.prog X.w) X.A X.env X.xe := by exact PassesOwn.never) (hs : ∀ x, foldedSetIterable e X.env x = pure x := by intro _; rfl) :
    JS K E X (.For tg e sts [] pos) (tFor w g ts) (mFor mi mg ms) := ⟨hi.k, ps_for hp hc hi.p hg.p hb.p hs, ss_for hi.s hg.s hb.s⟩
/-! comprehensions -/
theorem jts_nil (hK : X.K = K := by rfl) : JTs K E X [] tYes (fun _ h => .ok true h) := ⟨hK, pts_nil, sd_yes⟩
theorem jts_one (h : JT K E X c tt mt) : JTs K E X [c] tt mt := ⟨h.k, pts_one h.p, h.s⟩
variable {elt iter : Expr} {ifs : List Expr} {scope : Scope} {own : List (Str × Nat)} {te : TE} {me : M D}
theorem jf_lc (hN : X.N.Nodup) (hi : JI K E X tg iter w mi) (ok : BlkOk X.N X.env.scope scope own) (hv : GW (own.map (·.2)) g)
    (hg : ∀ (s : Shared) (H : Hp) (C : Addr) (cl : List (Str × Addr)) (fp : List Addr), JG K E (X.blk s H scope (compEnvC scope cl C X.env) fp) tg g mg) (ht : ∀ (s : Shared) (H : Hp) (C : Addr) (cl : List (Str × Addr)) (fp : List Addr), JTs K E (X.blk s H scope (compEnvC scope cl C X.env) fp) ifs tt mt)
    (he : ∀ (s : Shared) (H : Hp) (C : Addr) (cl : List (Str × Addr)) (fp : List Addr), JE K E (X.blk s H scope (compEnvC scope cl C X.env) fp) elt te me) (hc : X.calm = true := by rfl) (hs : ∀ x, foldedSetIterable iter X.env x = pure x := by intro _; rfl) :
    JF K E X (.ListComp elt [⟨tg, iter, ifs, 0⟩] scope pos) (tLc w g tt te (own.map (·.2))) (mLc mi mg mt me (own.map (·.2))) := by
  have hg0 := hg X.s_0 X.H_0 default [] []
  have ht0 := ht X.s_0 X.H_0 default [] []
  have he0 := he X.s_0 X.H_0 default [] []
  exact ⟨hi.k, pe_lc hc hN hi.p ok (fun s H C cl fp => (hg s H C cl fp).p) (fun s H C cl fp => (ht s H C cl fp).p) (fun s H C cl fp => (he s H C cl fp).p) hs, sf_lc hi.s hg0.s hv ht0.s he0.s⟩
theorem js_setLc (i : Nat) {y : Str} {py spos : Pos} (hN : X.N.Nodup) (hi : JI K E X tg iter w mi) (ok : BlkOk X.N X.env.scope scope own) (hv : GW (own.map (·.2)) g)
    (hg : ∀ (s : Shared) (H : Hp) (C : Addr) (cl : List (Str × Addr)) (fp : List Addr), JG K E (X.blk s H scope (compEnvC scope cl C X.env) fp) tg g mg) (ht : ∀ (s : Shared) (H : Hp) (C : Addr) (cl : List (Str × Addr)) (fp : List Addr), JTs K E (X.blk s H scope (compEnvC scope cl C X.env) fp) ifs tt mt)
    (he : ∀ (s : Shared) (H : Hp) (C : Addr) (cl : List (Str × Addr)) (fp : List Addr), JE K E (X.blk s H scope (compEnvC scope cl C X.env) fp) elt te me)
    (hsw : swapsWith (.ListComp elt [⟨tg, iter, ifs, 0⟩] scope pos) (some (.Name y py)) spos.line X.env = pure true) (hy : X.N[i]? = some y := by rfl) (hyl : X.env.scope.names.lookup y = some .local := by rfl) (hc : X.calm = true := by rfl) (hs : ∀ x, foldedSetIterable iter X.env x = pure x := by intro _; rfl) :
    JS K E X (.Assign [.Name y py] (.ListComp elt [⟨tg, iter, ifs, 0⟩] scope pos) spos) (tAsg (tLc w g tt te (own.map (·.2))) (gName i)) (mAsg (mFrz (mLc mi mg mt me (own.map (·.2)))) (mgName i)) := by
  have h := jf_lc (pos := pos) hN hi ok hv hg ht he hc hs
  exact ⟨hi.k, ps_setLc hc hN hy hyl hsw hi.p ok (fun s H C cl fp => (hg s H C cl fp).p) (fun s H C cl fp => (ht s H C cl fp).p) (fun s H C cl fp => (he s H C cl fp).p) hs, ss_asg h.f.s sg_name⟩
theorem js_setLcO (i : Nat) {y : Str} {py spos : Pos} (hN : X.N.Nodup) (hi : JI K E X tg iter w mi) (ok : BlkOk X.N X.env.scope scope own) (hv : GW (own.map (·.2)) g)
    (hg : ∀ (s : Shared) (H : Hp) (C : Addr) (cl : List (Str × Addr)) (fp : List Addr), JG K E (X.blk s H scope (compEnvC scope cl C X.env) fp) tg g mg) (ht : ∀ (s : Shared) (H : Hp) (C : Addr) (cl : List (Str × Addr)) (fp : List Addr), JTs K E (X.blk s H scope (compEnvC scope cl C X.env) fp) ifs tt mt)
    (he : ∀ (s : Shared) (H : Hp) (C : Addr) (cl : List (Str × Addr)) (fp : List Addr), JE K E (X.blk s H scope (compEnvC scope cl C X.env) fp) elt te me)
    (hsw : swapsWith (.ListComp elt [⟨tg, iter, ifs, 0⟩] scope pos) (some (.Name y py)) spos.line X.env = pure true) (hy : X.N[i]? = some y := by rfl) (hyl : X.env.scope.names.lookup y = some .local := by rfl) (hc : X.calm = true := by rfl) (hs : ∀ x, foldedSetIterable iter X.env x = pure x := by intro _; rfl) :
    JS K E X (.Assign [.Name y py] (.ListComp elt [⟨tg, iter, ifs, 0⟩] scope pos) spos) (tAsg (tLc w g tt te (own.map (·.2))) (gName i)) (mAsg (mOwn (mLc mi mg mt me (own.map (·.2)))) (mgName i)) := by
  have h := jf_lc (pos := pos) hN hi ok hv hg ht he hc hs
  exact ⟨hi.k, ps_setLc hc hN hy hyl hsw hi.p ok (fun s H C cl fp => (hg s H C cl fp).p) (fun s H C cl fp => (ht s H C cl fp).p) (fun s H C cl fp => (he s H C cl fp).p) hs, ss_asg h.o.s sg_name⟩
end
end Ab

/-! Calls whose values hold nothing mutable: computed over the empty heap, the caller's heap stays. -/
namespace Ab
open PySem PySem.Spec L2
section
variable {K : PySem.W.Frag} {E : XK} {ρ ρ' ρ1 : Ro} {P H P' H' P1 H1 : Hp}
/-- what a def computes over nothing, told over h -/
def overD (h : AH) : R D → R D
  | .ok d _ => if below 0 d = true then .ok d h else .bad
  | .exc x fs _ => if belowL 0 (fs.map (·.2)) = true then .exc x fs h else .bad
  | .bad => .bad
def callP (n : Nat) (F : Fn) (ds : List D) (h : AH) : R D := if ds.length = n ∧ belowL 0 ds = true then overD h (F ds []) else .bad
def mCallP (n : Nat) (F : Fn) (m : M (List D)) : M D := fun env h => (m env h).bind (callP n F)
def mCallKP (n : Nat) (F : Fn) (g : List D → List D → List D) (m mk : M (List D)) : M D := fun env h => (m env h).bind fun ds h1 => (mk env h1).bind fun es h2 => callP n F (g ds es) h2
theorem step_over {h h' : AH} (s : SR K ρ P H h) (t : Step (cutR 0 ρ) P H ρ' P' H') (s' : SR K ρ' P' H' h') : Step ρ P H ρ P' H' ∧ SR K ρ P' H' h := by
  have n0 : ∀ a, NoR (cutR 0 ρ) a := fun a n e => by
    have e : (if n < 0 then ρ n else none) = some a := e
    rw [if_neg (Nat.not_lt_zero n)] at e
    cases e
  have st : Step ρ P H ρ P' H' := ⟨fun _ _ e => e, t.pure, fun n a e e' => (by rw [e] at e'; cases e'), t.newp, fun a o e _ => t.keep a o e (n0 a), t.there⟩
  refine ⟨st, s'.sub, fun n a e => ?_, s.inj, fun n o e => ?_, s.dom⟩
  · obtain ⟨o, eo, r⟩ := s.here e
    exact st.noP r.there (s.apart n a e)
  · obtain ⟨a, e1, r⟩ := s.obj n o e
    exact ⟨a, e1, r.up (fun _ _ e => e) t.pure fun o e => t.keep a o e (n0 a)⟩
theorem none_up : ∀ n a, cutR 0 ρ' n = some a → ρ n = some a := fun n a e => by
  have e : (if n < 0 then ρ' n else none) = some a := e
  rw [if_neg (Nat.not_lt_zero n)] at e
  cases e
theorem post_over {h : AH} (s : SR K ρ P H h) {Q : VK} : ∀ {r : R D}, Post K (RV K) E ρ P H Q (overD h r) → Post K (RV K) E (cutR 0 ρ) P H Q r
  | .bad, p => p
  | .exc x fs h', p => by
    intro ρ' P' H' dd t s' rx
    have p : Post K (RV K) E ρ P H Q (if belowL 0 (fs.map (·.2)) = true then .exc x fs h else .bad) := p
    split at p
    · rename_i hb
      obtain ⟨st, sr⟩ := step_over s t s'
      refine p _ P' H' dd st sr ?_
      rcases rx with z | ⟨da, fvs, e1, e2, e3, r⟩
      · exact .inl z
      · exact .inr ⟨da, fvs, e1, e2, e3, (r.cut hb).up none_up (fun _ _ e => e)⟩
    · exact p.elim
  | .ok d h', p => by
    intro ρ' P' H' v t s' w
    have p : Post K (RV K) E ρ P H Q (if below 0 d = true then .ok d h else .bad) := p
    split at p
    · rename_i hd
      obtain ⟨st, sr⟩ := step_over s t s'
      exact p _ P' H' v st sr ((w.cut hd).up none_up (fun _ _ e => e))
    · exact p.elim
theorem sp_over {n : Nat} {F : Fn} {ds : List D} {vs : List V} {h : AH} (s : SR K ρ P H h) (w : RepL K ρ P ds vs) {Q : VK} (p : Post K (RV K) E ρ P H Q (callP n F ds h)) : spD K n F vs H Q E := by
  unfold callP at p
  split at p
  · rename_i hl
    have sc := s.cut (h' := h) (n := 0) (by simp)
    exact ⟨by rw [w.length]; exact hl.1, cutR 0 ρ, P, [], ds, sc, w.cut hl.2, post_over s p⟩
  · exact p.elim
theorem sd_callP {n : Nat} {F : Fn} {t : TA} {m : M (List D)} (ha : Sd K (RVs K) E t m) : Sd K (RV K) E (tCall (spD K n F) [] E t) (mCallP n F m) := fun ρ P σ H env h s re Q p =>
  ha ρ P σ H env h s re _ (Post.bind p fun a h1 ρ1 P1 H1 v t1 s1 w1 p1 => by
    show spD K n F (v ++ []) H1 Q E
    rw [List.append_nil]
    exact sp_over s1 w1 p1)
theorem sd_callKP {n : Nat} {F : Fn} {g : List D → List D → List D} {gV : List V → List V → List V} {t tk : TA} {m mk : M (List D)} (ha : Sd K (RVs K) E t m) (hk : Sd K (RVs K) E tk mk)
    (hg : ∀ {ρ : Ro} {P : Hp} {ds es : List D} {vs ws : List V}, RepL K ρ P ds vs → RepL K ρ P es ws → RepL K ρ P (g ds es) (gV vs ws)) : Sd K (RV K) E (tCallK (spD K n F) gV E t tk) (mCallKP n F g m mk) := fun ρ P σ H env h s re Q p =>
  ha ρ P σ H env h s re _ (Post.bind p fun a h1 ρ1 P1 H1 v t1 s1 w1 p1 => hk _ _ _ _ _ _ s1 (re.step t1) _ (Post.bind p1 fun b h2 ρ2 P2 H2 u t2 s2 w2 p2 =>
    sp_over s2 (hg (w1.step t2) w2) p2))
variable {X : Cx} {k : Nat} {x : Str} {ps ks : List Str} {F : Fn} {st : Stmt} {e : Expr} {es : List Expr} {t tk : TA} {m mk : M (List D)} {pn pos : Pos} {kws : List Keyword} {l n N : Nat}
theorem je_callP (G : Cal X.prog X.w K X.mg X.base k x ps F st) (hr : Room k X.A) (hgu : X.A.guards = some []) (ha : JA K E X (e :: es) t m) (hn : ps.length = n := by rfl) (hx : Passes CX0 X E := by exact pass0) (hg : Gl X x := by rfl)
    (hdb : (x == ("__debug__" : Str)) = false := by decide) (he : starEach (e :: es) X.env = (false, eval e X.env) :: starEach es X.env := by rfl) (hpl : (backTo pos (starEach es X.env)).any (·.1) = false := by rfl) :
    JE K E X (.Call (.Name x pn) (e :: es) [] pos) (tCall (spD K n F) [] E t) (mCallP n F m) := by
  obtain ⟨hK, hp, hq⟩ := ha
  subst hK
  subst hn
  obtain ⟨f, fd, G, hm, hk, hb, _⟩ := G.ex
  exact ⟨rfl, pe_callG G hr hgu hg hm hk hb hx hp hdb he hpl, sd_callP hq⟩
theorem je_callP0 (G : Cal X.prog X.w K X.mg X.base k x ps F st) (hr : Room k X.A) (hgu : X.A.guards = some []) (hn : ps.length = n := by rfl) (hK : X.K = K := by rfl) (hx : Passes CX0 X E := by exact pass0) (hg : Gl X x := by rfl)
    (hdb : (x == ("__debug__" : Str)) = false := by decide) : JE K E X (.Call (.Name x pn) [] [] pos) (tCall (spD K n F) [] E tNil) (mCallP n F mNil) := by
  subst hK
  subst hn
  obtain ⟨f, fd, G, hm, hk, hb, _⟩ := G.ex
  exact ⟨rfl, pe_callG0 G hr hgu hg hm hk hb hx hdb, sd_callP sd_nil⟩
theorem je_callPK0 (ix : List Nat) (G : Cal X.prog X.w K X.mg X.base k x ps F st) (hr : Room k X.A) (hgu : X.A.guards = some []) (hkw : JK K E X kws tk mk)
    (h : ∀ (q : Str) (kV doc pm : Value) (an : Option Addr) (cdv ct : Value) (us ws : List Value), us.length = 0 → ws.length = l → bindArgs (PySem.W.fnOf q q (defArgs st) (defBody st) (defScope st) .none kV doc pm an cdv ct) ⟨us, ks.zip ws⟩ = pure (ps.zip (permL 0 l ix .none us ws)))
    (hks : (backToKw pos (keywordEach kws X.env)).filterMap (·.1) = ks := by rfl) (hl : ks.length = l := by rfl) (hn : ps.length = N := by rfl) (h0 : 0 < ps.length := by decide) (hx : Passes CX0 X E := by exact pass0) (hg : Gl X x := by rfl)
    (hall : (backToKw pos (keywordEach kws X.env)).all (·.1.isSome) = true := by rfl) (hdb : (x == ("__debug__" : Str)) = false := by decide) (hpl : ((backTo pos (starEach [] X.env)).any (·.1) || (backToKw pos (keywordEach kws X.env)).any (·.1.isNone)) = false := by rfl) :
    JE K E X (.Call (.Name x pn) [] kws pos) (tCallK (spD K N F) (permL 0 l ix .non) E tNil tk) (mCallKP N F (permL 0 l ix .non) mNil mk) := by
  obtain ⟨hK, hp, hq⟩ := hkw
  subst hK
  subst hn
  obtain ⟨f, fd, G, hm, hk, hb, q, FD⟩ := G.ex
  exact ⟨rfl, pe_callKG0 G hr hgu hg hm hk (kb_of FD h0 hl (h q)) hx hp hall hks hdb hpl, sd_callKP sd_nil hq fun r q => permL_rep r q⟩
end
end Ab

/-! Dicts whose keys are flat tuples. -/
namespace Ab
open PySem PySem.Spec L2
section
variable {K : PySem.W.Frag} {E : XK} {ρ ρ' ρ1 : Ro} {P H P' H' P1 H1 : Hp}
def keyD : D → Option Key
  | .int i => some (.inl i)
  | .str x => some (.inr x)
  | _ => none
def keyL : List D → Option (List Key)
  | [] => some []
  | d :: ds => match keyD d, keyL ds with
    | some k, some ks => some (k :: ks)
    | _, _ => none
theorem keyD_ok {d : D} {v : V} {k : Key} (r : Rep K ρ P d v) (e : keyD d = some k) : v = kV k := by
  cases r <;> simp [keyD] at e
  · subst e; rfl
  · subst e; rfl
theorem keyL_ok : ∀ {ds : List D} {vs : List V} {ks : List Key}, RepL K ρ P ds vs → keyL ds = some ks → vs = ks.map kV
  | [], _, ks, r, e => by cases r; simp [keyL] at e; subst e; rfl
  | d :: ds, _, ks, r, e => by
    cases r with
    | cons a b =>
      unfold keyL at e
      cases q : keyD d with
      | none => rw [q] at e; cases e
      | some k =>
        cases q2 : keyL ds with
        | none => rw [q, q2] at e; cases e
        | some ks2 =>
          rw [q, q2] at e
          cases e
          rw [keyD_ok a q, keyL_ok b q2]; rfl
def keyT (d : D) : Option (List Key) := match d with
  | .tup ds => keyL ds
  | _ => none
theorem keyT_ok {h : AH} {d : D} {v : V} {ks : List Key} (s : SR K ρ P H h) (r : Rep K ρ P d v) (e : keyT d = some ks) : ∃ b, v = .ref b ∧ H b = some (.tup (ks.map kV)) := by
  cases r with
  | tup q w => exact ⟨_, rfl, by rw [← keyL_ok w e]; exact s.sub _ _ q⟩
  | _ => cases e
def keyEq1 : Key → Key → Bool
  | .inl (.ofNat a), .inl (.ofNat b) => Nat.beq a b
  | .inl (.negSucc a), .inl (.negSucc b) => Nat.beq a b
  | .inr a, .inr b => decide (a = b)
  | _, _ => false
def keyEq : List Key → List Key → Bool
  | [], [] => true
  | a :: r, b :: s => match keyEq1 a b with
    | true => keyEq r s
    | false => false
  | _, _ => false
theorem keyEq1_is (a b : Key) : keyEq1 a b = decide (a = b) := by
  cases a with
  | inl a =>
    cases b with
    | inl b =>
      cases a with
      | ofNat a => cases b with
        | ofNat b => by_cases z : a = b
                     · subst z; simp [keyEq1]
                     · have : Nat.beq a b = false := by rw [Bool.eq_false_iff]; exact fun y => z (Nat.eq_of_beq_eq_true y)
                       simp only [keyEq1, this]
                       exact (decide_eq_false fun y => z (by cases y; rfl)).symm
        | negSucc b => simp [keyEq1]
      | negSucc a => cases b with
        | ofNat b => simp [keyEq1]
        | negSucc b => by_cases z : a = b
                       · subst z; simp [keyEq1]
                       · have : Nat.beq a b = false := by rw [Bool.eq_false_iff]; exact fun y => z (Nat.eq_of_beq_eq_true y)
                         simp only [keyEq1, this]
                         exact (decide_eq_false fun y => z (by cases y; rfl)).symm
    | inr b => cases a <;> simp [keyEq1]
  | inr a =>
    cases b with
    | inl b => cases b <;> simp [keyEq1]
    | inr b => simp [keyEq1]
theorem keyEq_is : ∀ a b : List Key, keyEq a b = decide (a = b)
  | [], [] => by simp [keyEq]
  | [], _ :: _ => by simp [keyEq]
  | _ :: _, [] => by simp [keyEq]
  | a :: r, b :: s => by
    have ih := keyEq_is r s
    simp only [keyEq, keyEq1_is]
    by_cases z : a = b
    · subst z; simp [ih]
    · simp [z]
def fGet (kvs : List (List Key × D)) (k : List Key) : Option D := (kvs.find? fun kv => keyEq kv.1 k).map (·.2)
def fPut (kvs : List (List Key × D)) (k : List Key) (v : D) : List (List Key × D) :=
  if (kvs.any fun kv => keyEq kv.1 k) = true then kvs.map (fun kv => match keyEq kv.1 k with
    | true => (kv.1, v)
    | false => kv) else kvs ++ [(k, v)]
theorem fGet_is {kvs : List (List Key × D)} {k : List Key} : fGet kvs k = (kvs.find? fun kv => decide (kv.1 = k)).map (·.2) := by
  unfold fGet
  simp only [keyEq_is]
theorem fPut_is {kvs : List (List Key × D)} {k : List Key} {v : D} : fPut kvs k v = if (kvs.any fun kv => decide (kv.1 = k)) = true then kvs.map (fun kv => if kv.1 = k then (kv.1, v) else kv) else kvs ++ [(k, v)] := by
  have e : (fun kv : List Key × D => match keyEq kv.1 k with
    | true => (kv.1, v)
    | false => kv) = (fun kv => if kv.1 = k then (kv.1, v) else kv) := by
    funext kv
    rw [keyEq_is]
    by_cases z : kv.1 = k
    · rw [decide_eq_true z, if_pos z]
    · rw [decide_eq_false z, if_neg z]
  unfold fPut
  rw [e]
  simp only [keyEq_is]
theorem get_rel {k : List Key} : ∀ {kvs : List (List Key × D)} {kws : List (List Key × V)}, kws.map (·.1) = kvs.map (·.1) → RepL K ρ P (kvs.map (·.2)) (kws.map (·.2)) →
    (fGet kvs k = none ∧ valV kws k = none) ∨ ∃ d v, fGet kvs k = some d ∧ valV kws k = some v ∧ Rep K ρ P d v
  | [], [], _, _ => .inl ⟨rfl, rfl⟩
  | [], _ :: _, e, _ => by cases e
  | _ :: _, [], e, _ => by cases e
  | p :: kvs, q :: kws, e, r => by
    simp only [List.map_cons, List.cons.injEq] at e
    simp only [List.map_cons] at r
    cases r with
    | cons a b =>
      by_cases z : p.1 = k
      · have z2 : q.1 = k := by rw [e.1]; exact z
        exact .inr ⟨p.2, q.2, by simp [fGet_is, z], by simp [valV, z2], a⟩
      · have z2 : ¬ q.1 = k := by rw [e.1]; exact z
        rcases get_rel (k := k) e.2 b with ⟨h1, h2⟩ | ⟨d, v, h1, h2, h3⟩
        · refine .inl ⟨?_, ?_⟩
          · simpa [fGet_is, z] using h1
          · simpa [valV, z2] using h2
        · refine .inr ⟨d, v, ?_, ?_, h3⟩
          · simpa [fGet_is, z] using h1
          · simpa [valV, z2] using h2
theorem any_rel {k : List Key} {kvs : List (List Key × D)} {kws : List (List Key × V)} (e : kws.map (·.1) = kvs.map (·.1)) : (kws.any fun kv => decide (kv.1 = k)) = (kvs.any fun kv => decide (kv.1 = k)) := by
  have h1 : (kws.any fun kv => decide (kv.1 = k)) = ((kws.map (·.1)).any fun x => decide (x = k)) := by rw [List.any_map]; rfl
  have h2 : (kvs.any fun kv => decide (kv.1 = k)) = ((kvs.map (·.1)).any fun x => decide (x = k)) := by rw [List.any_map]; rfl
  rw [h1, h2, e]
theorem repl_rel {k : List Key} {d : D} {v : V} (rd : Rep K ρ P d v) : ∀ {kvs : List (List Key × D)} {kws : List (List Key × V)}, kws.map (·.1) = kvs.map (·.1) → RepL K ρ P (kvs.map (·.2)) (kws.map (·.2)) →
    (kws.map fun kv => if kv.1 = k then (kv.1, v) else kv).map (·.1) = (kvs.map fun kv => if kv.1 = k then (kv.1, d) else kv).map (·.1) ∧ RepL K ρ P ((kvs.map fun kv => if kv.1 = k then (kv.1, d) else kv).map (·.2)) ((kws.map fun kv => if kv.1 = k then (kv.1, v) else kv).map (·.2))
  | [], [], _, _ => ⟨rfl, .nil⟩
  | [], _ :: _, e, _ => by cases e
  | _ :: _, [], e, _ => by cases e
  | p :: kvs, q :: kws, e, r => by
    simp only [List.map_cons, List.cons.injEq] at e
    simp only [List.map_cons] at r
    cases r with
    | cons a b =>
      obtain ⟨h1, h2⟩ := repl_rel (k := k) rd e.2 b
      by_cases z : p.1 = k
      · have z2 : q.1 = k := by rw [e.1]; exact z
        simp only [List.map_cons, z, z2, if_true]
        exact ⟨by rw [h1], .cons rd h2⟩
      · have z2 : ¬ q.1 = k := by rw [e.1]; exact z
        simp only [List.map_cons, z, z2, if_false]
        exact ⟨by rw [h1, e.1], .cons a h2⟩
theorem put_rel {k : List Key} {d : D} {v : V} (rd : Rep K ρ P d v) {kvs : List (List Key × D)} {kws : List (List Key × V)} (e : kws.map (·.1) = kvs.map (·.1)) (r : RepL K ρ P (kvs.map (·.2)) (kws.map (·.2))) :
    (putK kws k v).map (·.1) = (fPut kvs k d).map (·.1) ∧ RepL K ρ P ((fPut kvs k d).map (·.2)) ((putK kws k v).map (·.2)) := by
  rw [fPut_is]
  unfold putK
  rw [any_rel e]
  split
  · exact repl_rel rd e r
  · simp only [List.map_append, List.map_cons, List.map_nil]
    exact ⟨by rw [e], r.append (.cons rd .nil)⟩
/-! {} -/
def mDNew : M D := fun _ h => .ok (.loc h.length) (h ++ [.dct []])
theorem sd_dnew : Sd K (RV K) E tDNewT mDNew := fun ρ P σ H env h s re Q p => by
  intro a hp
  obtain ⟨s1, t⟩ := s.own hp (.dT [])
  have np : P a = none := s.noP hp
  have nr : NoR ρ a := s.noR hp
  refine p (fun n => if n = h.length then some a else ρ n) P _ _ ⟨fun n b eb => ?_, t.pure, fun n b e0 eb => ?_, t.newp, t.keep, t.there⟩ (s1.number np nr ⟨[], upd_same, rfl, .nil⟩) (.loc (by simp))
  · have z : n ≠ h.length := fun z => by rw [z, s.dom _ (Nat.le_refl _)] at eb; cases eb
    show (if n = h.length then some a else ρ n) = some b
    rw [if_neg z]; exact eb
  · have eb : (if n = h.length then some a else ρ n) = some b := eb
    split at eb
    · cases eb; exact hp
    · rw [e0] at eb; cases eb
/-! x in d, d[x] -/
def dctD (d : D) (h : AH) : Option (List (List Key × D)) := match d with
  | .loc n => (match h[n]? with
    | some (.dct kvs) => some kvs
    | _ => none)
  | _ => none
theorem dctD_ok {h : AH} {d : D} {v : V} {kvs : List (List Key × D)} (s : SR K ρ P H h) (r : Rep K ρ P d v) (e : dctD d h = some kvs) : ∃ a kws, v = .ref a ∧ H a = some (.dT kws) ∧ kws.map (·.1) = kvs.map (·.1) ∧ RepL K ρ P (kvs.map (·.2)) (kws.map (·.2)) := by
  cases r with
  | loc e1 =>
    obtain ⟨o, eo, x⟩ := s.here e1
    simp only [dctD, eo] at e
    cases o with
    | lst ds => cases e
    | dct kvs2 =>
      cases e
      obtain ⟨kws, e3, e4, q⟩ := x
      exact ⟨_, kws, rfl, e3, e4, q⟩
  | _ => cases e
def dInD (neg : Bool) (y d : D) (h : AH) : R D := match keyT y, dctD d h with
  | some k, some kvs => .ok (.bl (if neg then !(fGet kvs k).isSome else (fGet kvs k).isSome)) h
  | _, _ => .bad
def dGetD (d y : D) (h : AH) : R D := match keyT y, dctD d h with
  | some k, some kvs => (match fGet kvs k with
    | some v => .ok v h
    | none => .bad)
  | _, _ => .bad
theorem sd_din {ta tb : TE} {ma mb : M D} (neg : Bool) (ha : Sd K (RV K) E ta ma) (hb : Sd K (RV K) E tb mb) : Sd K (RV K) E (fun σ H Q => ta σ H fun y H1 => tb σ H1 fun x H2 => ∃ a o, x = .ref a ∧ DGet H2 a y o ∧ Q (.bl (if neg then !o.isSome else o.isSome)) H2) (mBin (dInD neg) ma mb) := fun ρ P σ H env h s re Q p =>
  ha ρ P σ H env h s re _ (Post.bind p fun a h1 ρ1 P1 H1 v t1 s1 w1 p1 => hb _ _ _ _ _ _ s1 (re.step t1) _ (Post.bind p1 fun b h2 ρ2 P2 H2 u t2 s2 w2 p2 => by
    unfold dInD at p2
    split at p2
    · rename_i k kvs ek ed
      obtain ⟨q, eq, hq⟩ := keyT_ok s2 (w1.step t2) ek
      obtain ⟨d, kws, eu, hd, e4, r⟩ := dctD_ok s2 w2 ed
      subst eq eu
      refine ⟨d, valV kws k, rfl, DGet.t hd hq, ?_⟩
      have : (valV kws k).isSome = (fGet kvs k).isSome := by
        rcases get_rel (k := k) e4 r with ⟨h1, h2⟩ | ⟨d, v, h1, h2, _⟩ <;> rw [h1, h2] <;> rfl
      rw [this]
      exact Post.here p2 s2 (.bl _)
    · exact p2.elim))
theorem sd_dget {ta tb : TE} {ma mb : M D} (ha : Sd K (RV K) E ta ma) (hb : Sd K (RV K) E tb mb) : Sd K (RV K) E (tDGet ta tb) (mBin dGetD ma mb) := fun ρ P σ H env h s re Q p =>
  ha ρ P σ H env h s re _ (Post.bind p fun a h1 ρ1 P1 H1 v t1 s1 w1 p1 => hb _ _ _ _ _ _ s1 (re.step t1) _ (Post.bind p1 fun b h2 ρ2 P2 H2 u t2 s2 w2 p2 => by
    unfold dGetD at p2
    split at p2
    · rename_i k kvs ek ed
      obtain ⟨q, eq, hq⟩ := keyT_ok s2 w2 ek
      obtain ⟨d, kws, eu, hd, e4, r⟩ := dctD_ok s2 (w1.step t2) ed
      subst eq eu
      split at p2
      · rename_i y ey
        rcases get_rel (k := k) e4 r with ⟨h1, _⟩ | ⟨d', v', h1, h2, h3⟩
        · rw [h1] at ey; cases ey
        · rw [h1] at ey
          cases ey
          have g := DGet.t hd hq
          rw [h2] at g
          exact ⟨d, v', rfl, g, Post.here p2 s2 h3⟩
      · exact p2.elim
    · exact p2.elim))
/-! d[x] = v -/
def dPutD (v d y : D) (h : AH) : R Unit := match d, keyT y, dctD d h with
  | .loc n, some k, some kvs => if kvs.length < sizeLine then .ok () (h.set n (.dct (fPut kvs k v))) else .bad
  | _, _, _ => .bad
def mDPut (mv md my : M D) : MS := fun env h => (mv env h).then fun v h1 => (md env h1).then fun d h2 => (my env h2).then fun y h3 => (dPutD v d y h3).then fun _ h4 => .nx env h4
theorem ss_dput {tv td ty : TE} {mv md my : M D} (hv : Sd K (RV K) E tv mv) (hd : Sd K (RV K) E td md) (hy : Sd K (RV K) E ty my) : SdS K E (sDPut td ty tv) (mDPut mv md my) := fun ρ P σ H env h s re D p =>
  hv ρ P σ H env h s re _ (PostS.bind p fun v h1 ρ1 P1 H1 vv t1 s1 w1 p1 => hd _ _ _ _ _ _ s1 (re.step t1) _ (PostS.bind p1 fun d h2 ρ2 P2 H2 vd t2 s2 w2 p2 =>
    hy _ _ _ _ _ _ s2 ((re.step t1).step t2) _ (PostS.bind p2 fun y h3 ρ3 P3 H3 vy t3 s3 w3 p3 => by
      have w1 := (w1.step t2).step t3
      have w2 := w2.step t3
      have re3 := ((re.step t1).step t2).step t3
      unfold dPutD at p3
      split at p3
      · rename_i n k kvs ek w2' ed
        split at p3
        · rename_i hl
          obtain ⟨q, eq, hq⟩ := keyT_ok s3 w3 ek
          cases w2' with
          | loc e =>
            rename_i a
            have e := t3.mono _ _ e
            obtain ⟨o, eo, x⟩ := s3.here e
            simp only [dctD, eo] at ed
            cases o with
            | lst ds => cases ed
            | dct kvs2 =>
              cases ed
              obtain ⟨kws, e3, e4, r⟩ := x
              subst eq
              have hl2 : kws.length < sizeLine := by
                have := congrArg List.length e4
                simp only [List.length_map] at this
                omega
              obtain ⟨r1, r2⟩ := put_rel (k := k) w1 e4 r
              obtain ⟨s4, t4⟩ := s3.put (u := .dT (putK kws k vv)) (o := .dct (fPut kvs k v)) e ⟨_, upd_same, r1, r2⟩
              exact ⟨a, _, rfl, DPut.t e3 hq hl2, PostS.next (PostS.mono p3 t4) s4 (re3.step t4)⟩
        · exact p3.elim
      · exact p3.elim)))
variable {X : Cx} {a b : Expr} {ta tb tc : TE} {ma mb mc : M D} {pos pos' : Pos} {c : Expr} {k : Nat}
theorem je_dnew (hK : X.K = K := by rfl) : JE K E X (.Dict [] [] pos) tDNewT mDNew := ⟨hK, pe_dnewT, sd_dnew⟩
theorem je_din (hr : Room k X.A) (ha : JE K E X a ta ma) (hb : JE K E X b tb mb) (h1 : behindInMarks .In b = false := by first | exact nobehind _ (by decide) (by decide) | rfl) : JE K E X (.Compare a [.In] [b] pos) (tDIn ta tb) (mBin (dInD false) ma mb) :=
  ⟨ha.k, pe_cmp (pc_din (hu_of hr) ha.p hb.p) h1, sd_din false ha.s hb.s⟩
theorem je_dnin (hr : Room k X.A) (ha : JE K E X a ta ma) (hb : JE K E X b tb mb) (h1 : behindInMarks .NotIn b = false := by first | exact nobehind _ (by decide) (by decide) | rfl) : JE K E X (.Compare a [.NotIn] [b] pos) (tDNotIn ta tb) (mBin (dInD true) ma mb) :=
  ⟨ha.k, pe_cmp (pc_dnotin (hu_of hr) ha.p hb.p) h1, sd_din true ha.s hb.s⟩
theorem jt_din (hr : Room k X.A) (ha : JE K E X a ta ma) (hb : JE K E X b tb mb) (h1 : behindInMarks .In b = false := by first | exact nobehind _ (by decide) (by decide) | rfl) : JT K E X (.Compare a [.In] [b] pos) (tTest (tDIn ta tb)) (mBl (mBin (dInD false) ma mb)) :=
  ⟨ha.k, pt_cmp (pc_din (hu_of hr) ha.p hb.p) h1, sd_test (sd_din false ha.s hb.s)⟩
theorem jt_dnin (hr : Room k X.A) (ha : JE K E X a ta ma) (hb : JE K E X b tb mb) (h1 : behindInMarks .NotIn b = false := by first | exact nobehind _ (by decide) (by decide) | rfl) : JT K E X (.Compare a [.NotIn] [b] pos) (tTest (tDNotIn ta tb)) (mBl (mBin (dInD true) ma mb)) :=
  ⟨ha.k, pt_cmp (pc_dnotin (hu_of hr) ha.p hb.p) h1, sd_test (sd_din true ha.s hb.s)⟩
theorem je_dget (hr : Room k X.A) (ha : JE K E X a ta ma) (hb : JE K E X b tb mb) (hs : NoSl b := by exact fun _ _ => rfl) : JE K E X (.Subscript a b pos) (tDGet ta tb) (mBin dGetD ma mb) := ⟨ha.k, pe_dget (hu_of hr) ha.p hb.p hs, sd_dget ha.s hb.s⟩
theorem js_dput (hr : Room k X.A) (hv : JE K E X c tc mc) (ha : JE K E X a ta ma) (hb : JE K E X b tb mb) (hs : swapsWith c (some (.Subscript a b pos')) pos.line X.env = pure false := by rfl) : JS K E X (.Assign [.Subscript a b pos'] c pos) (sDPut ta tb tc) (mDPut mc ma mb) :=
  ⟨ha.k, ps_dput (hu_of hr) ha.p hb.p hv.p hs, ss_dput hv.s ha.s hb.s⟩
/-! three at once -/
def mPar3 (i j l : Nat) (m : M (List D)) : MS := fun env h => (m env h).then fun ds h1 => match ds with
  | [a, b, c] => .nx (((env.set i (some a)).set j (some b)).set l (some c)) h1
  | _ => .bad
theorem ss_par3 {i j l : Nat} {t : TA} {m : M (List D)} (ha : Sd K (RVs K) E t m) : SdS K E (tPar3 i j l t) (mPar3 i j l m) := fun ρ P σ H env h s re D p =>
  ha ρ P σ H env h s re _ (PostS.bind p fun a h1 ρ1 P1 H1 v t1 s1 w1 p1 => by
    cases w1 with
    | nil => exact p1.elim
    | cons r1 w1 =>
      cases w1 with
      | nil => exact p1.elim
      | cons r2 w1 =>
        cases w1 with
        | nil => exact p1.elim
        | cons r3 w1 =>
          cases w1 with
          | nil => exact ⟨_, _, _, rfl, PostS.next p1 s1 ((((re.step t1).set r1 i).set r2 j).set r3 l)⟩
          | cons _ _ => exact p1.elim)
theorem js_par3 (i j l : Nat) {x y z : Str} {px py pz pt pt2 : Pos} {kt k2 : Nat} {t : TA} {m : M (List D)} (hN : X.N.Nodup) (ha : JA K E X [a, b, c] t m) (hi : X.N[i]? = some x := by rfl) (hj : X.N[j]? = some y := by rfl) (hl : X.N[l]? = some z := by rfl) (hij : i ≠ j := by decide) (hil : i ≠ l := by decide) (hjl : j ≠ l := by decide)
    (hx : X.env.scope.names.lookup x = some .local := by rfl) (hy : X.env.scope.names.lookup y = some .local := by rfl) (hz : X.env.scope.names.lookup z = some .local := by rfl)
    (hc : X.calm = true := by rfl) (hw : swappedStores [.Tuple [.Name x px, .Name y py, .Name z pz] kt pt] (.Tuple [a, b, c] k2 pt2) X.env = pure (some [x, y, z]) := by rfl) (hs : swapsWithSole [.Tuple [.Name x px, .Name y py, .Name z pz] kt pt] (.Tuple [a, b, c] k2 pt2) pos.line X.env = pure false := by rfl) :
    JS K E X (.Assign [.Tuple [.Name x px, .Name y py, .Name z pz] kt pt] (.Tuple [a, b, c] k2 pt2) pos) (tPar3 i j l t) (mPar3 i j l m) := ⟨ha.k, ps_par3 hc hN hi hj hl hij hil hjl hx hy hz ha.p hw hs, ss_par3 ha.s⟩
end
end Ab

/-! What the layer's pieces compute, as rewriting rules. -/
namespace Ab
open PySem PySem.Spec L2
section
variable {α β : Type} {a : α} {h h' : AH} {env env' : En} {x : Str} {fs : List (Str × D)} {d y : D} {ds es : List D} {i j : Int} {n m k : Nat} {b c : Bool}
@[simp] theorem b_ok {f : α → AH → R β} : R.bind (.ok a h) f = f a h := rfl.trans rfl
@[simp] theorem b_bad {f : α → AH → R β} : R.bind .bad f = .bad := rfl.trans rfl
@[simp] theorem t_ok {f : α → AH → SS} : R.then (.ok a h) f = f a h := rfl.trans rfl
@[simp] theorem t_bad {f : α → AH → SS} : R.then .bad f = .bad := rfl.trans rfl
@[simp] theorem e_C : mC d env h = .ok d h := rfl.trans rfl
theorem e_V (e : env[n]? = some (some d)) : mVar n env h = .ok d h := by unfold mVar; rw [e]
@[simp] theorem e_V0 {r : En} : mVar 0 (some d :: r) h = .ok d h := rfl.trans rfl
@[simp] theorem e_VS {o : Option D} {r : En} : mVar (n + 1) (o :: r) h = mVar n r h := rfl.trans rfl
@[simp] theorem e_V1 {o1 : Option D} {r : En} : mVar 1 (o1 :: some d :: r) h = .ok d h := rfl.trans rfl
@[simp] theorem e_V2 {o1 o2 : Option D} {r : En} : mVar 2 (o1 :: o2 :: some d :: r) h = .ok d h := rfl.trans rfl
@[simp] theorem e_V3 {o1 o2 o3 : Option D} {r : En} : mVar 3 (o1 :: o2 :: o3 :: some d :: r) h = .ok d h := rfl.trans rfl
@[simp] theorem e_V4 {o1 o2 o3 o4 : Option D} {r : En} : mVar 4 (o1 :: o2 :: o3 :: o4 :: some d :: r) h = .ok d h := rfl.trans rfl
@[simp] theorem e_V5 {o1 o2 o3 o4 o5 : Option D} {r : En} : mVar 5 (o1 :: o2 :: o3 :: o4 :: o5 :: some d :: r) h = .ok d h := rfl.trans rfl
@[simp] theorem e_V6 {o1 o2 o3 o4 o5 o6 : Option D} {r : En} : mVar 6 (o1 :: o2 :: o3 :: o4 :: o5 :: o6 :: some d :: r) h = .ok d h := rfl.trans rfl
@[simp] theorem e_V7 {o1 o2 o3 o4 o5 o6 o7 : Option D} {r : En} : mVar 7 (o1 :: o2 :: o3 :: o4 :: o5 :: o6 :: o7 :: some d :: r) h = .ok d h := rfl.trans rfl
@[simp] theorem e_V8 {o1 o2 o3 o4 o5 o6 o7 o8 : Option D} {r : En} : mVar 8 (o1 :: o2 :: o3 :: o4 :: o5 :: o6 :: o7 :: o8 :: some d :: r) h = .ok d h := rfl.trans rfl
@[simp] theorem e_V9 {o1 o2 o3 o4 o5 o6 o7 o8 o9 : Option D} {r : En} : mVar 9 (o1 :: o2 :: o3 :: o4 :: o5 :: o6 :: o7 :: o8 :: o9 :: some d :: r) h = .ok d h := rfl.trans rfl
@[simp] theorem e_V10 {o1 o2 o3 o4 o5 o6 o7 o8 o9 o10 : Option D} {r : En} : mVar 10 (o1 :: o2 :: o3 :: o4 :: o5 :: o6 :: o7 :: o8 :: o9 :: o10 :: some d :: r) h = .ok d h := rfl.trans rfl
/-! continuations, each a name, so that what comes later is not touched before its turn -/
def kQ {γ : Type} (q : M α) (env : En) (f : β → α → AH → R γ) : β → AH → R γ := fun a h => (q env h).bind (f a)
@[simp] theorem k_Q {γ : Type} {q : M α} {f : β → α → AH → R γ} {b : β} : kQ q env f b h = (q env h).bind (f b) := rfl.trans rfl
def kBl (d : D) (h : AH) : R Bool := match d with
  | .bl b => .ok b h
  | _ => .bad
@[simp] theorem k_Bl : kBl (.bl b) h = .ok b h := rfl.trans rfl
def kTru (d : D) (h : AH) : R Bool := match truD d h with
  | some b => .ok b h
  | none => .bad
@[simp] theorem k_TruB : kTru (.bl b) h = .ok b h := rfl.trans rfl
@[simp] theorem k_TruI : kTru (.int i) h = .ok (i != 0) h := rfl.trans rfl
@[simp] theorem k_TruN : kTru .non h = .ok false h := rfl.trans rfl
def kNotT (b : Bool) (h : AH) : R Bool := .ok (!b) h
@[simp] theorem k_NotT : kNotT b h = .ok (!b) h := rfl.trans rfl
def kAndT (q : M Bool) (env : En) (b : Bool) (h : AH) : R Bool := if b = true then q env h else .ok false h
@[simp] theorem k_AndT1 {q : M Bool} : kAndT q env true h = q env h := rfl.trans rfl
@[simp] theorem k_AndT0 {q : M Bool} : kAndT q env false h = .ok false h := rfl.trans rfl
def kOrT (q : M Bool) (env : En) (b : Bool) (h : AH) : R Bool := if b = true then .ok true h else q env h
@[simp] theorem k_OrT1 {q : M Bool} : kOrT q env true h = .ok true h := rfl.trans rfl
@[simp] theorem k_OrT0 {q : M Bool} : kOrT q env false h = q env h := rfl.trans rfl
def kAnd (q : M D) (env : En) (a : D) (h : AH) : R D := match truD a h with
  | some true => q env h
  | some false => .ok a h
  | none => .bad
@[simp] theorem k_And1 {q : M D} : kAnd q env (.bl true) h = q env h := rfl.trans rfl
@[simp] theorem k_And0 {q : M D} : kAnd q env (.bl false) h = .ok (.bl false) h := rfl.trans rfl
def kOr (q : M D) (env : En) (a : D) (h : AH) : R D := match truD a h with
  | some true => .ok a h
  | some false => q env h
  | none => .bad
@[simp] theorem k_Or1 {q : M D} : kOr q env (.bl true) h = .ok (.bl true) h := rfl.trans rfl
@[simp] theorem k_Or0 {q : M D} : kOr q env (.bl false) h = q env h := rfl.trans rfl
def kNot (a : D) (h : AH) : R D := match truD a h with
  | some b => .ok (.bl (!b)) h
  | none => .bad
@[simp] theorem k_Not : kNot (.bl b) h = .ok (.bl (!b)) h := rfl.trans rfl
def kIf (p q : M α) (env : En) (b : Bool) (h : AH) : R α := if b = true then p env h else q env h
@[simp] theorem k_If1 {p q : M α} : kIf p q env true h = p env h := rfl.trans rfl
@[simp] theorem k_If0 {p q : M α} : kIf p q env false h = q env h := rfl.trans rfl
def kCons (a : D) (r : List D) (h : AH) : R (List D) := .ok (a :: r) h
@[simp] theorem k_Cons : kCons d ds h = .ok (d :: ds) h := rfl.trans rfl
def kTup (ds : List D) (h : AH) : R D := if ds.length ≤ sizeLine then .ok (.tup ds) h else .bad
@[simp] theorem k_Tup (e : ds.length ≤ 1000) : kTup ds h = .ok (.tup ds) h := if_pos (Nat.le_trans e (by decide))
def kLst (ds : List D) (h : AH) : R (List D) := if ds.length ≤ sizeLine then .ok ds h else .bad
@[simp] theorem k_Lst (e : ds.length ≤ 1000) : kLst ds h = .ok ds h := if_pos (Nat.le_trans e (by decide))
def kFrz (ds : List D) (h : AH) : R D := .ok (.lst ds) h
@[simp] theorem k_Frz : kFrz ds h = .ok (.lst ds) h := rfl.trans rfl
def kOwn (ds : List D) (h : AH) : R D := .ok (.loc h.length) (h ++ [.lst ds])
@[simp] theorem k_Own : kOwn ds h = .ok (.loc h.length) (h ++ [.lst ds]) := rfl.trans rfl
def kCall (n : Nat) (F : Fn) (ds : List D) (h : AH) : R D := if ds.length = n then F ds h else .bad
@[simp] theorem k_Call {F : Fn} (e : ds.length = n) : kCall n F ds h = F ds h := if_pos e
def kCallK (n : Nat) (F : Fn) (g : List D → List D → List D) (ds es : List D) (h : AH) : R D := if (g ds es).length = n then F (g ds es) h else .bad
@[simp] theorem k_CallK {F : Fn} {g : List D → List D → List D} (e : (g ds es).length = n) : kCallK n F g ds es h = F (g ds es) h := if_pos e
def kChain (g : D → D → AH → R D) (c : M D) (env : En) (b : D) (k : D) (h : AH) : R D := match k with
  | .bl true => (c env h).bind (g b)
  | .bl false => .ok (.bl false) h
  | _ => .bad
@[simp] theorem k_Chain1 {g : D → D → AH → R D} {c : M D} : kChain g c env d (.bl true) h = (c env h).bind (g d) := rfl.trans rfl
@[simp] theorem k_Chain0 {g : D → D → AH → R D} {c : M D} : kChain g c env d (.bl false) h = .ok (.bl false) h := rfl.trans rfl
def kChain2 (f g : D → D → AH → R D) (c : M D) (env : En) (a b : D) (h : AH) : R D := (f a b h).bind (kChain g c env b)
@[simp] theorem k_Chain2 {f g : D → D → AH → R D} {c : M D} : kChain2 f g c env d y h = (f d y h).bind (kChain g c env y) := rfl.trans rfl
@[simp] theorem e_Chain {f g : D → D → AH → R D} {p q c : M D} : mChain f g p q c env h = (p env h).bind (kQ q env (kChain2 f g c env)) := rfl.trans rfl
@[simp] theorem e_Bin {f : D → D → AH → R D} {p q : M D} : mBin f p q env h = (p env h).bind (kQ q env f) := rfl.trans rfl
@[simp] theorem e_BinF {f : D → D → AH → R (List D)} {p q : M D} : mBinF f p q env h = (p env h).bind (kQ q env f) := rfl.trans rfl
@[simp] theorem e_Un {f : D → AH → R D} {p : M D} : mUn f p env h = (p env h).bind f := rfl.trans rfl
@[simp] theorem e_Bl {p : M D} : mBl p env h = (p env h).bind kBl := rfl.trans rfl
@[simp] theorem e_Tru {p : M D} : mTru p env h = (p env h).bind kTru := rfl.trans rfl
@[simp] theorem e_NotT {p : M Bool} : mNotT p env h = (p env h).bind kNotT := rfl.trans rfl
@[simp] theorem e_AndT {p q : M Bool} : mAndT p q env h = (p env h).bind (kAndT q env) := rfl.trans rfl
@[simp] theorem e_OrT {p q : M Bool} : mOrT p q env h = (p env h).bind (kOrT q env) := rfl.trans rfl
@[simp] theorem e_And {p q : M D} : mAnd p q env h = (p env h).bind (kAnd q env) := rfl.trans rfl
@[simp] theorem e_Or {p q : M D} : mOr p q env h = (p env h).bind (kOr q env) := rfl.trans rfl
@[simp] theorem e_Not {p : M D} : mNot p env h = (p env h).bind kNot := rfl.trans rfl
@[simp] theorem e_If {c : M Bool} {p q : M D} : mIf c p q env h = (c env h).bind (kIf p q env) := rfl.trans rfl
@[simp] theorem e_Nil : mNil env h = .ok [] h := rfl.trans rfl
@[simp] theorem e_Cons {p : M D} {q : M (List D)} : mCons p q env h = (p env h).bind (kQ q env kCons) := rfl.trans rfl
@[simp] theorem e_Tup {p : M (List D)} : mTup p env h = (p env h).bind kTup := rfl.trans rfl
@[simp] theorem e_Lst {p : M (List D)} : mLst p env h = (p env h).bind kLst := rfl.trans rfl
@[simp] theorem e_Frz {p : M (List D)} : mFrz p env h = (p env h).bind kFrz := rfl.trans rfl
@[simp] theorem e_Own {p : M (List D)} : mOwn p env h = (p env h).bind kOwn := rfl.trans rfl
@[simp] theorem e_CB {f : List D → AH → R D} {p : M (List D)} : mCB f p env h = (p env h).bind f := rfl.trans rfl
@[simp] theorem e_CBF {f : List D → AH → R (List D)} {p : M (List D)} : mCBF f p env h = (p env h).bind f := rfl.trans rfl
@[simp] theorem e_Call {F : Fn} {p : M (List D)} : mCall n F p env h = (p env h).bind (kCall n F) := rfl.trans rfl
@[simp] theorem e_CallP {F : Fn} {p : M (List D)} : mCallP n F p env h = (p env h).bind (callP n F) := rfl.trans rfl
def kCallKP (n : Nat) (F : Fn) (g : List D → List D → List D) (ds es : List D) (h : AH) : R D := callP n F (g ds es) h
@[simp] theorem k_CallKP {F : Fn} {g : List D → List D → List D} : kCallKP n F g ds es h = callP n F (g ds es) h := rfl.trans rfl
@[simp] theorem e_CallKP {F : Fn} {g : List D → List D → List D} {p q : M (List D)} : mCallKP n F g p q env h = (p env h).bind (kQ q env (kCallKP n F g)) := rfl.trans rfl
theorem c_P {F : Fn} {h' : AH} (e : F ds [] = .ok d h') (hl : ds.length = n) (hb : belowL 0 ds = true) (hd : below 0 d = true) : callP n F ds h = .ok d h := by
  unfold callP
  rw [if_pos ⟨hl, hb⟩, e]
  exact if_pos hd
@[simp] theorem e_CallK {F : Fn} {g : List D → List D → List D} {p q : M (List D)} : mCallK n F g p q env h = (p env h).bind (kQ q env (kCallK n F g)) := rfl.trans rfl
def kPart (d : D) (h : AH) : R (Option Int) := match d with
  | .int i => .ok (some i) h
  | _ => .bad
/-! statements -/
def SS.go (r : SS) (q : MS) : SS := match r with
  | .nx env h => q env h
  | r => r
@[simp] theorem go_nx {q : MS} : SS.go (.nx env h) q = q env h := rfl.trans rfl
@[simp] theorem go_rt {q : MS} : SS.go (.rt d h) q = .rt d h := rfl.trans rfl
@[simp] theorem go_bk {q : MS} : SS.go (.bk env h) q = .bk env h := rfl.trans rfl
@[simp] theorem go_ct {q : MS} : SS.go (.ct env h) q = .ct env h := rfl.trans rfl
@[simp] theorem e_Next : mNext env h = .nx env h := rfl.trans rfl
@[simp] theorem e_Seq {p q : MS} : mSeq p q env h = SS.go (p env h) q := rfl.trans rfl
def kDrop (env : En) (d : D) (h : AH) : SS := .nx env h
@[simp] theorem k_Drop : kDrop env d h = .nx env h := rfl.trans rfl
@[simp] theorem e_Drop {p : M D} : mDrop p env h = (p env h).then (kDrop env) := rfl.trans rfl
def kRet (d : D) (h : AH) : SS := .rt d h
@[simp] theorem k_Ret : kRet d h = .rt d h := rfl.trans rfl
@[simp] theorem e_Ret {p : M D} : mRet p env h = (p env h).then kRet := rfl.trans rfl
def kIfS (p q : MS) (env : En) (b : Bool) (h : AH) : SS := if b = true then p env h else q env h
@[simp] theorem k_IfS1 {p q : MS} : kIfS p q env true h = p env h := rfl.trans rfl
@[simp] theorem k_IfS0 {p q : MS} : kIfS p q env false h = q env h := rfl.trans rfl
@[simp] theorem e_IfS {c : M Bool} {p q : MS} : mIfS c p q env h = (c env h).then (kIfS p q env) := rfl.trans rfl
@[simp] theorem g_Name : mgName n d env h = .ok (env.set n (some d)) h := rfl.trans rfl
@[simp] theorem g_Nil : mgNil [] env h = .ok env h := rfl.trans rfl
@[simp] theorem g_Cons {p : MG} {q : List D → En → AH → R En} : mgCons p q (d :: ds) env h = (p d env h).bind (q ds) := rfl.trans rfl
@[simp] theorem g_Tup {q : List D → En → AH → R En} (e : ds.length = n) : mgTup n q (.tup ds) env h = q ds env h := if_pos e
def kNx (env : En) (h : AH) : SS := .nx env h
@[simp] theorem k_Nx : kNx env h = .nx env h := rfl.trans rfl
def kAsg (g : MG) (env : En) (d : D) (h : AH) : SS := (g d env h).then kNx
@[simp] theorem k_Asg {g : MG} : kAsg g env d h = (g d env h).then kNx := rfl.trans rfl
@[simp] theorem e_Asg {p : M D} {g : MG} : mAsg p g env h = (p env h).then (kAsg g env) := rfl.trans rfl
def kPar (n m : Nat) (env : En) (ds : List D) (h : AH) : SS := match ds with
  | [a, b] => .nx ((env.set n (some a)).set m (some b)) h
  | _ => .bad
@[simp] theorem k_Par : kPar n m env [d, y] h = .nx ((env.set n (some d)).set m (some y)) h := rfl.trans rfl
@[simp] theorem e_Par {p : M (List D)} : mPar n m p env h = (p env h).then (kPar n m env) := rfl.trans rfl
def kPar3 (n m l : Nat) (env : En) (ds : List D) (h : AH) : SS := match ds with
  | [a, b, c] => .nx (((env.set n (some a)).set m (some b)).set l (some c)) h
  | _ => .bad
@[simp] theorem k_Par3 {l : Nat} {z : D} : kPar3 n m l env [d, y, z] h = .nx (((env.set n (some d)).set m (some y)).set l (some z)) h := rfl.trans rfl
@[simp] theorem e_Par3 {l : Nat} {p : M (List D)} : mPar3 n m l p env h = (p env h).then (kPar3 n m l env) := rfl.trans rfl
def kAug2 (n : Nat) (f : D → D → AH → R D) (env : En) (x y : D) (h : AH) : SS := (f x y h).then fun z h2 => .nx (env.set n (some z)) h2
@[simp] theorem k_Aug2 {f : D → D → AH → R D} : kAug2 n f env d y h = (f d y h).then fun z h2 => .nx (env.set n (some z)) h2 := rfl.trans rfl
def kAug (n : Nat) (f : D → D → AH → R D) (p : M D) (env : En) (x : D) (h : AH) : SS := (p env h).then (kAug2 n f env x)
@[simp] theorem k_Aug {f : D → D → AH → R D} {p : M D} : kAug n f p env d h = (p env h).then (kAug2 n f env d) := rfl.trans rfl
@[simp] theorem e_Aug {f : D → D → AH → R D} {p : M D} : mAug n f p env h = (mVar n env h).then (kAug n f p env) := rfl.trans rfl
/-! what is walked -/
def kSeq (d : D) (h : AH) : R AI := match d with
  | .lst ds => .ok (.items ds) h
  | .scr ds => .ok (.items ds) h
  | .tup ds => .ok (.items ds) h
  | .loc n => (match h[n]? with
    | some (.lst _) => .ok (.at_ n) h
    | _ => .bad)
  | _ => .bad
@[simp] theorem k_SeqL : kSeq (.lst ds) h = .ok (.items ds) h := rfl.trans rfl
@[simp] theorem k_SeqS : kSeq (.scr ds) h = .ok (.items ds) h := rfl.trans rfl
@[simp] theorem k_SeqT : kSeq (.tup ds) h = .ok (.items ds) h := rfl.trans rfl
@[simp] theorem i_Seq {p : M D} : miSeq p env h = (p env h).bind kSeq := rfl.trans rfl
def kR1 (ds : List D) (h : AH) : R AI := match ds with
    | [.int j] => if InW j then .ok (.items (rngD 0 j)) h else .bad
    | _ => .bad
@[simp] theorem k_R1 (h1 : -(2 ^ 62) ≤ i) (h2 : i < 2 ^ 62) : kR1 [.int i] h = .ok (.items (rngD 0 i)) h := if_pos ⟨h1, h2⟩
@[simp] theorem i_R1 {p : M (List D)} : miRng1 p env h = (p env h).bind kR1 := rfl.trans rfl
def kR2 (ds : List D) (h : AH) : R AI := match ds with
    | [.int i, .int j] => if InW i ∧ InW j then .ok (.items (rngD i j)) h else .bad
    | _ => .bad
@[simp] theorem k_R2 (h1 : -(2 ^ 62) ≤ i) (h2 : i < 2 ^ 62) (h3 : -(2 ^ 62) ≤ j) (h4 : j < 2 ^ 62) : kR2 [.int i, .int j] h = .ok (.items (rngD i j)) h := if_pos ⟨⟨h1, h2⟩, ⟨h3, h4⟩⟩
@[simp] theorem i_R2 {p : M (List D)} : miRng2 p env h = (p env h).bind kR2 := rfl.trans rfl
def kFor (g : MG) (p : MS) (env : En) (a : AI) (h : AH) : SS := match a with
  | .items ds => forItems g p ds env h
  | .at_ n => forAt g p n 1000000 0 env h
@[simp] theorem k_For {g : MG} {p : MS} : kFor g p env (.items ds) h = forItems g p ds env h := rfl.trans rfl
@[simp] theorem e_For {w : MI} {g : MG} {p : MS} : mFor w g p env h = (w env h).then (kFor g p env) := rfl.trans rfl
@[simp] theorem for_nil {g : MG} {p : MS} : forItems g p [] env h = .nx env h := rfl.trans rfl
def SS.lp (r : SS) (q : MS) : SS := match r with
  | .nx env' h' => q env' h'
  | .ct env' h' => q env' h'
  | .bk env' h' => .nx env' h'
  | r => r
@[simp] theorem lp_nx {q : MS} : SS.lp (.nx env h) q = q env h := rfl.trans rfl
@[simp] theorem lp_ct {q : MS} : SS.lp (.ct env h) q = q env h := rfl.trans rfl
@[simp] theorem lp_bk {q : MS} : SS.lp (.bk env h) q = .nx env h := rfl.trans rfl
@[simp] theorem lp_rt {q : MS} : SS.lp (.rt d h) q = .rt d h := rfl.trans rfl
def kTurn (p : MS) (q : MS) (env : En) (h : AH) : SS := SS.lp (p env h) q
@[simp] theorem k_Turn {p q : MS} : kTurn p q env h = SS.lp (p env h) q := rfl.trans rfl
theorem for_cons {g : MG} {p : MS} : forItems g p (d :: ds) env h = (g d env h).then (kTurn p (forItems g p ds)) := rfl.trans rfl
def kLc (g : MG) (c : M Bool) (e : M D) (env : En) (a : AI) (h : AH) : R (List D) := match a with
  | .items ds => if ds.length ≤ sizeLine then lcItems g c e env ds h else .bad
  | .at_ n => lcAt g c e env n 1000000 0 h
@[simp] theorem k_Lc {g : MG} {c : M Bool} {e : M D} (hl : ds.length ≤ sizeLine) : kLc g c e env (.items ds) h = lcItems g c e env ds h := if_pos hl
@[simp] theorem e_Lc {w : MI} {g : MG} {c : M Bool} {e : M D} {vs : List Nat} : mLc w g c e vs env h = (w env h).bind (kLc g c e (wipeE env vs)) := rfl.trans rfl
@[simp] theorem lc_nil {g : MG} {c : M Bool} {e : M D} : lcItems g c e env [] h = .ok [] h := rfl.trans rfl
theorem lc_cons {g : MG} {c : M Bool} {e : M D} : lcItems g c e env (d :: ds) h = (g d env h).bind fun env1 h1 => (c env1 h1).bind fun b h2 => if b = true then (e env1 h2).bind fun y h3 => (lcItems g c e env ds h3).bind fun r h4 => .ok (y :: r) h4 else lcItems g c e env ds h2 := rfl.trans rfl
def kWh (c : M Bool) (p : MS) (n : Nat) (env : En) (k : Bool) (h : AH) : SS := if k = true then SS.lp (p env h) (mWhile c p n) else .nx env h
theorem wh_step {c : M Bool} {p : MS} : mWhile c p (n + 1) env h = (c env h).then (kWh c p n env) := rfl.trans rfl
@[simp] theorem k_Wh1 {c : M Bool} {p : MS} : kWh c p n env true h = SS.lp (p env h) (mWhile c p n) := rfl.trans rfl
@[simp] theorem k_Wh0 {c : M Bool} {p : MS} : kWh c p n env false h = .nx env h := rfl.trans rfl
@[simp] theorem wipe_nil : wipeE env [] = env := rfl.trans rfl
@[simp] theorem wipe_cons {v : Nat} {vs : List Nat} : wipeE env (v :: vs) = (wipeE env vs).set v none := rfl.trans rfl
/-! operators -/
@[simp] theorem o_add : addD (.int i) (.int j) h = .ok (.int (i + j)) h := rfl.trans rfl
@[simp] theorem o_addI : addI (.int i) (.int j) h = .ok (.int (i + j)) h := rfl.trans rfl
@[simp] theorem o_sub : subD (.int i) (.int j) h = .ok (.int (i - j)) h := rfl.trans rfl
theorem o_mul (c : CMul i j) : mulD (.int i) (.int j) h = .ok (.int (i * j)) h := by simp [mulD, c]
theorem o_mulL (h1 : -(2 ^ 64) < i) (h2 : i < 2 ^ 64) : mulD (.int i) (.int j) h = .ok (.int (i * j)) h := o_mul (.inl ⟨h1, h2⟩)
theorem o_mulR (h1 : -(2 ^ 64) < j) (h2 : j < 2 ^ 64) : mulD (.int i) (.int j) h = .ok (.int (i * j)) h := o_mul (.inr ⟨h1, h2⟩)
theorem o_div (h1 : 0 < j) (h2 : j < 1073741824) : divD (.int i) (.int j) h = .ok (.int (i / j)) h := by
  have : CDiv i j := ⟨h1, h2⟩
  simp [divD, this]
theorem o_pow (c : CPow i j) : powD (.int i) (.int j) h = .ok (.int (i ^ j.toNat)) h := by simp [powD, c]
theorem o_mod (h1 : 0 < j) : modD (.int i) (.int j) h = .ok (.int (i % j)) h := by simp [modD, h1]
@[simp] theorem o_cmp {f : Int → Int → Bool} : cmpD f (.int i) (.int j) h = .ok (.bl (f i j)) h := rfl.trans rfl
@[simp] theorem o_neg : negD (.int i) h = .ok (.int (-i)) h := rfl.trans rfl
@[simp] theorem o_eqI : eqD (.int i) (.int j) h = .ok (.bl (decide (i = j))) h := rfl.trans rfl
@[simp] theorem o_eqB : eqD (.bl b) (.bl c) h = .ok (.bl (decide (b = c))) h := rfl.trans rfl
@[simp] theorem o_eqS {s t : Str} : eqD (.str s) (.str t) h = .ok (.bl (decide (s = t))) h := rfl.trans rfl
@[simp] theorem o_neI : neD (.int i) (.int j) h = .ok (.bl (!decide (i = j))) h := rfl.trans rfl
@[simp] theorem o_neB : neD (.bl b) (.bl c) h = .ok (.bl (!decide (b = c))) h := rfl.trans rfl
@[simp] theorem o_neS {s t : Str} : neD (.str s) (.str t) h = .ok (.bl (!decide (s = t))) h := rfl.trans rfl
@[simp] theorem o_isN0 : isND false .non .non h = .ok (.bl true) h := rfl.trans rfl
@[simp] theorem o_isN1 : isND true .non .non h = .ok (.bl false) h := rfl.trans rfl
@[simp] theorem o_isI0 : isND false (.int i) .non h = .ok (.bl false) h := rfl.trans rfl
@[simp] theorem o_isI1 : isND true (.int i) .non h = .ok (.bl true) h := rfl.trans rfl
@[simp] theorem o_int : intD [.int i] h = .ok (.int i) h := rfl.trans rfl
@[simp] theorem o_abs : absD [.int i] h = .ok (.int (if i < 0 then -i else i)) h := rfl.trans rfl
@[simp] theorem o_max2 : max2D [.int i, .int j] h = .ok (.int (if j > i then j else i)) h := rfl.trans rfl
@[simp] theorem o_min2 : min2D [.int i, .int j] h = .ok (.int (if j < i then j else i)) h := rfl.trans rfl
theorem o_divmod (h1 : 0 < j) (h2 : j < 1073741824) : divmodD [.int i, .int j] h = .ok (.tup [.int (i / j), .int (i % j)]) h := by
  have : CDiv i j := ⟨h1, h2⟩
  simp [divmodD, this]
@[simp] theorem o_cat : catD (.lst ds) (.lst es) h = if ds.length + es.length ≤ sizeLine then .ok (ds ++ es) h else .bad := rfl.trans rfl
/-! leaving a def -/
@[simp] theorem f_T {p : MS} : mFnT n p ds h = exitR h.length (bodyR0 (p (initE n ds) h)) := rfl.trans rfl
@[simp] theorem f_K {p : MS} : mFnK n p ds h = bodyR0 (p (initE n ds) h) := rfl.trans rfl
@[simp] theorem r_nx : bodyR0 (.nx env h) = .ok .non h := rfl.trans rfl
@[simp] theorem r_rt : bodyR0 (.rt d h) = .ok d h := rfl.trans rfl
@[simp] theorem x_ok : exitR n (.ok d h) = exitD n d h := rfl.trans rfl
@[simp] theorem bw_int : below n (.int i) = true := by simp [below]
@[simp] theorem bw_bl : below n (.bl b) = true := by simp [below]
@[simp] theorem bw_str : below n (.str x) = true := by simp [below]
@[simp] theorem bw_non : below n .non = true := by simp [below]
@[simp] theorem x_same (hl : h.length = n) (hd : below n d = true) : exitD n d h = .ok d h := by
  subst hl
  unfold exitD
  rw [List.take_length]
  rw [if_pos hd]
  split <;> rfl
end
end Ab

/-! The laws' own source of numbers: what it computes, and that it stays in its bounds. -/
namespace Ab
open PySem PySem.Spec L2
def m_dSpring : MS :=
  (mSeq (mAsg (mIf (mBl (mBin (cmpD fun i j => decide (i < j)) (mVar 1) (mCB lenD (mCons (mVar 0) mNil)))) (mBin ixD (mVar 0) (mVar 1)) (mBin addD (mBin mulD (mC (.int 7)) (mVar 1)) (mC (.int 2)))) (mgName 2))
  (mSeq (mAsg (mBin addD (mC (.int 90001)) (mBin mulD (mC (.int 7919)) (mVar 1))) (mgName 3))
  (mSeq (mFor (miSeq (mFrz (mBinF catD (mFrz (mSlL (mVar 0) mNoPart (mPart (mC (.int 8))))) (mFrz (mLst (mCons (mVar 2) mNil)))))) (mgName 4) (mAsg (mBin modD (mCB intD (mCons (mBin addD (mBin addD (mBin mulD (mVar 3) (mC (.int 48271))) (mCB intD (mCons (mVar 4) mNil))) (mBin mulD (mC (.int 11)) (mVar 1))) mNil)) (mC (.int 2147483647))) (mgName 3)))
  (mRet (mOwn (mLst (mCons (mIf (mOrT (mBl (mBin (cmpD fun i j => decide (i < j)) (mVar 2) (mC (.int 0)))) (mBl (mBin (cmpD fun i j => decide (j ≤ i)) (mVar 2) (mBin powD (mC (.int 10)) (mC (.int 18)))))) (mCB absD (mCons (mVar 2) mNil)) (mC (.int 0))) (mCons (mVar 3) (mCons (mC (.int 0)) mNil)))))))))
def dSpring : Fn := mFnK 5 m_dSpring
def m_dDraw : MS :=
  (mSeq (mAsg (mBin addD (mBin ixD (mVar 0) (mC (.int 2))) (mC (.int 1))) (mgSub (mVar 0) (mC (.int 2))))
  (mSeq (mAsg (mBin modD (mCB intD (mCons (mBin addD (mBin addD (mBin mulD (mBin ixD (mVar 0) (mC (.int 1))) (mC (.int 69621))) (mBin mulD (mC (.int 40503)) (mBin ixD (mVar 0) (mC (.int 2))))) (mC (.int 1))) mNil)) (mC (.int 2147483647))) (mgSub (mVar 0) (mC (.int 1))))
  (mSeq (mIfS (mBl (mBin (cmpD fun i j => decide (j < i)) (mBin ixD (mVar 0) (mC (.int 0))) (mC (.int 0)))) (mSeq (mAsg (mCB divmodD (mCons (mBin ixD (mVar 0) (mC (.int 0))) (mCons (mVar 1) mNil))) (mgTup 2 (mgCons (mgSub (mVar 0) (mC (.int 0))) (mgCons (mgName 2) mgNil))))
  (mRet (mVar 2))) mNext)
  (mSeq (mAsg (mBin addD (mBin ixD (mVar 0) (mC (.int 1))) (mC (.int 12345))) (mgName 3))
  (mSeq (mAsg (mBin modD (mCB intD (mCons (mBin addD (mBin mulD (mVar 3) (mBin ixD (mVar 0) (mC (.int 1)))) (mBin ixD (mVar 0) (mC (.int 2)))) mNil)) (mC (.int 2147483629))) (mgName 4))
  (mRet (mBin modD (mCB intD (mCons (mBin divD (mVar 4) (mC (.int 256))) mNil)) (mVar 1))))))))
def dDraw : Fn := mFnT 5 m_dDraw
def m_dOf : MS :=
  (mRet (mBin ixD (mVar 1) (mCall 2 dDraw (mCons (mVar 0) (mCons (mCB lenD (mCons (mVar 1) mNil)) mNil)))))
def dOf : Fn := mFnT 2 m_dOf
section
variable {h h' : AH} {n m : Nat} {x y z d : D} {env : En} {a b c k : Int}
theorem ix_0 (e : h[n]? = some (.lst [x, y, z])) : ixD (.loc n) (.int 0) h = .ok x h := by simp [ixD, seqD, e, atI, ixN]
theorem ix_1 (e : h[n]? = some (.lst [x, y, z])) : ixD (.loc n) (.int 1) h = .ok y h := by simp [ixD, seqD, e, atI, ixN]
theorem ix_2 (e : h[n]? = some (.lst [x, y, z])) : ixD (.loc n) (.int 2) h = .ok z h := by simp [ixD, seqD, e, atI, ixN]
def kSub (env : En) (d o i : D) (h : AH) : R En := match o, i with
  | .loc n, .int k => (match h[n]? with
    | some (.lst ds) => (match ixN ds.length k with
      | some j => .ok env (h.set n (.lst (ds.set j d)))
      | none => .bad)
    | _ => .bad)
  | _, _ => .bad
@[simp] theorem e_Sub {p q : M D} : mgSub p q d env h = (p env h).bind (kQ q env (kSub env d)) := rfl.trans rfl
theorem k_Sub0 (e : h[n]? = some (.lst [x, y, z])) : kSub env d (.loc n) (.int 0) h = .ok env (h.set n (.lst [d, y, z])) := by simp [kSub, e, ixN]
theorem k_Sub1 (e : h[n]? = some (.lst [x, y, z])) : kSub env d (.loc n) (.int 1) h = .ok env (h.set n (.lst [x, d, z])) := by simp [kSub, e, ixN]
theorem k_Sub2 (e : h[n]? = some (.lst [x, y, z])) : kSub env d (.loc n) (.int 2) h = .ok env (h.set n (.lst [x, y, d])) := by simp [kSub, e, ixN]
@[simp] theorem k_SubS0 (e : n < h.length) : kSub env d (.loc n) (.int 0) (h.set n (.lst [x, y, z])) = .ok env (h.set n (.lst [d, y, z])) := by rw [k_Sub0 (List.getElem?_set_self e), List.set_set]
@[simp] theorem k_SubS1 (e : n < h.length) : kSub env d (.loc n) (.int 1) (h.set n (.lst [x, y, z])) = .ok env (h.set n (.lst [x, d, z])) := by rw [k_Sub1 (List.getElem?_set_self e), List.set_set]
@[simp] theorem k_SubS2 (e : n < h.length) : kSub env d (.loc n) (.int 2) (h.set n (.lst [x, y, z])) = .ok env (h.set n (.lst [x, y, d])) := by rw [k_Sub2 (List.getElem?_set_self e), List.set_set]
@[simp] theorem ix_S0 (e : n < h.length) : ixD (.loc n) (.int 0) (h.set n (.lst [x, y, z])) = .ok x (h.set n (.lst [x, y, z])) := ix_0 (List.getElem?_set_self e)
@[simp] theorem ix_S1 (e : n < h.length) : ixD (.loc n) (.int 1) (h.set n (.lst [x, y, z])) = .ok y (h.set n (.lst [x, y, z])) := ix_1 (List.getElem?_set_self e)
@[simp] theorem ix_S2 (e : n < h.length) : ixD (.loc n) (.int 2) (h.set n (.lst [x, y, z])) = .ok z (h.set n (.lst [x, y, z])) := ix_2 (List.getElem?_set_self e)
@[simp] theorem ixN30 : ixN 3 0 = some 0 := rfl.trans rfl
@[simp] theorem ixN31 : ixN 3 1 = some 1 := rfl.trans rfl
@[simp] theorem ixN32 : ixN 3 2 = some 2 := rfl.trans rfl
theorem lt_of_get {α : Type} {l : List α} {n : Nat} {x : α} (e : l[n]? = some x) : n < l.length := by
  rcases Nat.lt_or_ge n l.length with h | h
  · exact h
  · rw [List.getElem?_eq_none h] at e; cases e
/-- a spring stands at n -/
def Sp3 (h : AH) (n : Nat) : Prop := ∃ a b c : Int, h[n]? = some (.lst [.int a, .int b, .int c]) ∧ 0 ≤ a ∧ 0 ≤ b ∧ b < 2147483647
theorem draw_run (e : h[n]? = some (.lst [.int a, .int b, .int c])) (ha : 0 ≤ a) (hb : 0 ≤ b) (hb2 : b < 2147483647) (hk : 0 < k) (hk2 : k < 1073741824) :
    ∃ d a' b' c' : Int, dDraw [.loc n, .int k] h = .ok (.int d) (h.set n (.lst [.int a', .int b', .int c'])) ∧ 0 ≤ d ∧ d < k ∧ 0 ≤ a' ∧ 0 ≤ b' ∧ b' < 2147483647 := by
  have hn := lt_of_get e
  have m1 : ∀ {h : AH}, mulD (.int b) (.int 69621) h = .ok (.int (b * 69621)) h := o_mulR (by decide) (by decide)
  have m2 : ∀ {h : AH}, mulD (.int 40503) (.int (c + 1)) h = .ok (.int (40503 * (c + 1))) h := o_mulL (by decide) (by decide)
  have d1 : ∀ {i : Int} {h : AH}, modD (.int i) (.int 2147483647) h = .ok (.int (i % 2147483647)) h := o_mod (by decide)
  have d2 : ∀ {i : Int} {h : AH}, modD (.int i) (.int 2147483629) h = .ok (.int (i % 2147483629)) h := o_mod (by decide)
  have d3 : ∀ {i : Int} {h : AH}, divD (.int i) (.int 256) h = .ok (.int (i / 256)) h := o_div (by decide) (by decide)
  have d4 : ∀ {i : Int} {h : AH}, modD (.int i) (.int k) h = .ok (.int (i % k)) h := o_mod hk
  have d5 : ∀ {h : AH}, divmodD [.int a, .int k] h = .ok (.tup [.int (a / k), .int (a % k)]) h := o_divmod hk hk2
  have nb := Int.emod_nonneg (b * 69621 + 40503 * (c + 1) + 1) (show (2147483647 : Int) ≠ 0 by decide)
  have lb := Int.emod_lt_of_pos (b * 69621 + 40503 * (c + 1) + 1) (show (0 : Int) < 2147483647 by decide)
  have m3 : ∀ {h : AH}, mulD (.int ((b * 69621 + 40503 * (c + 1) + 1) % 2147483647 + 12345)) (.int ((b * 69621 + 40503 * (c + 1) + 1) % 2147483647)) h = .ok (.int (((b * 69621 + 40503 * (c + 1) + 1) % 2147483647 + 12345) * ((b * 69621 + 40503 * (c + 1) + 1) % 2147483647))) h := o_mulR (by omega) (by omega)
  have i0 := ix_0 e
  have i1 := ix_1 e
  have i2 := ix_2 e
  have s0 : ∀ {env : En} {d : D}, kSub env d (.loc n) (.int 2) h = .ok env (h.set n (.lst [.int a, .int b, d])) := k_Sub2 e
  by_cases h0 : 0 < a
  · refine ⟨a % k, a / k, (b * 69621 + 40503 * (c + 1) + 1) % 2147483647, c + 1, ?_, Int.emod_nonneg _ (by omega), Int.emod_lt_of_pos _ hk, Int.ediv_nonneg ha (by omega), nb, lb⟩
    simp [dDraw, m_dDraw, initE, i0, i1, i2, s0, hn, m1, m2, m3, d1, d2, d3, d4, d5, h0]
  · refine ⟨(((b * 69621 + 40503 * (c + 1) + 1) % 2147483647 + 12345) * ((b * 69621 + 40503 * (c + 1) + 1) % 2147483647) + (c + 1)) % 2147483629 / 256 % k, a, (b * 69621 + 40503 * (c + 1) + 1) % 2147483647, c + 1, ?_, Int.emod_nonneg _ (by omega), Int.emod_lt_of_pos _ hk, ha, nb, lb⟩
    simp [dDraw, m_dDraw, initE, i0, i1, i2, s0, hn, m1, m2, m3, d1, d2, d3, d4, d5, h0]
/-- what a draw leaves -/
def Dr (h : AH) (n : Nat) (h' : AH) : Prop := Sp3 h' n ∧ h'.length = h.length ∧ ∀ i, i ≠ n → h'[i]? = h[i]?
theorem Dr.refl (s : Sp3 h n) : Dr h n h := ⟨s, rfl, fun _ _ => rfl⟩
theorem Dr.trans {h'' : AH} (a : Dr h n h') (b : Dr h' n h'') : Dr h n h'' := ⟨b.1, b.2.1.trans a.2.1, fun i hi => (b.2.2 i hi).trans (a.2.2 i hi)⟩
theorem draw_ok (s : Sp3 h n) (hk : 0 < k) (hk2 : k < 1073741824) : ∃ (d : Int) (h' : AH), dDraw [.loc n, .int k] h = .ok (.int d) h' ∧ 0 ≤ d ∧ d < k ∧ Dr h n h' := by
  obtain ⟨a, b, c, e, ha, hb, hb2⟩ := s
  obtain ⟨d, a', b', c', q, h1, h2, h3, h4, h5⟩ := draw_run e ha hb hb2 hk hk2
  exact ⟨d, _, q, h1, h2, ⟨a', b', c', List.getElem?_set_self (lt_of_get e), h3, h4, h5⟩, List.length_set, fun i hi => List.getElem?_set_ne (Ne.symm hi)⟩
theorem atI_mem {α : Type} {l : List α} {d : Int} (h1 : 0 ≤ d) (h2 : d < l.length) : ∃ x, atI l d = some x ∧ x ∈ l := by
  have h3 : d.toNat < l.length := by omega
  refine ⟨l[d.toNat], ?_, List.getElem_mem h3⟩
  unfold atI ixN
  rw [if_pos h1, if_pos h2]
  exact List.getElem?_eq_getElem h3
/-- one of a menu -/
theorem of_ok {ds : List D} (s : Sp3 h n) (hk : 0 < ds.length) (hk2 : ds.length < 1000000) (hp : ∀ x ∈ ds, ∀ m, below m x = true) : ∃ (x : D) (h' : AH), dOf [.loc n, .lst ds] h = .ok x h' ∧ x ∈ ds ∧ Dr h n h' := by
  obtain ⟨d, h', e, h1, h2, t⟩ := draw_ok (k := (ds.length : Int)) s (by omega) (by omega)
  obtain ⟨x, ex, mx⟩ := atI_mem (l := ds) h1 (by omega)
  have hl : lenD [.lst ds] h = .ok (.int ds.length) h := rfl
  have hx : ixD (.lst ds) (.int d) h' = .ok x h' := by simp [ixD, seqD, ex]
  have hb : below h.length x = true := hp x mx _
  exact ⟨x, h', by simp [dOf, m_dOf, initE, hl, e, hx, t.2.1, hb], mx, t⟩
theorem for_inv {g : MG} {p : MS} (I : En → AH → Prop) : ∀ {ds : List D} {env : En} {h : AH}, I env h → (∀ d ∈ ds, ∀ env h, I env h → ∃ env1 h1 env' h', g d env h = .ok env1 h1 ∧ p env1 h1 = .nx env' h' ∧ I env' h') → ∃ env' h', forItems g p ds env h = .nx env' h' ∧ I env' h'
  | [], env, h, h0, _ => ⟨env, h, rfl, h0⟩
  | d :: ds, env, h, h0, st => by
    obtain ⟨env1, h1, env2, h2, e1, e2, i2⟩ := st d (List.mem_cons_self ..) env h h0
    obtain ⟨env3, h3, e3, i3⟩ := for_inv I (ds := ds) i2 fun d hd => st d (List.mem_cons_of_mem _ hd)
    exact ⟨env3, h3, by rw [for_cons, e1]; simp [e2, e3], i3⟩
theorem rngD_mem {lo hi : Int} {d : D} (m : d ∈ rngD lo hi) : ∃ i : Int, d = .int i ∧ lo ≤ i ∧ i < hi := by
  obtain ⟨i, hi1, rfl⟩ := List.mem_map.mp m
  have := List.mem_range.mp hi1
  exact ⟨lo + (i : Nat), rfl, by omega, by omega⟩
theorem rngD_len {lo hi : Int} : (rngD lo hi).length = (hi - lo).toNat := by simp [rngD]
theorem lc_true {g : MG} {e : M D} : ∀ {ds : List D} {h : AH}, (∀ d ∈ ds, ∀ h, ∃ env1 h1 h', g d env h = .ok env1 h1 ∧ e env1 h1 = .ok (.bl true) h') → ∃ h', lcItems g (fun _ h => .ok true h) e env ds h = .ok (List.replicate ds.length (.bl true)) h'
  | [], h, _ => ⟨h, rfl⟩
  | d :: ds, h, st => by
    obtain ⟨env1, h1, h2, e1, e2⟩ := st d (List.mem_cons_self ..) h
    obtain ⟨h3, e3⟩ := lc_true (ds := ds) (h := h2) fun d hd => st d (List.mem_cons_of_mem _ hd)
    exact ⟨h3, by rw [lc_cons, e1]; simp [e2, e3, List.replicate_succ]⟩
theorem all_true {n : Nat} : allD false [.lst (List.replicate n (D.bl true))] h = .ok (.bl true) h := by
  have e : blsD (List.replicate n (D.bl true)) = some (List.replicate n true) := by
    induction n with
    | zero => rfl
    | succ n ih => rw [List.replicate_succ]; simp [blsD, ih, List.replicate_succ]
  have e2 : (List.replicate n true).all id = true := by simp
  show (match blsD (List.replicate n (D.bl true)) with | some bs => R.ok (D.bl (if false = true then bs.any id else bs.all id)) h | none => .bad) = _
  rw [e]
  simp
theorem spring_ok {ns : List Int} (hk : 0 ≤ k) (hk2 : k < 1000) (hl : ns.length ≤ 63) : ∃ a b c : Int, dSpring [.scr (ns.map .int), .int k] h = .ok (.loc h.length) (h ++ [.lst [.int a, .int b, .int c]]) ∧ 0 ≤ a ∧ 0 ≤ b ∧ b < 2147483647 := by
  have l1 : lenD [.scr (ns.map .int)] h = .ok (.int ns.length) h := by simp [lenD, seqD]
  have m1 : ∀ {h : AH}, mulD (.int 7) (.int k) h = .ok (.int (7 * k)) h := o_mulL (by decide) (by decide)
  have m2 : ∀ {h : AH}, mulD (.int 7919) (.int k) h = .ok (.int (7919 * k)) h := o_mulL (by decide) (by decide)
  have m4 : ∀ {h : AH}, mulD (.int 11) (.int k) h = .ok (.int (11 * k)) h := o_mulL (by decide) (by decide)
  have m3 : ∀ {i : Int} {h : AH}, mulD (.int i) (.int 48271) h = .ok (.int (i * 48271)) h := o_mulR (by decide) (by decide)
  have d1 : ∀ {i : Int} {h : AH}, modD (.int i) (.int 2147483647) h = .ok (.int (i % 2147483647)) h := o_mod (by decide)
  have p1 : ∀ {h : AH}, powD (.int 10) (.int 18) h = .ok (.int 1000000000000000000) h := fun {h} => (o_pow (by unfold CPow; decide)).trans rfl
  -- the cell
  have hc : ∃ cell : Int, mIf (mBl (mBin (cmpD fun i j => decide (i < j)) (mVar 1) (mCB lenD (mCons (mVar 0) mNil)))) (mBin ixD (mVar 0) (mVar 1)) (mBin addD (mBin mulD (mC (.int 7)) (mVar 1)) (mC (.int 2))) (initE 5 [.scr (ns.map .int), .int k]) h = .ok (.int cell) h := by
    by_cases q : k < ns.length
    · obtain ⟨x, ex, mx⟩ := atI_mem (l := ns.map D.int) hk (by simpa using q)
      obtain ⟨i, _, rfl⟩ := List.mem_map.mp mx
      have hx : ixD (.scr (ns.map .int)) (.int k) h = .ok (.int i) h := by simp [ixD, seqD, ex]
      exact ⟨i, by simp [initE, l1, q, hx]⟩
    · exact ⟨7 * k + 2, by simp [initE, l1, q, m1]⟩
  obtain ⟨cell, hc⟩ := hc
  have sl : mSlL (mVar 0) mNoPart (mPart (mC (.int 8))) [some (.scr (ns.map .int)), some (.int k), some (.int cell), some (.int (90001 + 7919 * k)), none] h = .ok (cutL (ns.map .int) none (some 8)) h := rfl
  have ct : catD (.lst (cutL (ns.map .int) none (some 8))) (.lst [.int cell]) h = .ok (cutL (ns.map .int) none (some 8) ++ [.int cell]) h := by
    rw [o_cat, if_pos]
    have : (cutL (ns.map D.int) none (some 8)).length ≤ 63 := by
      unfold cutL
      simp only [List.length_take, List.length_drop, List.length_map]
      omega
    have : (63 : Nat) + 1 ≤ sizeLine := by decide
    simp
    omega
  have hi : ∀ d ∈ cutL (ns.map D.int) none (some 8) ++ [.int cell], ∃ i, d = .int i := by
    intro d m
    rcases List.mem_append.mp m with m | m
    · obtain ⟨i, _, e⟩ := List.mem_map.mp (List.mem_of_mem_drop (List.mem_of_mem_take m))
      exact ⟨i, e.symm⟩
    · exact ⟨cell, List.mem_singleton.mp m⟩
  obtain ⟨env', h', ef, ⟨b, x, rfl, rfl, hb, hb2⟩⟩ := for_inv (g := mgName 4) (p := mAsg (mBin modD (mCB intD (mCons (mBin addD (mBin addD (mBin mulD (mVar 3) (mC (.int 48271))) (mCB intD (mCons (mVar 4) mNil))) (mBin mulD (mC (.int 11)) (mVar 1))) mNil)) (mC (.int 2147483647))) (mgName 3))
    (fun env h' => ∃ (b : Int) (x : Option D), env = [some (.scr (ns.map .int)), some (.int k), some (.int cell), some (.int b), x] ∧ h' = h ∧ 0 ≤ b ∧ b < 2147483647) (ds := cutL (ns.map D.int) none (some 8) ++ [.int cell])
    (env := [some (.scr (ns.map .int)), some (.int k), some (.int cell), some (.int (90001 + 7919 * k)), none]) (h := h) ⟨_, _, rfl, rfl, by omega, by omega⟩ (by
      intro d md env h1 ⟨b, x, e1, e2, h3, h4⟩
      subst e1 e2
      obtain ⟨i, rfl⟩ := hi d md
      refine ⟨_, _, _, _, rfl, ?_, (b * 48271 + i + 11 * k) % 2147483647, some (.int i), rfl, rfl, Int.emod_nonneg _ (by decide), Int.emod_lt_of_pos _ (by decide)⟩
      simp [m3, m4, d1])
  refine ⟨if cell < 0 ∨ cell ≥ 1000000000000000000 then (if cell < 0 then -cell else cell) else 0, b, 0, ?_, ?_, hb, hb2⟩
  · simp only [dSpring, m_dSpring, f_K, e_Seq, e_Asg, hc]
    by_cases q1 : cell < 0 <;> by_cases q2 : (1000000000000000000 : Int) ≤ cell <;> simp [initE, m2, sl, ct, ef, p1, q1, q2]
  · split
    · split <;> omega
    · omega
theorem sp3_new {a b c : Int} (h1 : 0 ≤ a) (h2 : 0 ≤ b) (h3 : b < 2147483647) : Sp3 (h ++ [.lst [.int a, .int b, .int c]]) h.length := ⟨a, b, c, by simp, h1, h2, h3⟩
end
end Ab

/-! Least factors and powers of one prime, in plain numbers. -/
namespace Ab
open PySem PySem.Spec L2
structure IsMf (v p : Nat) : Prop where
  two : 2 ≤ p
  dvd : p ∣ v
  least : ∀ d, 2 ≤ d → d < p → ¬ d ∣ v
theorem IsMf.uniq {v p q : Nat} (a : IsMf v p) (b : IsMf v q) : p = q := by
  rcases Nat.lt_trichotomy p q with h | h | h
  · exact absurd a.dvd (b.least p a.two h)
  · exact h
  · exact absurd b.dvd (a.least q b.two h)
/-- v is a power of its least factor p (some p), or is not (none) -/
def Pp (v : Nat) (o : Option Nat) : Prop := ∃ p, IsMf v p ∧ ((o = some p ∧ ∃ k, v = p ^ k) ∨ (o = none ∧ ¬ ∃ k, v = p ^ k))
theorem Pp.uniq {v : Nat} {o q : Option Nat} (a : Pp v o) (b : Pp v q) : o = q := by
  obtain ⟨p, hp, a⟩ := a
  obtain ⟨p', hp', b⟩ := b
  have := hp.uniq hp'
  subst this
  rcases a with ⟨rfl, a⟩ | ⟨rfl, a⟩ <;> rcases b with ⟨rfl, b⟩ | ⟨rfl, b⟩
  · rfl
  · exact absurd a b
  · exact absurd b a
  · rfl
def IsRest (p v r : Nat) : Prop := ∃ k, v = p ^ k * r ∧ ¬ p ∣ r
theorem rest_one {p v r : Nat} (hp : 2 ≤ p) (h : IsRest p v r) : (∃ j, v = p ^ j) ↔ r = 1 := by
  obtain ⟨k, rfl, hr⟩ := h
  constructor
  · rintro ⟨j, e⟩
    have pos : ∀ n, 0 < p ^ n := fun n => Nat.pow_pos (by omega)
    rcases Nat.lt_or_ge k j with q | q
    · obtain ⟨m, rfl⟩ := Nat.exists_eq_add_of_lt q
      have e2 : r = p ^ (m + 1) := Nat.eq_of_mul_eq_mul_left (pos k) (by rw [e, ← Nat.pow_add, Nat.add_assoc])
      exact absurd ⟨p ^ m, by rw [e2, Nat.pow_succ, Nat.mul_comm]⟩ hr
    · obtain ⟨m, rfl⟩ := Nat.exists_eq_add_of_le q
      rw [Nat.pow_add, Nat.mul_assoc] at e
      have e2 : p ^ m * r = 1 := Nat.eq_of_mul_eq_mul_left (pos j) (by rw [e, Nat.mul_one])
      exact Nat.eq_one_of_mul_eq_one_left e2
  · rintro rfl
    exact ⟨k, by rw [Nat.mul_one]⟩
theorem Pp.of_rest {v p r : Nat} (h : IsMf v p) (q : IsRest p v r) : Pp v (if r = 1 then some p else none) := by
  refine ⟨p, h, ?_⟩
  by_cases z : r = 1
  · rw [if_pos z]; exact .inl ⟨rfl, (rest_one h.two q).mpr z⟩
  · rw [if_neg z]; exact .inr ⟨rfl, fun y => z ((rest_one h.two q).mp y)⟩
/-- no factor below f, and f * f > v: v is its own least factor -/
theorem mf_self {v f : Nat} (hv : 2 ≤ v) (nd : ∀ d, 2 ≤ d → d < f → ¬ d ∣ v) (h : v < f * f) : IsMf v v := by
  refine ⟨hv, Nat.dvd_refl v, fun d h2 hd ⟨e, he⟩ => ?_⟩
  have he2 : 2 ≤ e := by
    rcases Nat.lt_or_ge e 2 with q | q
    · have : e = 0 ∨ e = 1 := by omega
      rcases this with rfl | rfl
      · rw [Nat.mul_zero] at he; omega
      · rw [Nat.mul_one] at he; omega
    · exact q
  rcases Nat.lt_or_ge d f with q | q
  · exact nd d h2 q ⟨e, he⟩
  · rcases Nat.lt_or_ge e f with z | z
    · exact nd e he2 z ⟨d, by rw [he, Nat.mul_comm]⟩
    · have := Nat.mul_le_mul q z
      omega
theorem pp_self {v f : Nat} (hv : 2 ≤ v) (nd : ∀ d, 2 ≤ d → d < f → ¬ d ∣ v) (h : v < f * f) : Pp v (some v) := ⟨v, mf_self hv nd h, .inl ⟨rfl, 1, by rw [Nat.pow_one]⟩⟩
def optD : Option Nat → D
  | none => .non
  | some p => .int p
/-- the prime that both are powers of -/
def shO (a b : Option Nat) : Option Nat := if a = b then a else none
/-- the program's answer -/
def Shp (n m : Nat) (o : Option Nat) : Prop := ((n = 1 ∨ m = 1) ∧ o = none) ∨ (n ≠ 1 ∧ m ≠ 1 ∧ ∃ a b, Pp n a ∧ Pp m b ∧ o = shO a b)
theorem Shp.uniq {n m : Nat} {o q : Option Nat} (x : Shp n m o) (y : Shp n m q) : o = q := by
  rcases x with ⟨h, rfl⟩ | ⟨h1, h2, a, b, pa, pb, rfl⟩ <;> rcases y with ⟨k, rfl⟩ | ⟨k1, k2, c, d, pc, pd, rfl⟩
  · rfl
  · omega
  · omega
  · rw [pa.uniq pc, pb.uniq pd]
/-! the two loops -/
section
variable {h : AH}
abbrev cPrime : M Bool := mAndT (mBl (mBin (cmpD fun i j => decide (i ≤ j)) (mBin mulD (mVar 1) (mVar 1)) (mVar 0))) (mBl (mBin (cmpD fun i j => decide (j < i)) (mBin modD (mVar 0) (mVar 1)) (mC (.int 0))))
abbrev bPrime : MS := mAug 1 addI (mC (.int 1))
theorem loop_prime {v : Nat} (hv : v ≤ 1000000000) : ∀ n f : Nat, 2 ≤ f → (∀ d, 2 ≤ d → d < f → ¬ d ∣ v) → f ≤ 31623 → 31624 ≤ n + f →
    ∃ f' : Nat, mWhile cPrime bPrime n [some (.int v), some (.int f)] h = .nx [some (.int v), some (.int f')] h ∧ 2 ≤ f' ∧ f' ≤ 31623 ∧ (∀ d, 2 ≤ d → d < f' → ¬ d ∣ v) ∧ (v < f' * f' ∨ f' ∣ v)
  | 0, f, h2, nd, hf, hn => by omega
  | n + 1, f, h2, nd, hf, hn => by
    rw [wh_step]
    have m1 : ∀ {h : AH}, mulD (.int f) (.int f) h = .ok (.int (f * f)) h := o_mulL (by omega) (by omega)
    have d1 : ∀ {h : AH}, modD (.int v) (.int f) h = .ok (.int (v % f)) h := o_mod (by omega)
    by_cases q : f * f ≤ v
    · have q' : (f : Int) * f ≤ v := by exact_mod_cast q
      have hf2 : f ≤ 31622 := by
        rcases Nat.lt_or_ge f 31623 with z | z
        · omega
        · have := Nat.mul_le_mul z z
          omega
      by_cases r : f ∣ v
      · refine ⟨f, ?_, h2, hf, nd, .inr r⟩
        have r' : ¬ (0 : Int) < (v : Int) % f := by
          have := Nat.mod_eq_zero_of_dvd r
          omega
        simp [m1, d1, q', r']
      · have r' : (0 : Int) < (v : Int) % f := by
          have : v % f ≠ 0 := fun z => r (Nat.dvd_of_mod_eq_zero z)
          omega
        obtain ⟨f', e, z⟩ := loop_prime hv n (f + 1) (by omega) (fun d h2 hd => by
          rcases Nat.lt_or_ge d f with y | y
          · exact nd d h2 y
          · have : d = f := by omega
            subst this; exact r) (by omega) (by omega)
        refine ⟨f', ?_, z⟩
        have e : mWhile cPrime bPrime n [some (.int v), some (.int ((f : Int) + 1))] h = .nx [some (.int v), some (.int f')] h := e
        simp [m1, d1, q', r', e]
    · have q' : ¬ (f : Int) * f ≤ v := by exact_mod_cast q
      refine ⟨f, ?_, h2, hf, nd, .inl (by omega)⟩
      simp [m1, d1, q']
abbrev cRest : M Bool := mBl (mBin eqD (mBin modD (mVar 0) (mVar 1)) (mC (.int 0)))
abbrev bRest : MS := mAsg (mBin divD (mVar 0) (mVar 1)) (mgName 0)
theorem loop_rest {p : Nat} (hp : 2 ≤ p) (hp2 : p < 1073741824) : ∀ m n r : Nat, 0 < r → r < 2 ^ m → m ≤ n → ∃ r' : Nat, mWhile cRest bRest n [some (.int r), some (.int p)] h = .nx [some (.int r'), some (.int p)] h ∧ IsRest p r r' ∧ 0 < r'
  | 0, n, r, h0, hr, hn => by simp at hr; omega
  | m + 1, 0, r, h0, hr, hn => by omega
  | m + 1, n + 1, r, h0, hr, hn => by
    rw [wh_step]
    have d1 : ∀ {h : AH}, modD (.int r) (.int p) h = .ok (.int (r % p)) h := o_mod (by omega)
    have d2 : ∀ {h : AH}, divD (.int r) (.int p) h = .ok (.int (r / p)) h := o_div (by omega) (by omega)
    by_cases q : p ∣ r
    · have q' : (r : Int) % p = 0 := by
        have := Nat.mod_eq_zero_of_dvd q
        omega
      obtain ⟨s, rfl⟩ := q
      have hs : 0 < s := by
        rcases Nat.eq_zero_or_pos s with z | z
        · subst z; simp at h0
        · exact z
      have hs2 : s < 2 ^ m := by
        have : 2 * s ≤ p * s := Nat.mul_le_mul_right s hp
        rw [Nat.pow_succ] at hr
        omega
      obtain ⟨r', e, ⟨k, e2, e3⟩, e4⟩ := loop_rest hp hp2 m n s hs hs2 (by omega)
      have dv : ((p * s : Nat) : Int) / p = s := by
        rw [Int.natCast_mul, Int.mul_comm]
        exact Int.mul_ediv_cancel _ (by omega)
      rw [dv] at d2
      refine ⟨r', ?_, ⟨k + 1, by rw [e2, Nat.pow_succ, Nat.mul_comm (p ^ k) p, Nat.mul_assoc], e3⟩, e4⟩
      
      simp only [e_Bl, e_Bin, e_V0, b_ok, k_Q, e_V1, d1, q', e_C, o_eqI, k_Bl, t_ok, decide_true, k_Wh1, e_Asg, d2, k_Asg, g_Name, List.set_cons_zero, k_Nx, lp_nx, e]
    · have q' : ¬ (r : Int) % p = 0 := by
        have : r % p ≠ 0 := fun z => q (Nat.dvd_of_mod_eq_zero z)
        omega
      refine ⟨r, ?_, ⟨0, by simp, q⟩, h0⟩
      simp [d1, q']
end
end Ab

/-! repr of data, comprehensions with a test, counted loops. -/
namespace Ab
open PySem PySem.Spec L2
section
variable {h : AH} {d : D} {ds : List D} {c c' k n : Nat}
/-- what can be shown, at a cost -/
def Sh (d : D) (c k : Nat) : Prop := ∃ p, toPy0 d = some p ∧ p.showable = true ∧ noDict p = true ∧ cost p ≤ c ∧ p.depth ≤ k
def ShL (ds : List D) (c k : Nat) : Prop := ∃ ps, toPyL ds = some ps ∧ PyData.showableAll ps = true ∧ noDictL ps = true ∧ costL ps ≤ c ∧ PyData.depthAll ps ≤ k
theorem Sh.int {i : Int} (hi : i.natAbs < 2 ^ 200) : Sh (.int i) 2000 1 := by
  refine ⟨.int i, by simp [toPy0], ?_, by simp [noDict], by simp [cost], by simp [PyData.depth]⟩
  have : i.natAbs.log2 < 1920 := by
    by_cases z : i.natAbs = 0
    · rw [z]; decide
    · have := (Nat.log2_lt z).mpr hi
      omega
  simp [PyData.showable, this]
theorem Sh.bl {b : Bool} : Sh (.bl b) 2000 1 := ⟨.bool b, by simp [toPy0], by simp [PyData.showable], by simp [noDict], by simp [cost], by simp [PyData.depth]⟩
theorem Sh.non : Sh .non 2000 1 := ⟨.none, by simp [toPy0], by simp [PyData.showable], by simp [noDict], by simp [cost], by simp [PyData.depth]⟩
theorem ShL.nil : ShL [] 0 0 := ⟨[], by simp [toPyL], by simp [PyData.showableAll], by simp [noDictL], by simp [costL], by simp [PyData.depthAll]⟩
theorem ShL.cons {k' : Nat} (a : Sh d c k) (r : ShL ds c' k') : ShL (d :: ds) (c + 2 + c') (max k k') := by
  obtain ⟨p, e, h1, h2, h3, h4⟩ := a
  obtain ⟨ps, e', g1, g2, g3, g4⟩ := r
  refine ⟨p :: ps, by simp [toPyL, e, e'], by simp [PyData.showableAll, h1, g1], by simp [noDictL, h2, g2], by simp [costL]; omega, by simp [PyData.depthAll]; omega⟩
theorem ShL.le {k' : Nat} (r : ShL ds c k) (hc : c ≤ c') (hk : k ≤ k') : ShL ds c' k' := by
  obtain ⟨ps, e', g1, g2, g3, g4⟩ := r
  exact ⟨ps, e', g1, g2, Nat.le_trans g3 hc, Nat.le_trans g4 hk⟩
theorem Sh.le {k' : Nat} (r : Sh d c k) (hc : c ≤ c') (hk : k ≤ k') : Sh d c' k' := by
  obtain ⟨ps, e', g1, g2, g3, g4⟩ := r
  exact ⟨ps, e', g1, g2, Nat.le_trans g3 hc, Nat.le_trans g4 hk⟩
theorem Sh.tup (r : ShL ds c k) : Sh (.tup ds) (c + 4) (k + 1) := by
  obtain ⟨ps, e', g1, g2, g3, g4⟩ := r
  exact ⟨.tuple ps, by simp [toPy0, e'], by simp [PyData.showable, g1], by simp [noDict, g2], by simp [cost, g3], by simp [PyData.depth, g4]⟩
theorem Sh.lst (r : ShL ds c k) : Sh (.lst ds) (c + 4) (k + 1) := by
  obtain ⟨ps, e', g1, g2, g3, g4⟩ := r
  exact ⟨.list ps, by simp [toPy0, e'], by simp [PyData.showable, g1], by simp [noDict, g2], by simp [cost, g3], by simp [PyData.depth, g4]⟩
theorem ShL.all {b kk : Nat} : ∀ {ds : List D}, (∀ d ∈ ds, Sh d b kk) → ShL ds (ds.length * (b + 2)) kk
  | [], _ => ShL.nil.le (Nat.zero_le _) (Nat.zero_le _)
  | d :: ds, a => ((a d (List.mem_cons_self ..)).le (Nat.le_refl _) (Nat.le_refl _) |>.elim fun p hp => ShL.cons ⟨p, hp⟩ (ShL.all (ds := ds) fun x hx => a x (List.mem_cons_of_mem _ hx))).le (by rw [List.length_cons, Nat.succ_mul]; omega) (by omega)
theorem Sh.opt {o : Option Nat} (hb : ∀ p, o = some p → p < 2 ^ 200) : Sh (optD o) 2000 1 := by
  cases o with
  | none => exact Sh.non
  | some p => exact Sh.int (by simpa using hb p rfl)
theorem repr_ok {x : D} (s : Sh x c k) (hc : c ≤ 16777216) (hk : k ≤ 64) : ∃ z, ∀ h, reprD [x] h = .ok (.str z) h := by
  obtain ⟨p, e, h1, h2, h3, h4⟩ := s
  have hr : reprOk p = true := by
    have : cost p ≤ sizeLine := Nat.le_trans h3 hc
    simp [reprOk, h1, h2, this]; omega
  refine ⟨p.shown, fun h => ?_⟩
  have e2 : toPy h x = some p := by
    cases x with
    | loc n => simp [toPy0] at e
    | _ => exact e
  simp [reprD, e2, hr]
theorem repr2_ok {x : D} (s : Sh x 2000000 50) : ∃ z, ∀ h, reprD [.lst [x, x]] h = .ok (.str z) h :=
  repr_ok (Sh.lst (ShL.cons s (ShL.cons s ShL.nil))) (by decide) (by decide)
/-- [f d for d in ds if t d], nothing changed -/
theorem lc_filter {g : MG} {cc : M Bool} {e : M D} {env : En} (h : AH) (t : D → Bool) (f : D → D) : ∀ {ds : List D}, (∀ d ∈ ds, ∃ env1, g d env h = .ok env1 h ∧ cc env1 h = .ok (t d) h ∧ (t d = true → e env1 h = .ok (f d) h)) → lcItems g cc e env ds h = .ok ((ds.filter t).map f) h
  | [], _ => rfl
  | d :: ds, st => by
    obtain ⟨env1, e1, e2, e3⟩ := st d (List.mem_cons_self ..)
    have ih := lc_filter h t f (ds := ds) fun x hx => st x (List.mem_cons_of_mem _ hx)
    rw [lc_cons, e1]
    simp only [b_ok, e2, ih]
    cases q : t d with
    | true => simp [e3 q, q, ih]
    | false => simp [q]
theorem for_ix {g : MG} {p : MS} (I : Nat → En → AH → Prop) : ∀ {ds : List D} {i : Nat} {env : En} {h : AH}, I i env h → (∀ j d env h, ds[j]? = some d → I (i + j) env h → ∃ env1 h1 env' h', g d env h = .ok env1 h1 ∧ p env1 h1 = .nx env' h' ∧ I (i + j + 1) env' h') → ∃ env' h', forItems g p ds env h = .nx env' h' ∧ I (i + ds.length) env' h'
  | [], i, env, h, h0, _ => ⟨env, h, rfl, h0⟩
  | d :: ds, i, env, h, h0, st => by
    obtain ⟨env1, h1, env2, h2, e1, e2, i2⟩ := st 0 d env h rfl h0
    obtain ⟨env3, h3, e3, i3⟩ := for_ix I (ds := ds) (i := i + 1) i2 fun j x env h hx hi => by
      have := st (j + 1) x env h hx (by rw [show i + (j + 1) = i + 1 + j by omega]; exact hi)
      rw [show i + (j + 1) + 1 = i + 1 + j + 1 by omega] at this
      exact this
    exact ⟨env3, h3, by rw [for_cons, e1]; simp [e2, e3], by rw [List.length_cons, show i + (ds.length + 1) = i + 1 + ds.length by omega]; exact i3⟩
theorem rngD_get {lo hi : Int} {i : Nat} {d : D} (e : (rngD lo hi)[i]? = some d) : d = .int (lo + i) ∧ lo + i < hi := by
  unfold rngD at e
  rw [List.getElem?_map] at e
  rcases Nat.lt_or_ge i (hi - lo).toNat with q | q
  · rw [List.getElem?_range q] at e
    cases e
    exact ⟨rfl, by omega⟩
  · rw [List.getElem?_eq_none (by rw [List.length_range]; exact q)] at e
    cases e
/-- the head of a filtered range is its least -/
theorem filter_head {lo : Int} {hi : Int} {t : D → Bool} {x : Int} (hx : lo ≤ x) (hx2 : x < hi) (tx : t (.int x) = true) (mn : ∀ y : Int, lo ≤ y → y < x → t (.int y) = false) : ∃ r, (rngD lo hi).filter t = .int x :: r := by
  have e : rngD lo hi = (List.range (x - lo).toNat).map (fun i => D.int (lo + (i : Nat))) ++ D.int x :: (List.range' ((x - lo).toNat + 1) ((hi - lo).toNat - (x - lo).toNat - 1)).map (fun i => D.int (lo + (i : Nat))) := by
    unfold rngD
    have : (hi - lo).toNat = (x - lo).toNat + (((hi - lo).toNat - (x - lo).toNat - 1) + 1) := by omega
    rw [this, List.range_eq_range', ← List.range'_append_1, List.map_append, ← List.range_eq_range', List.range'_succ, List.map_cons]
    have e1 : lo + ((0 + (x - lo).toNat : Nat) : Int) = x := by omega
    rw [e1]
    have e2 : (x - lo).toNat + ((hi - lo).toNat - (x - lo).toNat - 1 + 1) - (x - lo).toNat - 1 = (hi - lo).toNat - (x - lo).toNat - 1 := by omega
    simp [e2]
  have z : ((List.range (x - lo).toNat).map (fun i => D.int (lo + (i : Nat)))).filter t = [] := by
    rw [List.filter_eq_nil_iff]
    intro d hd
    obtain ⟨i, hi1, rfl⟩ := List.mem_map.mp hd
    have := List.mem_range.mp hi1
    rw [mn _ (by omega) (by omega)]
    simp
  refine ⟨((List.range' ((x - lo).toNat + 1) ((hi - lo).toNat - (x - lo).toNat - 1)).map (fun i => D.int (lo + (i : Nat)))).filter t, ?_⟩
  rw [e, List.filter_append, z, List.nil_append, List.filter_cons_of_pos tx]
@[simp] theorem o_isi1 {i : Int} : isiD [.int i, .ty "int"] h = .ok (.bl true) h := rfl
@[simp] theorem o_isi0 {i : Int} : isiD [.int i, .ty "bool"] h = .ok (.bl false) h := rfl
@[simp] theorem o_eqIN {i : Int} : eqD (.int i) .non h = .ok (.bl false) h := rfl
@[simp] theorem o_eqNI {i : Int} : eqD .non (.int i) h = .ok (.bl false) h := rfl
@[simp] theorem o_eqNN : eqD .non .non h = .ok (.bl true) h := rfl
/-- every int below it has a least factor -/
theorem mf_ex {v : Nat} (hv : 2 ≤ v) : ∃ p, IsMf v p ∧ p ≤ v := by
  have : ∀ n, ∀ f, 2 ≤ f → (∀ d, 2 ≤ d → d < f → ¬ d ∣ v) → f ≤ v → v ≤ n + f → ∃ p, IsMf v p ∧ p ≤ v := by
    intro n
    induction n with
    | zero => intro f h2 nd h3 h4; have : f = v := by omega
              subst this; exact ⟨f, ⟨h2, Nat.dvd_refl f, nd⟩, Nat.le_refl _⟩
    | succ n ih =>
      intro f h2 nd h3 h4
      by_cases q : f ∣ v
      · exact ⟨f, ⟨h2, q, nd⟩, h3⟩
      · have : f ≠ v := fun e => q (e ▸ Nat.dvd_refl f)
        refine ih (f + 1) (by omega) (fun d hd hd2 => ?_) (by omega) (by omega)
        rcases Nat.lt_or_ge d f with z | z
        · exact nd d hd z
        · have : d = f := by omega
          subst this; exact q
  exact this v 2 (Nat.le_refl 2) (fun d h2 h3 => by omega) hv (by omega)
theorem Pp.le {v p : Nat} (a : Pp v (some p)) (hv : 0 < v) : p ≤ v := by
  obtain ⟨q, hq, ⟨e, _⟩ | ⟨e, _⟩⟩ := a
  · cases e; exact Nat.le_of_dvd hv hq.dvd
  · cases e
theorem Shp.le {n m p : Nat} (a : Shp n m (some p)) (hn : 0 < n) : p ≤ n := by
  rcases a with ⟨_, e⟩ | ⟨_, _, x, y, px, py, e⟩
  · cases e
  · unfold shO at e
    split at e
    · subst e; exact px.le hn
    · cases e
/-! like data are equal -/
def Lk (d : D) (k : Nat) : Prop := ∃ p, toPy0 d = some p ∧ p.canLay0 = true ∧ p.depth ≤ k
def LkL (ds : List D) (k : Nat) : Prop := ∃ ps, toPyL ds = some ps ∧ PyData.canLayAll0 ps = true ∧ PyData.depthAll ps ≤ k
theorem Lk.int {i : Int} : Lk (.int i) 1 := ⟨.int i, by simp [toPy0], by simp [PyData.canLay0], by simp [PyData.depth]⟩
theorem Lk.bl {b : Bool} : Lk (.bl b) 1 := ⟨.bool b, by simp [toPy0], by simp [PyData.canLay0], by simp [PyData.depth]⟩
theorem Lk.non : Lk .non 1 := ⟨.none, by simp [toPy0], by simp [PyData.canLay0], by simp [PyData.depth]⟩
theorem Lk.opt {o : Option Nat} : Lk (optD o) 1 := by
  cases o
  · exact Lk.non
  · exact Lk.int
theorem LkL.nil : LkL [] 0 := ⟨[], by simp [toPyL], by simp [PyData.canLayAll0], by simp [PyData.depthAll]⟩
theorem LkL.cons {k' : Nat} (a : Lk d k) (r : LkL ds k') : LkL (d :: ds) (max k k') := by
  obtain ⟨p, e, h1, h2⟩ := a
  obtain ⟨ps, e', g1, g2⟩ := r
  exact ⟨p :: ps, by simp [toPyL, e, e'], by simp [PyData.canLayAll0, h1, g1], by simp [PyData.depthAll]; omega⟩
theorem LkL.all {kk : Nat} : ∀ {ds : List D}, (∀ d ∈ ds, Lk d kk) → LkL ds kk
  | [], _ => ⟨[], by simp [toPyL], by simp [PyData.canLayAll0], by simp [PyData.depthAll]⟩
  | d :: ds, a => by
    have := (a d (List.mem_cons_self ..)).elim fun p hp => LkL.cons ⟨p, hp⟩ (LkL.all (ds := ds) fun x hx => a x (List.mem_cons_of_mem _ hx))
    rwa [Nat.max_self] at this
theorem Lk.lst (r : LkL ds k) : Lk (.lst ds) (k + 1) := by
  obtain ⟨ps, e', g1, g2⟩ := r
  exact ⟨.list ps, by simp [toPy0, e'], by simp [PyData.canLay0, g1], by simp [PyData.depth, g2]⟩
theorem Lk.tup (r : LkL ds k) : Lk (.tup ds) (k + 1) := by
  obtain ⟨ps, e', g1, g2⟩ := r
  exact ⟨.tuple ps, by simp [toPy0, e'], by simp [PyData.canLay0, g1], by simp [PyData.depth, g2]⟩
theorem eqB_same {x : D} (s : Lk x k) (hk : k ≤ 64) : eqB x x h = some true := by
  obtain ⟨p, e, h1, h2⟩ := s
  have e2 : toPy h x = some p := by
    cases x with
    | loc n => simp [toPy0] at e
    | _ => exact e
  have sh : SeqAt.shaped p = true := by
    unfold SeqAt.shaped
    rw [h1]; simp; omega
  cases x with
  | int i => simp [eqB]
  | bl i => simp [eqB]
  | str i => simp [eqB]
  | _ => simp [eqB, e2, sh, SeqAt.eqv_refl p h1]
theorem ne_same {x : D} (s : Lk x k) (hk : k ≤ 64) : neD x x h = .ok (.bl false) h := by simp [neD, eqB_same s hk]
theorem eq_same {x : D} (s : Lk x k) (hk : k ≤ 64) : eqD x x h = .ok (.bl true) h := by simp [eqD, eqB_same s hk]
/-! lists of one's own -/
theorem repr_loc {n : Nat} (e : h[n]? = some (.lst ds)) : reprD [.loc n] h = reprD [.lst ds] h := by simp [reprD, toPy, toPy0, e]
theorem append_ok {n : Nat} (e : h[n]? = some (.lst ds)) (hl : ds.length < 1000) : appendD (.loc n) [d] h = .ok .non (h.set n (.lst (ds ++ [d]))) := by
  have : ds.length < sizeLine := Nat.lt_of_lt_of_le hl (by decide)
  simp [appendD, e, this]
theorem x_bl {n : Nat} {b : Bool} : ∃ h', exitD n (.bl b) h = .ok (.bl b) h' := by
  unfold exitD
  split
  · exact ⟨_, by rw [if_pos (by simp)]⟩
  · exact ⟨_, rfl⟩
theorem Sp3.app {n : Nat} {h' : AH} (s : Sp3 h n) : Sp3 (h ++ h') n := by
  obtain ⟨a, b, c, e, r⟩ := s
  exact ⟨a, b, c, by rw [List.getElem?_append_left (lt_of_get e)]; exact e, r⟩
theorem Sp3.set {n m : Nat} {x : AO} (s : Sp3 h n) (hn : n ≠ m) : Sp3 (h.set m x) n := by
  obtain ⟨a, b, c, e, r⟩ := s
  exact ⟨a, b, c, by rw [List.getElem?_set_ne (Ne.symm hn)]; exact e, r⟩
theorem e_OrB {p q : M D} {env : En} {b c : Bool} (ep : p env h = .ok (.bl b) h) (eq : q env h = .ok (.bl c) h) : mOr p q env h = .ok (.bl (b || c)) h := by
  rw [e_Or, ep, b_ok]
  cases b
  · rw [k_Or0, eq]; rfl
  · rw [k_Or1]; rfl
theorem e_AndB {p q : M D} {env : En} {b c : Bool} (ep : p env h = .ok (.bl b) h) (eq : q env h = .ok (.bl c) h) : mAnd p q env h = .ok (.bl (b && c)) h := by
  rw [e_And, ep, b_ok]
  cases b
  · rw [k_And0]; rfl
  · rw [k_And1, eq]; rfl
def kMeth0 (ok : D → AH → Bool) (f : D → List D → AH → R D) (ma : M (List D)) (env : En) (o : D) (h : AH) : R D := if ok o h = true then (ma env h).bind (f o) else .bad
theorem k_Meth0 {n : Nat} {f : D → List D → AH → R D} {ma : M (List D)} {env : En} (e : h[n]? = some (.lst ds)) : kMeth0 isLoc f ma env (.loc n) h = (ma env h).bind (f (.loc n)) := if_pos (by simp [isLoc, e])
@[simp] theorem e_Meth {ok : D → AH → Bool} {f : D → List D → AH → R D} {mo : M D} {ma : M (List D)} {env : En} : mMethT ok f mo ma env h = (mo env h).bind (kMeth0 ok f ma env) := rfl.trans rfl
/-- how many springs a law tries -/
theorem many {L : Nat} : ∃ w : Int, 2 ≤ w ∧ w ≤ 5 ∧ ∀ h, max2D [.int 2, .int (if (5 : Int) < L then 5 else L)] h = .ok (.int w) h := by
  refine ⟨if (if (5 : Int) < L then 5 else (L : Int)) > 2 then (if (5 : Int) < L then 5 else L) else 2, ?_, ?_, fun h => rfl⟩
  · split <;> omega
  · split
    · split <;> omega
    · omega
theorem pow109 : powD (.int 10) (.int 9) h = .ok (.int 1000000000) h := (o_pow (by unfold CPow; decide)).trans rfl
theorem Shp.two {n m p : Nat} (a : Shp n m (some p)) : 2 ≤ p := by
  rcases a with ⟨_, e⟩ | ⟨_, _, x, y, px, py, e⟩
  · cases e
  · unfold shO at e
    split at e
    · subst e
      obtain ⟨q, hq, ⟨e, _⟩ | ⟨e, _⟩⟩ := px
      · cases e; exact hq.two
      · cases e
    · cases e
theorem Shp.symm {n m : Nat} {o : Option Nat} (a : Shp n m o) : Shp m n o := by
  rcases a with ⟨h1 | h1, e⟩ | ⟨h1, h2, x, y, px, py, e⟩
  · exact .inl ⟨.inr h1, e⟩
  · exact .inl ⟨.inl h1, e⟩
  · refine .inr ⟨h2, h1, y, x, py, px, ?_⟩
    rw [e]; unfold shO
    by_cases z : x = y
    · rw [if_pos z, if_pos z.symm, z]
    · rw [if_neg z, if_neg (fun y => z y.symm)]
end
end Ab

namespace K20
open PySem PySem.Spec PyProof.Rows L2 Ab
def top (i : Nat) : Stmt := PySem.Challenge.pw_turnedblind_k20_whole_moves_and_kinds_of.main.body.getD i (.Pass ⟨0, 0, 0, 0⟩)
abbrev FnP (K : PySem.W.Frag) (x : Str) (st : Stmt) (f : Addr) (fd : FuncData) : Prop := FunD K x x (defArgs st) (defBody st) (defScope st) [] [] f fd
/-! what each def computes -/
abbrev s_is_integer : Stmt := top 5
def m_is_integer : MS :=
  (mRet (mAnd (mCB isiD (mCons (mVar 0) (mCons (mC (.ty "int")) mNil))) (mNot (mCB isiD (mCons (mVar 0) (mCons (mC (.ty "bool")) mNil))))))
def F_is_integer : Fn := mFnT 1 m_is_integer
abbrev s_power_of : Stmt := top 7
def m_power_of : MS :=
  (mSeq (mAsg (mC (.int 1)) (mgName 2))
  (mSeq (mFor (miRng1 (mCons (mVar 1) mNil)) (mgName 3) (mAsg (mBin mulD (mVar 2) (mVar 0)) (mgName 2)))
  (mRet (mVar 2))))
def F_power_of : Fn := mFnT 4 m_power_of
abbrev s_prime_of : Stmt := top 12
def m_prime_of : MS :=
  (mSeq (mAsg (mC (.int 2)) (mgName 1))
  (mSeq (mWhile (mAndT (mBl (mBin (cmpD fun i j => decide (i ≤ j)) (mBin mulD (mVar 1) (mVar 1)) (mVar 0))) (mBl (mBin (cmpD fun i j => decide (j < i)) (mBin modD (mVar 0) (mVar 1)) (mC (.int 0))))) (mAug 1 addI (mC (.int 1))) 100000)
  (mSeq (mIfS (mBl (mBin (cmpD fun i j => decide (j < i)) (mBin mulD (mVar 1) (mVar 1)) (mVar 0))) (mRet (mVar 0)) mNext)
  (mSeq (mWhile (mBl (mBin eqD (mBin modD (mVar 0) (mVar 1)) (mC (.int 0)))) (mAsg (mBin divD (mVar 0) (mVar 1)) (mgName 0)) 100000)
  (mRet (mIf (mBl (mBin eqD (mVar 0) (mC (.int 1)))) (mVar 1) (mC .non)))))))
def F_prime_of : Fn := mFnT 2 m_prime_of
abbrev s_power_rest : Stmt := top 16
def m_power_rest : MS :=
  (mSeq (mPar 3 0 (mCons (mBin modD (mC (.int 1)) (mVar 2)) (mCons (mBin modD (mVar 0) (mVar 2)) mNil)))
  (mSeq (mWhile (mBl (mBin (cmpD fun i j => decide (j < i)) (mVar 1) (mC (.int 0)))) (mSeq (mIfS (mBl (mBin eqD (mBin modD (mVar 1) (mC (.int 2))) (mC (.int 1)))) (mAsg (mBin modD (mBin mulD (mVar 3) (mVar 0)) (mVar 2)) (mgName 3)) mNext)
  (mSeq (mAsg (mBin modD (mBin mulD (mVar 0) (mVar 0)) (mVar 2)) (mgName 0))
  (mAsg (mBin divD (mVar 1) (mC (.int 2))) (mgName 1)))) 100000)
  (mRet (mVar 3))))
def F_power_rest : Fn := mFnT 4 m_power_rest
abbrev s_divisor : Stmt := top 18
def m_divisor : MS :=
  (mSeq (mWhile (mBl (mBin (cmpD fun i j => decide (j < i)) (mVar 1) (mC (.int 0)))) (mPar 0 1 (mCons (mVar 1) (mCons (mBin modD (mVar 0) (mVar 1)) mNil))) 100000)
  (mRet (mVar 0)))
def F_divisor : Fn := mFnT 2 m_divisor
abbrev s__law_spring : Stmt := top 21
def m__law_spring : MS :=
  (mSeq (mAsg (mIf (mBl (mBin (cmpD fun i j => decide (i < j)) (mVar 1) (mCB lenD (mCons (mVar 0) mNil)))) (mBin ixD (mVar 0) (mVar 1)) (mBin addD (mBin mulD (mC (.int 7)) (mVar 1)) (mC (.int 2)))) (mgName 2))
  (mSeq (mAsg (mBin addD (mC (.int 90001)) (mBin mulD (mC (.int 7919)) (mVar 1))) (mgName 3))
  (mSeq (mFor (miSeq (mFrz (mBinF catD (mFrz (mSlL (mVar 0) mNoPart (mPart (mC (.int 8))))) (mFrz (mLst (mCons (mVar 2) mNil)))))) (mgName 4) (mAsg (mBin modD (mCB intD (mCons (mBin addD (mBin addD (mBin mulD (mVar 3) (mC (.int 48271))) (mCB intD (mCons (mVar 4) mNil))) (mBin mulD (mC (.int 11)) (mVar 1))) mNil)) (mC (.int 2147483647))) (mgName 3)))
  (mRet (mOwn (mLst (mCons (mIf (mOrT (mBl (mBin (cmpD fun i j => decide (i < j)) (mVar 2) (mC (.int 0)))) (mBl (mBin (cmpD fun i j => decide (j ≤ i)) (mVar 2) (mBin powD (mC (.int 10)) (mC (.int 18)))))) (mCB absD (mCons (mVar 2) mNil)) (mC (.int 0))) (mCons (mVar 3) (mCons (mC (.int 0)) mNil)))))))))
def F__law_spring : Fn := mFnK 5 m__law_spring
abbrev s__law_draw : Stmt := top 22
def m__law_draw : MS :=
  (mSeq (mAsg (mBin addD (mBin ixD (mVar 0) (mC (.int 2))) (mC (.int 1))) (mgSub (mVar 0) (mC (.int 2))))
  (mSeq (mAsg (mBin modD (mCB intD (mCons (mBin addD (mBin addD (mBin mulD (mBin ixD (mVar 0) (mC (.int 1))) (mC (.int 69621))) (mBin mulD (mC (.int 40503)) (mBin ixD (mVar 0) (mC (.int 2))))) (mC (.int 1))) mNil)) (mC (.int 2147483647))) (mgSub (mVar 0) (mC (.int 1))))
  (mSeq (mIfS (mBl (mBin (cmpD fun i j => decide (j < i)) (mBin ixD (mVar 0) (mC (.int 0))) (mC (.int 0)))) (mSeq (mAsg (mCB divmodD (mCons (mBin ixD (mVar 0) (mC (.int 0))) (mCons (mVar 1) mNil))) (mgTup 2 (mgCons (mgSub (mVar 0) (mC (.int 0))) (mgCons (mgName 2) mgNil))))
  (mRet (mVar 2))) mNext)
  (mSeq (mAsg (mBin addD (mBin ixD (mVar 0) (mC (.int 1))) (mC (.int 12345))) (mgName 3))
  (mSeq (mAsg (mBin modD (mCB intD (mCons (mBin addD (mBin mulD (mVar 3) (mBin ixD (mVar 0) (mC (.int 1)))) (mBin ixD (mVar 0) (mC (.int 2)))) mNil)) (mC (.int 2147483629))) (mgName 4))
  (mRet (mBin modD (mCB intD (mCons (mBin divD (mVar 4) (mC (.int 256))) mNil)) (mVar 1))))))))
def F__law_draw : Fn := mFnT 5 m__law_draw
abbrev s__law_all : Stmt := top 24
def b__law_all_1 : MS :=
  (mSeq (mAsg (mFrz (mLst mNil)) (mgName 4))
  (mSeq (mFor (miSeq (mVar 2)) (mgName 5) (mAsg (mFrz (mBinF catD (mVar 4) (mFrz (mLc (miRng1 (mCons (mVar 1) mNil)) (mgName 6) (fun _ h => .ok true h) (mBin addD (mVar 5) (mTup (mCons (mVar 6) mNil))) [6])))) (mgName 4)))
  (mAsg (mVar 4) (mgName 2))))
def m__law_all : MS :=
  (mSeq (mAsg (mFrz (mLst (mCons (mTup mNil) mNil))) (mgName 2))
  (mSeq (mFor (miRng1 (mCons (mVar 0) mNil)) (mgName 3) b__law_all_1)
  (mRet (mVar 2))))
def F__law_all : Fn := mFnT 7 m__law_all
abbrev s_is_between : Stmt := top 6
def m_is_between : MS :=
  (mRet (mAnd (mCallP 1 F_is_integer (mCons (mVar 0) mNil)) (mChain (cmpD fun i j => decide (i ≤ j)) (cmpD fun i j => decide (i ≤ j)) (mVar 1) (mVar 0) (mVar 2))))
def F_is_between : Fn := mFnT 3 m_is_between
abbrev s_shared_prime : Stmt := top 13
def m_shared_prime : MS :=
  (mSeq (mIfS (mOrT (mBl (mBin eqD (mVar 0) (mC (.int 1)))) (mBl (mBin eqD (mVar 1) (mC (.int 1))))) (mRet (mC .non)) mNext)
  (mSeq (mAsg (mCallP 1 F_prime_of (mCons (mVar 0) mNil)) (mgName 2))
  (mRet (mIf (mAndT (mBl (mBin (isND true) (mVar 2) (mC .non))) (mBl (mBin eqD (mVar 2) (mCallP 1 F_prime_of (mCons (mVar 1) mNil))))) (mVar 2) (mC .non)))))
def F_shared_prime : Fn := mFnT 3 m_shared_prime
abbrev s__law_of : Stmt := top 23
def m__law_of : MS :=
  (mRet (mBin ixD (mVar 1) (mCall 2 F__law_draw (mCons (mVar 0) (mCons (mCB lenD (mCons (mVar 1) mNil)) mNil)))))
def F__law_of : Fn := mFnT 2 m__law_of
abbrev s__law_classes : Stmt := top 25
def m__law_classes : MS :=
  (mSeq (mPar 2 3 (mCons mDNew (mCons (mC (.int 0)) mNil)))
  (mSeq (mFor (miSeq (mCallP 2 F__law_all (mCons (mVar 0) (mCons (mVar 1) mNil)))) (mgName 4) (mIfS (mBl (mBin (dInD true) (mVar 4) (mVar 2))) (mSeq (mAsg (mBin addD (mVar 3) (mC (.int 1))) (mgName 3))
  (mFor (miRng1 (mCons (mVar 0) mNil)) (mgName 5) (mFor (miRng1 (mCons (mVar 1) mNil)) (mgName 6) (mDPut (mC (.bl true)) (mVar 2) (mCB tupleD (mCons (mFrz (mLc (miRng1 (mCons (mVar 0) mNil)) (mgName 7) (fun _ h => .ok true h) (mBin modD (mCB intD (mCons (mBin addD (mBin ixD (mVar 4) (mBin modD (mCB intD (mCons (mBin addD (mVar 7) (mVar 5)) mNil)) (mVar 0))) (mVar 6)) mNil)) (mVar 1)) [7])) mNil)))))) mNext))
  (mRet (mBin subD (mVar 3) (mC (.int 1))))))
def F__law_classes : Fn := mFnT 8 m__law_classes
abbrev s_check_ring : Stmt := top 11
def m_check_ring : MS :=
  (mFor (miSeq (mTup (mCons (mVar 0) (mCons (mVar 1) mNil)))) (mgName 2) (mIfS (mNotT (mTru (mCallP 3 F_is_between (mCons (mVar 2) (mCons (mC (.int 1)) (mCons (mC (.int 1000000000)) mNil)))))) (fun _ _ => .bad) mNext))
def F_check_ring : Fn := mFnT 3 m_check_ring
abbrev s_goes : Stmt := top 14
def m_goes : MS :=
  (mRet (mOr (mBin eqD (mVar 0) (mC (.int 1))) (mOr (mBin eqD (mVar 1) (mC (.int 1))) (mBin (isND true) (mCallP 2 F_shared_prime (mCons (mVar 0) (mCons (mVar 1) mNil))) (mC .non)))))
def F_goes : Fn := mFnT 2 m_goes
abbrev s_ring_kinds : Stmt := top 19
def b_ring_kinds_1 : MS :=
  (mSeq (mAsg (mCallP 2 F_divisor (mCons (mVar 0) (mCons (mVar 3) mNil))) (mgName 4))
  (mAsg (mBin addD (mVar 2) (mBin mulD (mCallP 2 F_divisor (mCons (mBin divD (mVar 0) (mVar 4)) (mCons (mVar 1) mNil))) (mCallP 2 F_power_of (mCons (mVar 1) (mCons (mVar 4) mNil))))) (mgName 2)))
def m_ring_kinds : MS :=
  (mSeq (mIfS (mNotT (mTru (mCallP 3 F_is_between (mCons (mVar 0) (mCons (mC (.int 1)) (mCons (mC (.int 200)) mNil)))))) (fun _ _ => .bad) mNext)
  (mSeq (mIfS (mNotT (mTru (mCallP 3 F_is_between (mCons (mVar 1) (mCons (mC (.int 1)) (mCons (mC (.int 1000)) mNil)))))) (fun _ _ => .bad) mNext)
  (mSeq (mAsg (mC (.int 0)) (mgName 2))
  (mSeq (mFor (miRng2 (mCons (mC (.int 1)) (mCons (mBin addD (mVar 0) (mC (.int 1))) mNil))) (mgName 3) b_ring_kinds_1)
  (mRet (mBin subD (mBin divD (mVar 2) (mBin mulD (mVar 0) (mVar 1))) (mC (.int 1))))))))
def F_ring_kinds : Fn := mFnT 5 m_ring_kinds
abbrev s_ring_can : Stmt := top 15
def m_ring_can : MS :=
  (mSeq (mDrop (mCallP 2 F_check_ring (mCons (mVar 0) (mCons (mVar 1) mNil))))
  (mRet (mCallP 2 F_goes (mCons (mVar 0) (mCons (mVar 1) mNil)))))
def F_ring_can : Fn := mFnT 2 m_ring_can
abbrev s_ring_moves : Stmt := top 17
def m_ring_moves : MS :=
  (mSeq (mDrop (mCallP 2 F_check_ring (mCons (mVar 0) (mCons (mVar 1) mNil))))
  (mSeq (mIfS (mOrT (mNotT (mTru (mCallP 1 F_is_integer (mCons (mVar 2) mNil)))) (mBl (mBin (cmpD fun i j => decide (i < j)) (mVar 2) (mC (.int 1))))) (fun _ _ => .bad) mNext)
  (mRet (mIf (mTru (mCallP 2 F_goes (mCons (mVar 0) (mCons (mVar 1) mNil)))) (mBin modD (mBin subD (mCallP 3 F_power_rest (mCons (mVar 1) (mCons (mBin subD (mVar 0) (mC (.int 1))) (mCons (mVar 2) mNil)))) (mC (.int 1))) (mVar 2)) (mC .non)))))
def F_ring_moves : Fn := mFnT 3 m_ring_moves
abbrev s__law_right : Stmt := top 26
def b__law_right_1 : MS :=
  (mSeq (mPar3 2 3 4 (mCons (mBin addD (mC (.int 1)) (mCall 2 F__law_draw (mCons (mVar 0) (mCons (mC (.int 40)) mNil)))) (mCons (mBin addD (mC (.int 1)) (mCall 2 F__law_draw (mCons (mVar 0) (mCons (mC (.int 40)) mNil)))) (mCons (mBin addD (mC (.int 1)) (mCall 2 F__law_draw (mCons (mVar 0) (mCons (mC (.int 1000)) mNil)))) mNil))))
  (mSeq (mAsg (mC (.int 1)) (mgName 5))
  (mSeq (mFor (miRng1 (mCons (mBin subD (mVar 2) (mC (.int 1))) mNil)) (mgName 6) (mAsg (mBin mulD (mVar 5) (mVar 3)) (mgName 5)))
  (mSeq (mAsg (mIf (mTru (mCallP 2 F_ring_can (mCons (mVar 2) (mCons (mVar 3) mNil)))) (mBin modD (mCB intD (mCons (mBin subD (mVar 5) (mC (.int 1))) mNil)) (mVar 4)) (mC .non)) (mgName 7))
  (mSeq (mAsg (mFrz (mLst (mCons (mCallP 3 F_ring_moves (mCons (mVar 2) (mCons (mVar 3) (mCons (mVar 4) mNil)))) (mCons (mCallKP 3 F_ring_moves (permL 0 3 [2, 1, 0] .non) mNil (mCons (mVar 4) (mCons (mVar 3) (mCons (mVar 2) mNil)))) mNil)))) (mgName 8))
  (mSeq (mIfS (mBl (mBin neD (mCB reprD (mCons (mVar 8) mNil)) (mCB reprD (mCons (mFrz (mLst (mCons (mVar 7) (mCons (mVar 7) mNil)))) mNil)))) (mRet (mC (.bl false))) mNext)
  (mSeq (mAsg (mCall 2 F__law_of (mCons (mVar 0) (mCons (mFrz (mLst (mCons (mTup (mCons (mC (.int 1)) (mCons (mC (.int 3)) mNil))) (mCons (mTup (mCons (mC (.int 2)) (mCons (mC (.int 7)) mNil))) (mCons (mTup (mCons (mC (.int 3)) (mCons (mC (.int 4)) mNil))) (mCons (mTup (mCons (mC (.int 4)) (mCons (mC (.int 3)) mNil))) (mCons (mTup (mCons (mC (.int 5)) (mCons (mC (.int 2)) mNil))) (mCons (mTup (mCons (mC (.int 6)) (mCons (mC (.int 2)) mNil))) (mCons (mTup (mCons (mC (.int 7)) (mCons (mC (.int 2)) mNil))) (mCons (mTup (mCons (mC (.int 3)) (mCons (mC (.int 6)) mNil))) (mCons (mTup (mCons (mC (.int 4)) (mCons (mC (.int 4)) mNil))) (mCons (mTup (mCons (mC (.int 5)) (mCons (mC (.int 3)) mNil))) mNil)))))))))))) mNil))) (mgTup 2 (mgCons (mgName 2) (mgCons (mgName 3) mgNil))))
  (mSeq (mAsg (mCallP 2 F__law_classes (mCons (mVar 2) (mCons (mVar 3) mNil))) (mgName 7))
  (mIfS (mBl (mBin neD (mCB reprD (mCons (mFrz (mLst (mCons (mCallP 2 F_ring_kinds (mCons (mVar 2) (mCons (mVar 3) mNil))) (mCons (mCallKP 2 F_ring_kinds (permL 0 2 [1, 0] .non) mNil (mCons (mVar 3) (mCons (mVar 2) mNil))) mNil)))) mNil)) (mCB reprD (mCons (mFrz (mLst (mCons (mVar 7) (mCons (mVar 7) mNil)))) mNil)))) (mRet (mC (.bl false))) mNext)))))))))
def m__law_right : MS :=
  (mSeq (mFor (miRng1 (mCons (mC (.int 6)) mNil)) (mgName 1) b__law_right_1)
  (mRet (mC (.bl true))))
def F__law_right : Fn := mFnT 9 m__law_right
abbrev s_law : Stmt := top 27
def m_law : MS :=
  (mSeq (mIfS (mBl (mBin neD (mFrz (mLst (mCons (mCallP 3 F_ring_moves (mCons (mC (.int 4)) (mCons (mC (.int 2)) (mCons (mC (.int 100)) mNil)))) (mCons (mCallP 3 F_ring_moves (mCons (mBin powD (mC (.int 2)) (mC (.int 20))) (mCons (mC (.int 2)) (mCons (mC (.int 1000)) mNil)))) (mCons (mCallP 3 F_ring_moves (mCons (mC (.int 6)) (mCons (mC (.int 2)) (mCons (mC (.int 9)) mNil)))) (mCons (mCallP 3 F_ring_moves (mCons (mC (.int 27)) (mCons (mC (.int 9)) (mCons (mC (.int 1)) mNil)))) mNil)))))) (mFrz (mLst (mCons (mC (.int 7)) (mCons (mC (.int 567)) (mCons (mC .non) (mCons (mC (.int 0)) mNil)))))))) (mRet (mC (.bl false))) mNext)
  (mSeq (mIfS (mBl (mBin neD (mFrz (mLst (mCons (mCallP 2 F_ring_kinds (mCons (mC (.int 4)) (mCons (mC (.int 2)) mNil))) (mCons (mCallP 2 F_ring_kinds (mCons (mC (.int 6)) (mCons (mC (.int 2)) mNil))) (mCons (mCallP 2 F_ring_kinds (mCons (mC (.int 3)) (mCons (mC (.int 3)) mNil))) (mCons (mCallP 2 F_ring_kinds (mCons (mC (.int 1)) (mCons (mC (.int 7)) mNil))) (mCons (mCallP 2 F_ring_kinds (mCons (mC (.int 5)) (mCons (mC (.int 1)) mNil))) mNil))))))) (mFrz (mLst (mCons (mC (.int 3)) (mCons (mC (.int 7)) (mCons (mC (.int 4)) (mCons (mC (.int 0)) (mCons (mC (.int 0)) mNil))))))))) (mRet (mC (.bl false))) mNext)
  (mRet (mCB (allD false) (mCons (mFrz (mLc (miRng1 (mCons (mCB max2D (mCons (mC (.int 2)) (mCons (mCB min2D (mCons (mCB lenD (mCons (mVar 0) mNil)) (mCons (mC (.int 5)) mNil))) mNil))) mNil)) (mgName 1) (fun _ h => .ok true h) (mCall 1 F__law_right (mCons (mCall 2 F__law_spring (mCons (mVar 0) (mCons (mVar 1) mNil))) mNil)) [1])) mNil)))))
def F_law : Fn := mFnT 2 m_law
end K20

namespace K20
open PySem PySem.Spec PyProof.Rows L2 Ab
/-! each def is walked -/
theorem sc_is_integer : FnScope ["value"] ["value"] (defScope s_is_integer) := ⟨rfl, rfl, rfl, by decide +kernel, rfl, by decide +kernel, by decide +kernel⟩
theorem sc_power_of : FnScope ["base", "times", "found", "turn"] ["base", "times"] (defScope s_power_of) := ⟨rfl, rfl, rfl, by decide +kernel, rfl, by decide +kernel, by decide +kernel⟩
theorem sc_prime_of : FnScope ["value", "factor"] ["value"] (defScope s_prime_of) := ⟨rfl, rfl, rfl, by decide +kernel, rfl, by decide +kernel, by decide +kernel⟩
theorem sc_power_rest : FnScope ["base", "times", "modulus", "found"] ["base", "times", "modulus"] (defScope s_power_rest) := ⟨rfl, rfl, rfl, by decide +kernel, rfl, by decide +kernel, by decide +kernel⟩
theorem sc_divisor : FnScope ["one", "other"] ["one", "other"] (defScope s_divisor) := ⟨rfl, rfl, rfl, by decide +kernel, rfl, by decide +kernel, by decide +kernel⟩
theorem sc__law_spring : FnScope ["_law_cells", "_law_k", "_law_cell", "_law_mixed", "_law_number"] ["_law_cells", "_law_k"] (defScope s__law_spring) := ⟨rfl, rfl, rfl, by decide +kernel, rfl, by decide +kernel, by decide +kernel⟩
theorem sc__law_draw : FnScope ["_law_spring_here", "_law_size", "_law_digit", "_law_far", "_law_mixed"] ["_law_spring_here", "_law_size"] (defScope s__law_draw) := ⟨rfl, rfl, rfl, by decide +kernel, rfl, by decide +kernel, by decide +kernel⟩
theorem sc__law_all : FnScope ["_law_dial_count", "_law_size", "_law_found", "_law_k", "_law_later", "_law_each", "_law_mark"] ["_law_dial_count", "_law_size"] (defScope s__law_all) := ⟨rfl, rfl, rfl, by decide +kernel, rfl, by decide +kernel, by decide +kernel⟩
theorem sc_is_between : FnScope ["value", "least", "most"] ["value", "least", "most"] (defScope s_is_between) := ⟨rfl, rfl, rfl, by decide +kernel, rfl, by decide +kernel, by decide +kernel⟩
theorem sc_shared_prime : FnScope ["n", "m", "found"] ["n", "m"] (defScope s_shared_prime) := ⟨rfl, rfl, rfl, by decide +kernel, rfl, by decide +kernel, by decide +kernel⟩
theorem sc__law_of : FnScope ["_law_spring_here", "_law_menu"] ["_law_spring_here", "_law_menu"] (defScope s__law_of) := ⟨rfl, rfl, rfl, by decide +kernel, rfl, by decide +kernel, by decide +kernel⟩
theorem sc__law_classes : FnScope ["_law_first", "_law_second", "_law_seen_now", "_law_count", "_law_each", "_law_k", "_law_by", "_law_j"] ["_law_first", "_law_second"] (defScope s__law_classes) := ⟨rfl, rfl, rfl, by decide +kernel, rfl, by decide +kernel, by decide +kernel⟩
theorem sc_check_ring : FnScope ["n", "m", "value"] ["n", "m"] (defScope s_check_ring) := ⟨rfl, rfl, rfl, by decide +kernel, rfl, by decide +kernel, by decide +kernel⟩
theorem sc_goes : FnScope ["n", "m"] ["n", "m"] (defScope s_goes) := ⟨rfl, rfl, rfl, by decide +kernel, rfl, by decide +kernel, by decide +kernel⟩
theorem sc_ring_kinds : FnScope ["n", "m", "found", "step", "rounds"] ["n", "m"] (defScope s_ring_kinds) := ⟨rfl, rfl, rfl, by decide +kernel, rfl, by decide +kernel, by decide +kernel⟩
theorem sc_ring_can : FnScope ["n", "m"] ["n", "m"] (defScope s_ring_can) := ⟨rfl, rfl, rfl, by decide +kernel, rfl, by decide +kernel, by decide +kernel⟩
theorem sc_ring_moves : FnScope ["n", "m", "modulus"] ["n", "m", "modulus"] (defScope s_ring_moves) := ⟨rfl, rfl, rfl, by decide +kernel, rfl, by decide +kernel, by decide +kernel⟩
theorem sc__law_right : FnScope ["_law_spring_here", "_law_turn_k", "_law_first", "_law_second", "_law_size", "_law_whole", "_law_k", "_law_due", "_law_told"] ["_law_spring_here"] (defScope s__law_right) := ⟨rfl, rfl, rfl, by decide +kernel, rfl, by decide +kernel, by decide +kernel⟩
theorem sc_law : FnScope ["_law_script", "_law_k"] ["_law_script"] (defScope s_law) := ⟨rfl, rfl, rfl, by decide +kernel, rfl, by decide +kernel, by decide +kernel⟩
section
variable {P : Program} {w : World} {K : PySem.W.Frag} {mg : Str → Option Value} {base : Heap} {f : Addr} {fd : FuncData}
theorem ok_is_integer (F : FnP K "is_integer" s_is_integer f fd) (g_bool : mg "bool" = none) (g_int : mg "int" = none) (g_isinstance : mg "isinstance" = none) :
    FnG P w K mg base CX0 1 f fd ["value"] (spD K 1 F_is_integer) := by
  refine fn_okTG F sc_is_integer fun cdv A outer s H E hr hgu => ?_
  exact JSs.b (K := K) (m := m_is_integer) (jss_one (js_ret (je_and (je_b jb_isi g_isinstance (ja_cons (je_v 0) (ja_cons (je_ty g_int) ja_nil))) (je_one (je_not (je_b jb_isi g_isinstance (ja_cons (je_v 0) (ja_cons (je_ty g_bool) ja_nil))))))))
theorem ok_power_of (F : FnP K "power_of" s_power_of f fd) (g_range : mg "range" = none) :
    FnG P w K mg base CX0 1 f fd ["base", "times"] (spD K 2 F_power_of) := by
  refine fn_okTG F sc_power_of fun cdv A outer s H E hr hgu => ?_
  exact JSs.b (K := K) (m := m_power_of) (jss_cons (js_set 2 sc_power_of.nd je_int)
    (jss_cons (js_for (ji_rng1 g_range (ja_cons (je_v 1) ja_nil)) (jg_n 3 sc_power_of.nd) (jss_one (js_set 2 sc_power_of.nd (je_mul (je_v 2) (je_v 0)))))
    (jss_one (js_ret (je_v 2)))))
theorem ok_prime_of (F : FnP K "prime_of" s_prime_of f fd)  :
    FnG P w K mg base CX0 1 f fd ["value"] (spD K 1 F_prime_of) := by
  refine fn_okTG F sc_prime_of fun cdv A outer s H E hr hgu => ?_
  exact JSs.b (K := K) (m := m_prime_of) (jss_cons (js_set 1 sc_prime_of.nd je_int)
    (jss_cons (js_while 100000 (JW.jt (jw_and (jt_cmp jc_le (je_mul (je_v 1) (je_v 1)) (je_v 0)) (jw_and1 (jt_cmp jc_gt (je_mod (je_v 0) (je_v 1)) je_int)))) (jss_one (js_augAdd 1 sc_prime_of.nd je_int)))
    (jss_cons (js_if (jt_cmp jc_gt (je_mul (je_v 1) (je_v 1)) (je_v 0)) (jss_one (js_ret (je_v 0))) jss_nil)
    (jss_cons (js_while 100000 (jt_cmp (jc_eq hr) (je_mod (je_v 0) (je_v 1)) je_int) (jss_one (js_set 0 sc_prime_of.nd (je_div (je_v 0) (je_v 1)))))
    (jss_one (js_ret (je_if (jt_cmp (jc_eq hr) (je_v 0) je_int) (je_v 1) je_non)))))))
theorem ok_power_rest (F : FnP K "power_rest" s_power_rest f fd)  :
    FnG P w K mg base CX0 1 f fd ["base", "times", "modulus"] (spD K 3 F_power_rest) := by
  refine fn_okTG F sc_power_rest fun cdv A outer s H E hr hgu => ?_
  exact JSs.b (K := K) (m := m_power_rest) (jss_cons (js_par 3 0 sc_power_rest.nd (ja_cons (je_mod je_int (je_v 2)) (ja_cons (je_mod (je_v 0) (je_v 2)) ja_nil)))
    (jss_cons (js_while 100000 (jt_cmp jc_gt (je_v 1) je_int) (jss_cons (js_if (jt_cmp (jc_eq hr) (je_mod (je_v 1) je_int) je_int) (jss_one (js_set 3 sc_power_rest.nd (je_mod (je_mul (je_v 3) (je_v 0)) (je_v 2)))) jss_nil)
    (jss_cons (js_set 0 sc_power_rest.nd (je_mod (je_mul (je_v 0) (je_v 0)) (je_v 2)))
    (jss_one (js_set 1 sc_power_rest.nd (je_div (je_v 1) je_int))))))
    (jss_one (js_ret (je_v 3)))))
theorem ok_divisor (F : FnP K "divisor" s_divisor f fd)  :
    FnG P w K mg base CX0 1 f fd ["one", "other"] (spD K 2 F_divisor) := by
  refine fn_okTG F sc_divisor fun cdv A outer s H E hr hgu => ?_
  exact JSs.b (K := K) (m := m_divisor) (jss_cons (js_while 100000 (jt_cmp jc_gt (je_v 1) je_int) (jss_one (js_par 0 1 sc_divisor.nd (ja_cons (je_v 1) (ja_cons (je_mod (je_v 0) (je_v 1)) ja_nil)))))
    (jss_one (js_ret (je_v 0))))
theorem ok__law_spring (F : FnP K "_law_spring" s__law_spring f fd) (g_abs : mg "abs" = none) (g_int : mg "int" = none) (g_len : mg "len" = none) :
    FnG P w K mg base CX0 1 f fd ["_law_cells", "_law_k"] (spD K 2 F__law_spring) := by
  refine fn_okKG F sc__law_spring fun cdv A outer s H E hr hgu => ?_
  exact JSs.b (K := K) (m := m__law_spring) (jss_cons (js_set 2 sc__law_spring.nd (je_if (jt_cmp jc_lt (je_v 1) (je_b jb_len g_len (ja_cons (je_v 0) ja_nil))) (je_ix (je_v 0) (je_v 1)) (je_add (je_mul je_int (je_v 1)) je_int)))
    (jss_cons (js_set 3 sc__law_spring.nd (je_add je_int (je_mul je_int (je_v 1))))
    (jss_cons (js_for (ji_seq (JF.f (jf_cat (JF.f (jf_sl (je_v 0) jo_none (jo_some je_int))) (JF.f (jf_lst (ja_cons (je_v 2) ja_nil)))))) (jg_n 4 sc__law_spring.nd) (jss_one (js_set 3 sc__law_spring.nd (je_mod (je_t jb_int g_int (ja_cons (je_add (je_add (je_mul (je_v 3) je_int) (je_t jb_int g_int (ja_cons (je_v 4) ja_nil))) (je_mul je_int (je_v 1))) ja_nil)) je_int))))
    (jss_one (js_ret (JF.o (jf_lst (ja_cons (je_if (JW.jt (jw_or (jt_cmp jc_lt (je_v 2) je_int) (jw_or1 (jt_cmp jc_ge (je_v 2) (je_pow je_int je_int))))) (je_b jb_abs g_abs (ja_cons (je_v 2) ja_nil)) je_int) (ja_cons (je_v 3) (ja_cons je_int ja_nil))))))))))
theorem ok__law_draw (F : FnP K "_law_draw" s__law_draw f fd) (g_divmod : mg "divmod" = none) (g_int : mg "int" = none) :
    FnG P w K mg base CX0 1 f fd ["_law_spring_here", "_law_size"] (spD K 2 F__law_draw) := by
  refine fn_okTG F sc__law_draw fun cdv A outer s H E hr hgu => ?_
  exact JSs.b (K := K) (m := m__law_draw) (jss_cons (js_asg (je_add (je_ix (je_v 0) je_int) je_int) (jg_sub (je_v 0) je_int))
    (jss_cons (js_asg (je_mod (je_t jb_int g_int (ja_cons (je_add (je_add (je_mul (je_ix (je_v 0) je_int) je_int) (je_mul je_int (je_ix (je_v 0) je_int))) je_int) ja_nil)) je_int) (jg_sub (je_v 0) je_int))
    (jss_cons (js_if (jt_cmp jc_gt (je_ix (je_v 0) je_int) je_int) (jss_cons (js_asg (je_b jb_divmod g_divmod (ja_cons (je_ix (je_v 0) je_int) (ja_cons (je_v 1) ja_nil))) (jg_tup (jgs_cons (jg_sub (je_v 0) je_int) (jgs_cons (jg_n 2 sc__law_draw.nd) jgs_nil))))
    (jss_one (js_ret (je_v 2)))) jss_nil)
    (jss_cons (js_set 3 sc__law_draw.nd (je_add (je_ix (je_v 0) je_int) je_int))
    (jss_cons (js_set 4 sc__law_draw.nd (je_mod (je_t jb_int g_int (ja_cons (je_add (je_mul (je_v 3) (je_ix (je_v 0) je_int)) (je_ix (je_v 0) je_int)) ja_nil)) je_int))
    (jss_one (js_ret (je_mod (je_t jb_int g_int (ja_cons (je_div (je_v 4) je_int) ja_nil)) (je_v 1)))))))))
theorem ok__law_all (F : FnP K "_law_all" s__law_all f fd) (g_range : mg "range" = none) :
    FnG P w K mg base CX0 1 f fd ["_law_dial_count", "_law_size"] (spD K 2 F__law_all) := by
  refine fn_okTG F sc__law_all fun cdv A outer s H E hr hgu => ?_
  exact JSs.b (K := K) (m := m__law_all) (jss_cons (js_set 2 sc__law_all.nd (JF.f (jf_lst (ja_cons (je_tup ja_nil) ja_nil))))
    (jss_cons (js_for (ji_rng1 g_range (ja_cons (je_v 0) ja_nil)) (jg_n 3 sc__law_all.nd) (jss_cons (js_set 4 sc__law_all.nd (JF.f (jf_lst ja_nil)))
    (jss_cons (js_for (ji_seq (je_v 2)) (jg_n 5 sc__law_all.nd) (jss_one (js_set 4 sc__law_all.nd (JF.f (jf_cat (je_v 4) (JF.f (jf_lc sc__law_all.nd (ji_rng1 g_range (ja_cons (je_v 1) ja_nil)) (own := [("_law_mark", 6)]) (blkOk_by (N := ["_law_dial_count", "_law_size", "_law_found", "_law_k", "_law_later", "_law_each", "_law_mark"]) (sc := defScope s__law_all) (by decide +kernel)) (gw_name (by decide)) (fun _ _ _ _ _ => (jg_n 6 sc__law_all.nd)) (fun _ _ _ _ _ => jts_nil) (fun _ _ _ _ _ => (je_add (je_v 5) (je_tup (ja_cons (je_v 6) ja_nil)))))))))))
    (jss_one (js_set 2 sc__law_all.nd (je_v 4))))))
    (jss_one (js_ret (je_v 2)))))
theorem ok_is_between (F : FnP K "is_between" s_is_between f fd) (C_is_integer : Cal P w K mg base 1 "is_integer" ["value"] F_is_integer s_is_integer) :
    FnG P w K mg base CX0 2 f fd ["value", "least", "most"] (spD K 3 F_is_between) := by
  refine fn_okTG F sc_is_between fun cdv A outer s H E hr hgu => ?_
  exact JSs.b (K := K) (m := m_is_between) (jss_one (js_ret (je_and (je_callP C_is_integer (hr.mono (by decide)) hgu (ja_cons (je_v 0) ja_nil)) (je_one (je_chain jc_le jc_le (je_v 1) (je_v 0) (je_v 2))))))
theorem ok_shared_prime (F : FnP K "shared_prime" s_shared_prime f fd) (C_prime_of : Cal P w K mg base 1 "prime_of" ["value"] F_prime_of s_prime_of) :
    FnG P w K mg base CX0 2 f fd ["n", "m"] (spD K 2 F_shared_prime) := by
  refine fn_okTG F sc_shared_prime fun cdv A outer s H E hr hgu => ?_
  exact JSs.b (K := K) (m := m_shared_prime) (jss_cons (js_if (JW.jt (jw_or (jt_cmp (jc_eq hr) (je_v 0) je_int) (jw_or1 (jt_cmp (jc_eq hr) (je_v 1) je_int)))) (jss_one (js_ret je_non)) jss_nil)
    (jss_cons (js_set 2 sc_shared_prime.nd (je_callP C_prime_of (hr.mono (by decide)) hgu (ja_cons (je_v 0) ja_nil)))
    (jss_one (js_ret (je_if (JW.jt (jw_and (jt_cmp jc_notN (je_v 2) je_non) (jw_and1 (jt_cmp (jc_eq hr) (je_v 2) (je_callP C_prime_of (hr.mono (by decide)) hgu (ja_cons (je_v 1) ja_nil)))))) (je_v 2) je_non)))))
theorem ok__law_of (F : FnP K "_law_of" s__law_of f fd) (C__law_draw : Cal P w K mg base 1 "_law_draw" ["_law_spring_here", "_law_size"] F__law_draw s__law_draw) (g_len : mg "len" = none) :
    FnG P w K mg base CX0 2 f fd ["_law_spring_here", "_law_menu"] (spD K 2 F__law_of) := by
  refine fn_okTG F sc__law_of fun cdv A outer s H E hr hgu => ?_
  exact JSs.b (K := K) (m := m__law_of) (jss_one (js_ret (je_ix (je_v 1) (je_call C__law_draw (hr.mono (by decide)) hgu (ja_cons (je_v 0) (ja_cons (je_b jb_len g_len (ja_cons (je_v 1) ja_nil)) ja_nil))))))
theorem ok__law_classes (F : FnP K "_law_classes" s__law_classes f fd) (C__law_all : Cal P w K mg base 1 "_law_all" ["_law_dial_count", "_law_size"] F__law_all s__law_all) (g_int : mg "int" = none) (g_range : mg "range" = none) (g_tuple : mg "tuple" = none) :
    FnG P w K mg base CX0 2 f fd ["_law_first", "_law_second"] (spD K 2 F__law_classes) := by
  refine fn_okTG F sc__law_classes fun cdv A outer s H E hr hgu => ?_
  exact JSs.b (K := K) (m := m__law_classes) (jss_cons (js_par 2 3 sc__law_classes.nd (ja_cons je_dnew (ja_cons je_int ja_nil)))
    (jss_cons (js_for (ji_seq (je_callP C__law_all (hr.mono (by decide)) hgu (ja_cons (je_v 0) (ja_cons (je_v 1) ja_nil)))) (jg_n 4 sc__law_classes.nd) (jss_one (js_if (jt_dnin hr (je_v 4) (je_v 2)) (jss_cons (js_set 3 sc__law_classes.nd (je_add (je_v 3) je_int))
    (jss_one (js_for (ji_rng1 g_range (ja_cons (je_v 0) ja_nil)) (jg_n 5 sc__law_classes.nd) (jss_one (js_for (ji_rng1 g_range (ja_cons (je_v 1) ja_nil)) (jg_n 6 sc__law_classes.nd) (jss_one (js_dput hr je_bl (je_v 2) (je_t jb_tuple g_tuple (ja_cons (JF.f (jf_lc sc__law_classes.nd (ji_rng1 g_range (ja_cons (je_v 0) ja_nil)) (own := [("_law_j", 7)]) (blkOk_by (N := ["_law_first", "_law_second", "_law_seen_now", "_law_count", "_law_each", "_law_k", "_law_by", "_law_j"]) (sc := defScope s__law_classes) (by decide +kernel)) (gw_name (by decide)) (fun _ _ _ _ _ => (jg_n 7 sc__law_classes.nd)) (fun _ _ _ _ _ => jts_nil) (fun _ _ _ _ _ => (je_mod (je_t jb_int g_int (ja_cons (je_add (je_ix (je_v 4) (je_mod (je_t jb_int g_int (ja_cons (je_add (je_v 7) (je_v 5)) ja_nil)) (je_v 0))) (je_v 6)) ja_nil)) (je_v 1))))) ja_nil))))))))) jss_nil)))
    (jss_one (js_ret (je_sub (je_v 3) je_int)))))
theorem ok_check_ring (F : FnP K "check_ring" s_check_ring f fd) (C_is_between : Cal P w K mg base 2 "is_between" ["value", "least", "most"] F_is_between s_is_between) (g_MOST_RING : ∃ t, mg "MOST_RING" = some (.int 1000000000 t)) :
    FnG P w K mg base CX0 3 f fd ["n", "m"] (spD K 2 F_check_ring) := by
  refine fn_okTG F sc_check_ring fun cdv A outer s H E hr hgu => ?_
  exact JSs.b (K := K) (m := m_check_ring) (jss_one (js_for (ji_seq (je_tup (ja_cons (je_v 0) (ja_cons (je_v 1) ja_nil)))) (jg_n 2 sc_check_ring.nd) (jss_one (js_if (jt_not (jt_tru (je_callP C_is_between (hr.mono (by decide)) hgu (ja_cons (je_v 2) (ja_cons je_int (ja_cons (je_gint g_MOST_RING) ja_nil)))))) (jss_one js_never) jss_nil))))
theorem ok_goes (F : FnP K "goes" s_goes f fd) (C_shared_prime : Cal P w K mg base 2 "shared_prime" ["n", "m"] F_shared_prime s_shared_prime) :
    FnG P w K mg base CX0 3 f fd ["n", "m"] (spD K 2 F_goes) := by
  refine fn_okTG F sc_goes fun cdv A outer s H E hr hgu => ?_
  exact JSs.b (K := K) (m := m_goes) (jss_one (js_ret (je_or (je_cmp (jc_eq hr) (je_v 0) je_int) (je_or (je_cmp (jc_eq hr) (je_v 1) je_int) (je_one (je_cmp jc_notN (je_callP C_shared_prime (hr.mono (by decide)) hgu (ja_cons (je_v 0) (ja_cons (je_v 1) ja_nil))) je_non))))))
theorem ok_ring_kinds (F : FnP K "ring_kinds" s_ring_kinds f fd) (C_divisor : Cal P w K mg base 1 "divisor" ["one", "other"] F_divisor s_divisor) (C_is_between : Cal P w K mg base 2 "is_between" ["value", "least", "most"] F_is_between s_is_between) (C_power_of : Cal P w K mg base 1 "power_of" ["base", "times"] F_power_of s_power_of) (g_MOST_KIND_DIALS : ∃ t, mg "MOST_KIND_DIALS" = some (.int 200 t)) (g_MOST_KIND_MARKS : ∃ t, mg "MOST_KIND_MARKS" = some (.int 1000 t)) (g_range : mg "range" = none) :
    FnG P w K mg base CX0 3 f fd ["n", "m"] (spD K 2 F_ring_kinds) := by
  refine fn_okTG F sc_ring_kinds fun cdv A outer s H E hr hgu => ?_
  exact JSs.b (K := K) (m := m_ring_kinds) (jss_cons (js_if (jt_not (jt_tru (je_callP C_is_between (hr.mono (by decide)) hgu (ja_cons (je_v 0) (ja_cons je_int (ja_cons (je_gint g_MOST_KIND_DIALS) ja_nil)))))) (jss_one js_never) jss_nil)
    (jss_cons (js_if (jt_not (jt_tru (je_callP C_is_between (hr.mono (by decide)) hgu (ja_cons (je_v 1) (ja_cons je_int (ja_cons (je_gint g_MOST_KIND_MARKS) ja_nil)))))) (jss_one js_never) jss_nil)
    (jss_cons (js_set 2 sc_ring_kinds.nd je_int)
    (jss_cons (js_for (ji_rng2 g_range (ja_cons je_int (ja_cons (je_add (je_v 0) je_int) ja_nil))) (jg_n 3 sc_ring_kinds.nd) (jss_cons (js_set 4 sc_ring_kinds.nd (je_callP C_divisor (hr.mono (by decide)) hgu (ja_cons (je_v 0) (ja_cons (je_v 3) ja_nil))))
    (jss_one (js_set 2 sc_ring_kinds.nd (je_add (je_v 2) (je_mul (je_callP C_divisor (hr.mono (by decide)) hgu (ja_cons (je_div (je_v 0) (je_v 4)) (ja_cons (je_v 1) ja_nil))) (je_callP C_power_of (hr.mono (by decide)) hgu (ja_cons (je_v 1) (ja_cons (je_v 4) ja_nil)))))))))
    (jss_one (js_ret (je_sub (je_div (je_v 2) (je_mul (je_v 0) (je_v 1))) je_int)))))))
theorem ok_ring_can (F : FnP K "ring_can" s_ring_can f fd) (C_check_ring : Cal P w K mg base 3 "check_ring" ["n", "m"] F_check_ring s_check_ring) (C_goes : Cal P w K mg base 3 "goes" ["n", "m"] F_goes s_goes) :
    FnG P w K mg base CX0 4 f fd ["n", "m"] (spD K 2 F_ring_can) := by
  refine fn_okTG F sc_ring_can fun cdv A outer s H E hr hgu => ?_
  exact JSs.b (K := K) (m := m_ring_can) (jss_cons (js_expr (je_callP C_check_ring (hr.mono (by decide)) hgu (ja_cons (je_v 0) (ja_cons (je_v 1) ja_nil))))
    (jss_one (js_ret (je_callP C_goes (hr.mono (by decide)) hgu (ja_cons (je_v 0) (ja_cons (je_v 1) ja_nil))))))
theorem ok_ring_moves (F : FnP K "ring_moves" s_ring_moves f fd) (C_check_ring : Cal P w K mg base 3 "check_ring" ["n", "m"] F_check_ring s_check_ring) (C_goes : Cal P w K mg base 3 "goes" ["n", "m"] F_goes s_goes) (C_is_integer : Cal P w K mg base 1 "is_integer" ["value"] F_is_integer s_is_integer) (C_power_rest : Cal P w K mg base 1 "power_rest" ["base", "times", "modulus"] F_power_rest s_power_rest) :
    FnG P w K mg base CX0 4 f fd ["n", "m", "modulus"] (spD K 3 F_ring_moves) := by
  refine fn_okTG F sc_ring_moves fun cdv A outer s H E hr hgu => ?_
  exact JSs.b (K := K) (m := m_ring_moves) (jss_cons (js_expr (je_callP C_check_ring (hr.mono (by decide)) hgu (ja_cons (je_v 0) (ja_cons (je_v 1) ja_nil))))
    (jss_cons (js_if (JW.jt (jw_or (jt_not (jt_tru (je_callP C_is_integer (hr.mono (by decide)) hgu (ja_cons (je_v 2) ja_nil)))) (jw_or1 (jt_cmp jc_lt (je_v 2) je_int)))) (jss_one js_never) jss_nil)
    (jss_one (js_ret (je_if (jt_tru (je_callP C_goes (hr.mono (by decide)) hgu (ja_cons (je_v 0) (ja_cons (je_v 1) ja_nil)))) (je_mod (je_sub (je_callP C_power_rest (hr.mono (by decide)) hgu (ja_cons (je_v 1) (ja_cons (je_sub (je_v 0) je_int) (ja_cons (je_v 2) ja_nil)))) je_int) (je_v 2)) je_non)))))
theorem ok__law_right (F : FnP K "_law_right" s__law_right f fd) (C__law_classes : Cal P w K mg base 2 "_law_classes" ["_law_first", "_law_second"] F__law_classes s__law_classes) (C__law_draw : Cal P w K mg base 1 "_law_draw" ["_law_spring_here", "_law_size"] F__law_draw s__law_draw) (C__law_of : Cal P w K mg base 2 "_law_of" ["_law_spring_here", "_law_menu"] F__law_of s__law_of) (C_ring_can : Cal P w K mg base 4 "ring_can" ["n", "m"] F_ring_can s_ring_can) (C_ring_kinds : Cal P w K mg base 3 "ring_kinds" ["n", "m"] F_ring_kinds s_ring_kinds) (C_ring_moves : Cal P w K mg base 4 "ring_moves" ["n", "m", "modulus"] F_ring_moves s_ring_moves) (g_int : mg "int" = none) (g_range : mg "range" = none) (g_repr : mg "repr" = none) :
    FnG P w K mg base CX0 5 f fd ["_law_spring_here"] (spD K 1 F__law_right) := by
  refine fn_okTG F sc__law_right fun cdv A outer s H E hr hgu => ?_
  exact JSs.b (K := K) (m := m__law_right) (jss_cons (js_for (ji_rng1 g_range (ja_cons je_int ja_nil)) (jg_n 1 sc__law_right.nd) (jss_cons (js_par3 2 3 4 sc__law_right.nd (ja_cons (je_add je_int (je_call C__law_draw (hr.mono (by decide)) hgu (ja_cons (je_v 0) (ja_cons je_int ja_nil)))) (ja_cons (je_add je_int (je_call C__law_draw (hr.mono (by decide)) hgu (ja_cons (je_v 0) (ja_cons je_int ja_nil)))) (ja_cons (je_add je_int (je_call C__law_draw (hr.mono (by decide)) hgu (ja_cons (je_v 0) (ja_cons je_int ja_nil)))) ja_nil))))
    (jss_cons (js_set 5 sc__law_right.nd je_int)
    (jss_cons (js_for (ji_rng1 g_range (ja_cons (je_sub (je_v 2) je_int) ja_nil)) (jg_n 6 sc__law_right.nd) (jss_one (js_set 5 sc__law_right.nd (je_mul (je_v 5) (je_v 3)))))
    (jss_cons (js_set 7 sc__law_right.nd (je_if (jt_tru (je_callP C_ring_can (hr.mono (by decide)) hgu (ja_cons (je_v 2) (ja_cons (je_v 3) ja_nil)))) (je_mod (je_t jb_int g_int (ja_cons (je_sub (je_v 5) je_int) ja_nil)) (je_v 4)) je_non))
    (jss_cons (js_set 8 sc__law_right.nd (JF.f (jf_lst (ja_cons (je_callP C_ring_moves (hr.mono (by decide)) hgu (ja_cons (je_v 2) (ja_cons (je_v 3) (ja_cons (je_v 4) ja_nil)))) (ja_cons (je_callPK0 [2, 1, 0] C_ring_moves (hr.mono (by decide)) hgu (jk_cons (je_v 4) (jk_cons (je_v 3) (jk_cons (je_v 2) jk_nil))) (fun _ _ _ _ _ _ _ us ws hu hw => match us, ws, hu, hw with | [], [_, _, _], _, _ => rfl)) ja_nil)))))
    (jss_cons (js_if (jt_cmp (jc_ne hr) (je_b (jb_repr hr hgu) g_repr (ja_cons (je_v 8) ja_nil)) (je_b (jb_repr hr hgu) g_repr (ja_cons (JF.f (jf_lst (ja_cons (je_v 7) (ja_cons (je_v 7) ja_nil)))) ja_nil))) (jss_one (js_ret je_bl)) jss_nil)
    (jss_cons (js_asg (je_call C__law_of (hr.mono (by decide)) hgu (ja_cons (je_v 0) (ja_cons (JF.f (jf_lst (ja_cons (je_tup (ja_cons je_int (ja_cons je_int ja_nil))) (ja_cons (je_tup (ja_cons je_int (ja_cons je_int ja_nil))) (ja_cons (je_tup (ja_cons je_int (ja_cons je_int ja_nil))) (ja_cons (je_tup (ja_cons je_int (ja_cons je_int ja_nil))) (ja_cons (je_tup (ja_cons je_int (ja_cons je_int ja_nil))) (ja_cons (je_tup (ja_cons je_int (ja_cons je_int ja_nil))) (ja_cons (je_tup (ja_cons je_int (ja_cons je_int ja_nil))) (ja_cons (je_tup (ja_cons je_int (ja_cons je_int ja_nil))) (ja_cons (je_tup (ja_cons je_int (ja_cons je_int ja_nil))) (ja_cons (je_tup (ja_cons je_int (ja_cons je_int ja_nil))) ja_nil)))))))))))) ja_nil))) (jg_tup (jgs_cons (jg_n 2 sc__law_right.nd) (jgs_cons (jg_n 3 sc__law_right.nd) jgs_nil))))
    (jss_cons (js_set 7 sc__law_right.nd (je_callP C__law_classes (hr.mono (by decide)) hgu (ja_cons (je_v 2) (ja_cons (je_v 3) ja_nil))))
    (jss_one (js_if (jt_cmp (jc_ne hr) (je_b (jb_repr hr hgu) g_repr (ja_cons (JF.f (jf_lst (ja_cons (je_callP C_ring_kinds (hr.mono (by decide)) hgu (ja_cons (je_v 2) (ja_cons (je_v 3) ja_nil))) (ja_cons (je_callPK0 [1, 0] C_ring_kinds (hr.mono (by decide)) hgu (jk_cons (je_v 3) (jk_cons (je_v 2) jk_nil)) (fun _ _ _ _ _ _ _ us ws hu hw => match us, ws, hu, hw with | [], [_, _], _, _ => rfl)) ja_nil)))) ja_nil)) (je_b (jb_repr hr hgu) g_repr (ja_cons (JF.f (jf_lst (ja_cons (je_v 7) (ja_cons (je_v 7) ja_nil)))) ja_nil))) (jss_one (js_ret je_bl)) jss_nil)))))))))))
    (jss_one (js_ret je_bl)))
theorem ok_law (F : FnP K "law" s_law f fd) (C__law_right : Cal P w K mg base 5 "_law_right" ["_law_spring_here"] F__law_right s__law_right) (C__law_spring : Cal P w K mg base 1 "_law_spring" ["_law_cells", "_law_k"] F__law_spring s__law_spring) (C_ring_kinds : Cal P w K mg base 3 "ring_kinds" ["n", "m"] F_ring_kinds s_ring_kinds) (C_ring_moves : Cal P w K mg base 4 "ring_moves" ["n", "m", "modulus"] F_ring_moves s_ring_moves) (g_all : mg "all" = none) (g_len : mg "len" = none) (g_max : mg "max" = none) (g_min : mg "min" = none) (g_range : mg "range" = none) :
    FnG P w K mg base CX0 6 f fd ["_law_script"] (spD K 1 F_law) := by
  refine fn_okTG F sc_law fun cdv A outer s H E hr hgu => ?_
  exact JSs.b (K := K) (m := m_law) (jss_cons (js_if (jt_cmp (jc_ne hr) (JF.f (jf_lst (ja_cons (je_callP C_ring_moves (hr.mono (by decide)) hgu (ja_cons je_int (ja_cons je_int (ja_cons je_int ja_nil)))) (ja_cons (je_callP C_ring_moves (hr.mono (by decide)) hgu (ja_cons (je_pow je_int je_int) (ja_cons je_int (ja_cons je_int ja_nil)))) (ja_cons (je_callP C_ring_moves (hr.mono (by decide)) hgu (ja_cons je_int (ja_cons je_int (ja_cons je_int ja_nil)))) (ja_cons (je_callP C_ring_moves (hr.mono (by decide)) hgu (ja_cons je_int (ja_cons je_int (ja_cons je_int ja_nil)))) ja_nil)))))) (JF.f (jf_lst (ja_cons je_int (ja_cons je_int (ja_cons je_non (ja_cons je_int ja_nil))))))) (jss_one (js_ret je_bl)) jss_nil)
    (jss_cons (js_if (jt_cmp (jc_ne hr) (JF.f (jf_lst (ja_cons (je_callP C_ring_kinds (hr.mono (by decide)) hgu (ja_cons je_int (ja_cons je_int ja_nil))) (ja_cons (je_callP C_ring_kinds (hr.mono (by decide)) hgu (ja_cons je_int (ja_cons je_int ja_nil))) (ja_cons (je_callP C_ring_kinds (hr.mono (by decide)) hgu (ja_cons je_int (ja_cons je_int ja_nil))) (ja_cons (je_callP C_ring_kinds (hr.mono (by decide)) hgu (ja_cons je_int (ja_cons je_int ja_nil))) (ja_cons (je_callP C_ring_kinds (hr.mono (by decide)) hgu (ja_cons je_int (ja_cons je_int ja_nil))) ja_nil))))))) (JF.f (jf_lst (ja_cons je_int (ja_cons je_int (ja_cons je_int (ja_cons je_int (ja_cons je_int ja_nil)))))))) (jss_one (js_ret je_bl)) jss_nil)
    (jss_one (js_ret (je_b jb_all g_all (ja_cons (JF.f (jf_lc sc_law.nd (ji_rng1 g_range (ja_cons (je_b jb_max2 g_max (ja_cons je_int (ja_cons (je_b jb_min2 g_min (ja_cons (je_b jb_len g_len (ja_cons (je_v 0) ja_nil)) (ja_cons je_int ja_nil))) ja_nil))) ja_nil)) (own := [("_law_k", 1)]) (blkOk_by (N := ["_law_script", "_law_k"]) (sc := defScope s_law) (by decide +kernel)) (gw_name (by decide)) (fun _ _ _ _ _ => (jg_n 1 sc_law.nd)) (fun _ _ _ _ _ => jts_nil) (fun _ _ _ _ _ => (je_call C__law_right (hr.mono (by decide)) hgu (ja_cons (je_call C__law_spring (hr.mono (by decide)) hgu (ja_cons (je_v 0) (ja_cons (je_v 1) ja_nil))) ja_nil))))) ja_nil))))))
end
/-! the head -/
def d_is_integer : He.DefD := ⟨("is_integer", none), "is_integer", "is_integer", defArgs s_is_integer, defBody s_is_integer, defScope s_is_integer, [], []⟩
def d_power_of : He.DefD := ⟨("power_of", none), "power_of", "power_of", defArgs s_power_of, defBody s_power_of, defScope s_power_of, [], []⟩
def d_prime_of : He.DefD := ⟨("prime_of", none), "prime_of", "prime_of", defArgs s_prime_of, defBody s_prime_of, defScope s_prime_of, [], []⟩
def d_power_rest : He.DefD := ⟨("power_rest", none), "power_rest", "power_rest", defArgs s_power_rest, defBody s_power_rest, defScope s_power_rest, [], []⟩
def d_divisor : He.DefD := ⟨("divisor", none), "divisor", "divisor", defArgs s_divisor, defBody s_divisor, defScope s_divisor, [], []⟩
def d__law_spring : He.DefD := ⟨("_law_spring", none), "_law_spring", "_law_spring", defArgs s__law_spring, defBody s__law_spring, defScope s__law_spring, [], []⟩
def d__law_draw : He.DefD := ⟨("_law_draw", none), "_law_draw", "_law_draw", defArgs s__law_draw, defBody s__law_draw, defScope s__law_draw, [], []⟩
def d__law_all : He.DefD := ⟨("_law_all", none), "_law_all", "_law_all", defArgs s__law_all, defBody s__law_all, defScope s__law_all, [], []⟩
def d_is_between : He.DefD := ⟨("is_between", none), "is_between", "is_between", defArgs s_is_between, defBody s_is_between, defScope s_is_between, [], []⟩
def d_shared_prime : He.DefD := ⟨("shared_prime", none), "shared_prime", "shared_prime", defArgs s_shared_prime, defBody s_shared_prime, defScope s_shared_prime, [], []⟩
def d__law_of : He.DefD := ⟨("_law_of", none), "_law_of", "_law_of", defArgs s__law_of, defBody s__law_of, defScope s__law_of, [], []⟩
def d__law_classes : He.DefD := ⟨("_law_classes", none), "_law_classes", "_law_classes", defArgs s__law_classes, defBody s__law_classes, defScope s__law_classes, [], []⟩
def d_check_ring : He.DefD := ⟨("check_ring", none), "check_ring", "check_ring", defArgs s_check_ring, defBody s_check_ring, defScope s_check_ring, [], []⟩
def d_goes : He.DefD := ⟨("goes", none), "goes", "goes", defArgs s_goes, defBody s_goes, defScope s_goes, [], []⟩
def d_ring_kinds : He.DefD := ⟨("ring_kinds", none), "ring_kinds", "ring_kinds", defArgs s_ring_kinds, defBody s_ring_kinds, defScope s_ring_kinds, [], []⟩
def d_ring_can : He.DefD := ⟨("ring_can", none), "ring_can", "ring_can", defArgs s_ring_can, defBody s_ring_can, defScope s_ring_can, [], []⟩
def d_ring_moves : He.DefD := ⟨("ring_moves", none), "ring_moves", "ring_moves", defArgs s_ring_moves, defBody s_ring_moves, defScope s_ring_moves, [], []⟩
def d__law_right : He.DefD := ⟨("_law_right", none), "_law_right", "_law_right", defArgs s__law_right, defBody s__law_right, defScope s__law_right, [], []⟩
def d_law : He.DefD := ⟨("law", none), "law", "law", defArgs s_law, defBody s_law, defScope s_law, [], []⟩
def fn : List He.DefD := [d_is_integer, d_power_of, d_prime_of, d_power_rest, d_divisor, d__law_spring, d__law_draw, d__law_all, d_is_between, d_shared_prime, d__law_of, d__law_classes, d_check_ring, d_goes, d_ring_kinds, d_ring_can, d_ring_moves, d__law_right, d_law]
def fa : List He.Fa := [.glo "is_integer", .glo "power_of", .glo "prime_of", .glo "power_rest", .glo "divisor", .glo "_law_spring", .glo "_law_draw", .glo "_law_all", .glo "is_between", .glo "shared_prime", .glo "_law_of", .glo "_law_classes", .glo "check_ring", .glo "goes", .glo "ring_kinds", .glo "ring_can", .glo "ring_moves", .glo "_law_right", .glo "law", .int "MOST_KIND_DIALS" 200, .int "MOST_KIND_MARKS" 1000, .int "MOST_RING" 1000000000, .free "abs", .free "all", .free "bool", .free "divmod", .free "int", .free "isinstance", .free "len", .free "max", .free "min", .free "range", .free "repr", .free "tuple"]
abbrev R : PySem.W.OpenRow := PySem.W.OpenLaw.row PySem.Challenge.rw_turnedblind_k20_whole_moves_and_kinds_of
abbrev hk : PySem.W.Hook := He.hookD 40 fa fn
def ob (s : PySem.W.SharedT) : He.AlD := He.obsDG 40 fa fn (HandSHeadRun.getT s)
theorem ob_eq (s : PySem.W.SharedT) : ob s = hk.obs s.abs := He.obsDG_eq (HandSHeadRun.getT_eq s)
def names : List PySem.Str := ["is_integer", "is_between", "power_of", "check_ring", "prime_of", "shared_prime", "goes", "ring_can", "power_rest", "ring_moves", "divisor", "ring_kinds", "_law_spring", "_law_draw", "_law_of", "_law_all", "_law_classes", "_law_right", "WrongValue", "InvalidNumber", "MOST_RING", "MOST_KIND_DIALS", "MOST_KIND_MARKS"]
theorem run (w : World) : HandSHeadRun.RunEq R (PySem.W.view R.prog [27]) hk ob 4000 names w := by
  intro os
  kernel_rfl
theorem facts {P : Program} {w : World} {K : PySem.W.Frag} {h : Heap} {mg : Str → Option Value} {f : Addr} (X : K.In h) (G : h.Ns mainGlobals mg) (hfa : mg ("law" : Str) = some (.ref f)) (c : He.SaysD fa fn K) :
    ∃ fd : FuncData, (∀ (s : Shared) (v : Value), BindsTo s fd ⟨[v], []⟩ [("_law_script", v)]) ∧ ∀ base : Heap, K.In base → base.Ns mainGlobals mg → FnG P w K mg base CX0 6 f fd ["_law_script"] (spD K 1 F_law) := by
  obtain ⟨fd_is_integer, D_is_integer⟩ := c.def_ 0 (d := d_is_integer) rfl
  obtain ⟨fd_power_of, D_power_of⟩ := c.def_ 1 (d := d_power_of) rfl
  obtain ⟨fd_prime_of, D_prime_of⟩ := c.def_ 2 (d := d_prime_of) rfl
  obtain ⟨fd_power_rest, D_power_rest⟩ := c.def_ 3 (d := d_power_rest) rfl
  obtain ⟨fd_divisor, D_divisor⟩ := c.def_ 4 (d := d_divisor) rfl
  obtain ⟨fd__law_spring, D__law_spring⟩ := c.def_ 5 (d := d__law_spring) rfl
  obtain ⟨fd__law_draw, D__law_draw⟩ := c.def_ 6 (d := d__law_draw) rfl
  obtain ⟨fd__law_all, D__law_all⟩ := c.def_ 7 (d := d__law_all) rfl
  obtain ⟨fd_is_between, D_is_between⟩ := c.def_ 8 (d := d_is_between) rfl
  obtain ⟨fd_shared_prime, D_shared_prime⟩ := c.def_ 9 (d := d_shared_prime) rfl
  obtain ⟨fd__law_of, D__law_of⟩ := c.def_ 10 (d := d__law_of) rfl
  obtain ⟨fd__law_classes, D__law_classes⟩ := c.def_ 11 (d := d__law_classes) rfl
  obtain ⟨fd_check_ring, D_check_ring⟩ := c.def_ 12 (d := d_check_ring) rfl
  obtain ⟨fd_goes, D_goes⟩ := c.def_ 13 (d := d_goes) rfl
  obtain ⟨fd_ring_kinds, D_ring_kinds⟩ := c.def_ 14 (d := d_ring_kinds) rfl
  obtain ⟨fd_ring_can, D_ring_can⟩ := c.def_ 15 (d := d_ring_can) rfl
  obtain ⟨fd_ring_moves, D_ring_moves⟩ := c.def_ 16 (d := d_ring_moves) rfl
  obtain ⟨fd__law_right, D__law_right⟩ := c.def_ 17 (d := d__law_right) rfl
  obtain ⟨fd_law, D_law⟩ := c.def_ 18 (d := d_law) rfl
  have g_is_integer := He.glo_ok X G (c.fact 0 (f := .glo "is_integer") rfl)
  have g_power_of := He.glo_ok X G (c.fact 1 (f := .glo "power_of") rfl)
  have g_prime_of := He.glo_ok X G (c.fact 2 (f := .glo "prime_of") rfl)
  have g_power_rest := He.glo_ok X G (c.fact 3 (f := .glo "power_rest") rfl)
  have g_divisor := He.glo_ok X G (c.fact 4 (f := .glo "divisor") rfl)
  have g__law_spring := He.glo_ok X G (c.fact 5 (f := .glo "_law_spring") rfl)
  have g__law_draw := He.glo_ok X G (c.fact 6 (f := .glo "_law_draw") rfl)
  have g__law_all := He.glo_ok X G (c.fact 7 (f := .glo "_law_all") rfl)
  have g_is_between := He.glo_ok X G (c.fact 8 (f := .glo "is_between") rfl)
  have g_shared_prime := He.glo_ok X G (c.fact 9 (f := .glo "shared_prime") rfl)
  have g__law_of := He.glo_ok X G (c.fact 10 (f := .glo "_law_of") rfl)
  have g__law_classes := He.glo_ok X G (c.fact 11 (f := .glo "_law_classes") rfl)
  have g_check_ring := He.glo_ok X G (c.fact 12 (f := .glo "check_ring") rfl)
  have g_goes := He.glo_ok X G (c.fact 13 (f := .glo "goes") rfl)
  have g_ring_kinds := He.glo_ok X G (c.fact 14 (f := .glo "ring_kinds") rfl)
  have g_ring_can := He.glo_ok X G (c.fact 15 (f := .glo "ring_can") rfl)
  have g_ring_moves := He.glo_ok X G (c.fact 16 (f := .glo "ring_moves") rfl)
  have g__law_right := He.glo_ok X G (c.fact 17 (f := .glo "_law_right") rfl)
  have g_law := He.glo_ok X G (c.fact 18 (f := .glo "law") rfl)
  have g_MOST_KIND_DIALS := He.int_ok X G (c.fact 19 (f := .int "MOST_KIND_DIALS" 200) rfl)
  have g_MOST_KIND_MARKS := He.int_ok X G (c.fact 20 (f := .int "MOST_KIND_MARKS" 1000) rfl)
  have g_MOST_RING := He.int_ok X G (c.fact 21 (f := .int "MOST_RING" 1000000000) rfl)
  have g_abs := He.free_ok X G (c.fact 22 (f := .free "abs") rfl)
  have g_all := He.free_ok X G (c.fact 23 (f := .free "all") rfl)
  have g_bool := He.free_ok X G (c.fact 24 (f := .free "bool") rfl)
  have g_divmod := He.free_ok X G (c.fact 25 (f := .free "divmod") rfl)
  have g_int := He.free_ok X G (c.fact 26 (f := .free "int") rfl)
  have g_isinstance := He.free_ok X G (c.fact 27 (f := .free "isinstance") rfl)
  have g_len := He.free_ok X G (c.fact 28 (f := .free "len") rfl)
  have g_max := He.free_ok X G (c.fact 29 (f := .free "max") rfl)
  have g_min := He.free_ok X G (c.fact 30 (f := .free "min") rfl)
  have g_range := He.free_ok X G (c.fact 31 (f := .free "range") rfl)
  have g_repr := He.free_ok X G (c.fact 32 (f := .free "repr") rfl)
  have g_tuple := He.free_ok X G (c.fact 33 (f := .free "tuple") rfl)
  have e := hfa.symm.trans g_law
  cases e
  have b := FunD.bindsA (ps := ["_law_script"]) D_law fun _ _ _ _ _ _ us hl => match us, hl with | [_], _ => rfl
  refine ⟨fd_law, fun s v => b s [v] rfl, fun base _ _ => ?_⟩
  have C_is_integer : Cal P w K mg base 1 "is_integer" ["value"] F_is_integer s_is_integer := ⟨_, fd_is_integer, ok_is_integer D_is_integer g_bool g_int g_isinstance, g_is_integer, D_is_integer.kp, D_is_integer.bindsN fun _ _ _ _ _ _ us hl => match us, hl with | [_], _ => rfl, _, D_is_integer⟩
  have C_power_of : Cal P w K mg base 1 "power_of" ["base", "times"] F_power_of s_power_of := ⟨_, fd_power_of, ok_power_of D_power_of g_range, g_power_of, D_power_of.kp, D_power_of.bindsN fun _ _ _ _ _ _ us hl => match us, hl with | [_, _], _ => rfl, _, D_power_of⟩
  have C_prime_of : Cal P w K mg base 1 "prime_of" ["value"] F_prime_of s_prime_of := ⟨_, fd_prime_of, ok_prime_of D_prime_of , g_prime_of, D_prime_of.kp, D_prime_of.bindsN fun _ _ _ _ _ _ us hl => match us, hl with | [_], _ => rfl, _, D_prime_of⟩
  have C_power_rest : Cal P w K mg base 1 "power_rest" ["base", "times", "modulus"] F_power_rest s_power_rest := ⟨_, fd_power_rest, ok_power_rest D_power_rest , g_power_rest, D_power_rest.kp, D_power_rest.bindsN fun _ _ _ _ _ _ us hl => match us, hl with | [_, _, _], _ => rfl, _, D_power_rest⟩
  have C_divisor : Cal P w K mg base 1 "divisor" ["one", "other"] F_divisor s_divisor := ⟨_, fd_divisor, ok_divisor D_divisor , g_divisor, D_divisor.kp, D_divisor.bindsN fun _ _ _ _ _ _ us hl => match us, hl with | [_, _], _ => rfl, _, D_divisor⟩
  have C__law_spring : Cal P w K mg base 1 "_law_spring" ["_law_cells", "_law_k"] F__law_spring s__law_spring := ⟨_, fd__law_spring, ok__law_spring D__law_spring g_abs g_int g_len, g__law_spring, D__law_spring.kp, D__law_spring.bindsN fun _ _ _ _ _ _ us hl => match us, hl with | [_, _], _ => rfl, _, D__law_spring⟩
  have C__law_draw : Cal P w K mg base 1 "_law_draw" ["_law_spring_here", "_law_size"] F__law_draw s__law_draw := ⟨_, fd__law_draw, ok__law_draw D__law_draw g_divmod g_int, g__law_draw, D__law_draw.kp, D__law_draw.bindsN fun _ _ _ _ _ _ us hl => match us, hl with | [_, _], _ => rfl, _, D__law_draw⟩
  have C__law_all : Cal P w K mg base 1 "_law_all" ["_law_dial_count", "_law_size"] F__law_all s__law_all := ⟨_, fd__law_all, ok__law_all D__law_all g_range, g__law_all, D__law_all.kp, D__law_all.bindsN fun _ _ _ _ _ _ us hl => match us, hl with | [_, _], _ => rfl, _, D__law_all⟩
  have C_is_between : Cal P w K mg base 2 "is_between" ["value", "least", "most"] F_is_between s_is_between := ⟨_, fd_is_between, ok_is_between D_is_between C_is_integer, g_is_between, D_is_between.kp, D_is_between.bindsN fun _ _ _ _ _ _ us hl => match us, hl with | [_, _, _], _ => rfl, _, D_is_between⟩
  have C_shared_prime : Cal P w K mg base 2 "shared_prime" ["n", "m"] F_shared_prime s_shared_prime := ⟨_, fd_shared_prime, ok_shared_prime D_shared_prime C_prime_of, g_shared_prime, D_shared_prime.kp, D_shared_prime.bindsN fun _ _ _ _ _ _ us hl => match us, hl with | [_, _], _ => rfl, _, D_shared_prime⟩
  have C__law_of : Cal P w K mg base 2 "_law_of" ["_law_spring_here", "_law_menu"] F__law_of s__law_of := ⟨_, fd__law_of, ok__law_of D__law_of C__law_draw g_len, g__law_of, D__law_of.kp, D__law_of.bindsN fun _ _ _ _ _ _ us hl => match us, hl with | [_, _], _ => rfl, _, D__law_of⟩
  have C__law_classes : Cal P w K mg base 2 "_law_classes" ["_law_first", "_law_second"] F__law_classes s__law_classes := ⟨_, fd__law_classes, ok__law_classes D__law_classes C__law_all g_int g_range g_tuple, g__law_classes, D__law_classes.kp, D__law_classes.bindsN fun _ _ _ _ _ _ us hl => match us, hl with | [_, _], _ => rfl, _, D__law_classes⟩
  have C_check_ring : Cal P w K mg base 3 "check_ring" ["n", "m"] F_check_ring s_check_ring := ⟨_, fd_check_ring, ok_check_ring D_check_ring C_is_between g_MOST_RING, g_check_ring, D_check_ring.kp, D_check_ring.bindsN fun _ _ _ _ _ _ us hl => match us, hl with | [_, _], _ => rfl, _, D_check_ring⟩
  have C_goes : Cal P w K mg base 3 "goes" ["n", "m"] F_goes s_goes := ⟨_, fd_goes, ok_goes D_goes C_shared_prime, g_goes, D_goes.kp, D_goes.bindsN fun _ _ _ _ _ _ us hl => match us, hl with | [_, _], _ => rfl, _, D_goes⟩
  have C_ring_kinds : Cal P w K mg base 3 "ring_kinds" ["n", "m"] F_ring_kinds s_ring_kinds := ⟨_, fd_ring_kinds, ok_ring_kinds D_ring_kinds C_divisor C_is_between C_power_of g_MOST_KIND_DIALS g_MOST_KIND_MARKS g_range, g_ring_kinds, D_ring_kinds.kp, D_ring_kinds.bindsN fun _ _ _ _ _ _ us hl => match us, hl with | [_, _], _ => rfl, _, D_ring_kinds⟩
  have C_ring_can : Cal P w K mg base 4 "ring_can" ["n", "m"] F_ring_can s_ring_can := ⟨_, fd_ring_can, ok_ring_can D_ring_can C_check_ring C_goes, g_ring_can, D_ring_can.kp, D_ring_can.bindsN fun _ _ _ _ _ _ us hl => match us, hl with | [_, _], _ => rfl, _, D_ring_can⟩
  have C_ring_moves : Cal P w K mg base 4 "ring_moves" ["n", "m", "modulus"] F_ring_moves s_ring_moves := ⟨_, fd_ring_moves, ok_ring_moves D_ring_moves C_check_ring C_goes C_is_integer C_power_rest, g_ring_moves, D_ring_moves.kp, D_ring_moves.bindsN fun _ _ _ _ _ _ us hl => match us, hl with | [_, _, _], _ => rfl, _, D_ring_moves⟩
  have C__law_right : Cal P w K mg base 5 "_law_right" ["_law_spring_here"] F__law_right s__law_right := ⟨_, fd__law_right, ok__law_right D__law_right C__law_classes C__law_draw C__law_of C_ring_can C_ring_kinds C_ring_moves g_int g_range g_repr, g__law_right, D__law_right.kp, D__law_right.bindsN fun _ _ _ _ _ _ us hl => match us, hl with | [_], _ => rfl, _, D__law_right⟩
  exact ok_law D_law C__law_right C__law_spring C_ring_kinds C_ring_moves g_all g_len g_max g_min g_range
end K20
open PySem PySem.W PySem.Calls PyProof.Rows
theorem K20.fits (hl : ∀ ns : List Int, ns.length ≤ 63 → ∃ h', K20.F_law [.scr (ns.map Ab.D.int)] [] = .ok (.bl true) h') : PySem.Challenge.rw_turnedblind_k20_whole_moves_and_kinds_of.Holds := by
  w_on; o_law
  refine HandSHeadRun.head_any (r := OpenLaw.row PySem.Challenge.rw_turnedblind_k20_whole_moves_and_kinds_of) (q := view (OpenLaw.row PySem.Challenge.rw_turnedblind_k20_whole_moves_and_kinds_of).prog [27]) (H := K20.hk) (ob := K20.ob) (M := 4000) (loose := K20.names) (d := HandSHeadRun.topDef (OpenLaw.row PySem.Challenge.rw_turnedblind_k20_whole_moves_and_kinds_of).prog 27) (kwd := []) K20.ob_eq
    (by kernel_rfl) (fun s => by kernel_rfl) K20.run (by kernel_rfl) (by kernel_rfl) (by kernel_rfl) (by rfl) (by first | assumption | decide +kernel) (by decide +kernel) ⟨rfl, rfl, rfl, rfl, rfl, by decide +kernel⟩ ?hw ?hc
  case hw => w_witness2
  case hc =>
    refine Ab.walk_G (l := PySem.Challenge.rw_turnedblind_k20_whole_moves_and_kinds_of) (n := 63) (k := 6) (x := "_law_script") rfl (by decide) (by kernel_rfl) ⟨rfl, by decide, by decide⟩ ?F
    intro w mg fa h Y G hmg0
    obtain ⟨K, KX, c⟩ := Y
    have hmg : mg ("law" : PySem.Str) = some (.ref fa) := by
      have e : (HandSHeadRun.topDef (OpenLaw.row PySem.Challenge.rw_turnedblind_k20_whole_moves_and_kinds_of).prog 27).name = ("law" : PySem.Str) := by kernel_rfl
      rw [← e]
      exact hmg0
    obtain ⟨fd, hb, hF⟩ := K20.facts (P := (PySem.Challenge.rw_turnedblind_k20_whole_moves_and_kinds_of).prog) (w := w) KX G hmg c
    exact ⟨K, fd, Ab.spD K 1 K20.F_law, KX, hb, fun H a ns hlen hO hS => Ab.sp_law hl H a ns hlen hO hS, hF⟩

namespace K20
open PySem PySem.Spec L2 Ab
section
variable {h : AH} {n m : Nat}
theorem is_integer_ok {v : Int} : F_is_integer [.int v] h = .ok (.bl true) h := by simp [F_is_integer, m_is_integer, initE]
theorem is_integer_c {v : Int} : callP 1 F_is_integer [.int v] h = .ok (.bl true) h := c_P (is_integer_ok (h := [])) rfl (by simp [belowL]) (by simp)
theorem is_between_ok {v a b : Int} (h1 : a ≤ v) (h2 : v ≤ b) : F_is_between [.int v, .int a, .int b] h = .ok (.bl true) h := by simp [F_is_between, m_is_between, initE, is_integer_c, h1, h2]
theorem is_between_c {v a b : Int} (h1 : a ≤ v) (h2 : v ≤ b) : callP 3 F_is_between [.int v, .int a, .int b] h = .ok (.bl true) h := c_P (is_between_ok (h := []) h1 h2) rfl (by simp [belowL]) (by simp)
/-- a ring's number -/
structure Rg (n : Nat) : Prop where
  one : 1 ≤ n
  most : n ≤ 1000000000
theorem check_ring_ok (a : Rg n) (b : Rg m) : F_check_ring [.int n, .int m] h = .ok .non h := by
  have a1 := a.one
  have a2 := a.most
  have b1 := b.one
  have b2 := b.most
  have e1 : ∀ {h : AH}, callP 3 F_is_between [.int n, .int 1, .int 1000000000] h = .ok (.bl true) h := is_between_c (by omega) (by omega)
  have e2 : ∀ {h : AH}, callP 3 F_is_between [.int m, .int 1, .int 1000000000] h = .ok (.bl true) h := is_between_c (by omega) (by omega)
  simp [F_check_ring, m_check_ring, initE, for_cons, e1, e2]
theorem check_ring_c (a : Rg n) (b : Rg m) : callP 2 F_check_ring [.int n, .int m] h = .ok .non h := c_P (check_ring_ok (h := []) a b) rfl (by simp [belowL]) (by simp)
theorem prime_of_ok (a : Rg n) (h2 : 2 ≤ n) : ∃ o, Pp n o ∧ ∀ h, F_prime_of [.int n] h = .ok (optD o) h := by
  have a2 := a.most
  have key : ∀ h, ∃ o, Pp n o ∧ F_prime_of [.int n] h = .ok (optD o) h := fun h => by
    obtain ⟨f, e, f2, f3, nd, r⟩ := loop_prime (h := h) a2 100000 2 (Nat.le_refl 2) (fun d h1 h2 => by omega) (by decide) (by decide)
    have e : mWhile cPrime bPrime 100000 [some (.int n), some (.int 2)] h = .nx [some (.int n), some (.int f)] h := e
    have m1 : ∀ {h : AH}, mulD (.int f) (.int f) h = .ok (.int (f * f)) h := o_mulL (by omega) (by omega)
    by_cases q : n < f * f
    · have q' : (n : Int) < f * f := by exact_mod_cast q
      exact ⟨some n, pp_self h2 nd q, by simp [F_prime_of, m_prime_of, initE, e, m1, q', optD]⟩
    · have q' : ¬ (n : Int) < f * f := by exact_mod_cast q
      have dv : f ∣ n := r.resolve_left q
      obtain ⟨x, e2, rx, x0⟩ := loop_rest (h := h) (p := f) f2 (by omega) 30 100000 n (by omega) (by omega) (by decide)
      have mf : IsMf n f := ⟨f2, dv, nd⟩
      refine ⟨_, Pp.of_rest mf rx, ?_⟩
      by_cases z : x = 1
      · subst z
        have e2 : mWhile cRest bRest 100000 [some (.int n), some (.int f)] h = .nx [some (.int 1), some (.int f)] h := e2
        simp [F_prime_of, m_prime_of, initE, e, e2, m1, q', optD]
      · have z' : ¬ (x : Int) = 1 := by omega
        simp [F_prime_of, m_prime_of, initE, e, e2, m1, q', optD, z, z']
  obtain ⟨o, po, _⟩ := key []
  refine ⟨o, po, fun h => ?_⟩
  obtain ⟨o', po', e⟩ := key h
  rw [po.uniq po']; exact e
theorem bw_opt {k : Nat} {o : Option Nat} : below k (optD o) = true := by cases o <;> simp [optD]
theorem prime_of_c (a : Rg n) (h2 : 2 ≤ n) : ∃ o, Pp n o ∧ ∀ h, callP 1 F_prime_of [.int n] h = .ok (optD o) h := by
  obtain ⟨o, po, e⟩ := prime_of_ok a h2
  exact ⟨o, po, fun h => c_P (e []) rfl (by simp [belowL]) bw_opt⟩
theorem shared_prime_ok (a : Rg n) (b : Rg m) : ∃ o, Shp n m o ∧ ∀ h, F_shared_prime [.int n, .int m] h = .ok (optD o) h := by
  by_cases q : n = 1
  · subst q
    exact ⟨none, .inl ⟨.inl rfl, rfl⟩, fun h => by simp [F_shared_prime, m_shared_prime, initE, optD]⟩
  · have q' : ¬ (n : Int) = 1 := by omega
    by_cases r : m = 1
    · subst r
      exact ⟨none, .inl ⟨.inr rfl, rfl⟩, fun h => by simp [F_shared_prime, m_shared_prime, initE, optD, q']⟩
    · have r' : ¬ (m : Int) = 1 := by omega
      have a1 := a.one
      have b1 := b.one
      obtain ⟨x, px, ex⟩ := prime_of_c a (by omega)
      obtain ⟨y, py, ey⟩ := prime_of_c b (by omega)
      refine ⟨shO x y, .inr ⟨q, r, x, y, px, py, rfl⟩, fun h => ?_⟩
      cases x with
      | none => cases y <;> simp [F_shared_prime, m_shared_prime, initE, optD, q', r', ex, ey, shO]
      | some x =>
        cases y with
        | none => simp [F_shared_prime, m_shared_prime, initE, optD, q', r', ex, ey, shO]
        | some y =>
          by_cases z : x = y
          · subst z; simp [F_shared_prime, m_shared_prime, initE, optD, q', r', ex, ey, shO]
          · have z' : ¬ (x : Int) = y := by omega
            simp [F_shared_prime, m_shared_prime, initE, optD, q', r', ex, ey, shO, z, z']
theorem shared_prime_c (a : Rg n) (b : Rg m) : ∃ o, Shp n m o ∧ ∀ h, callP 2 F_shared_prime [.int n, .int m] h = .ok (optD o) h := by
  obtain ⟨o, so, e⟩ := shared_prime_ok a b
  exact ⟨o, so, fun h => c_P (e []) rfl (by simp [belowL]) bw_opt⟩
/-- the ring's answers, told by the shared prime -/
def isOne (n m : Nat) : Bool := decide (n = 1) || decide (m = 1)
theorem goes_ok (a : Rg n) (b : Rg m) {o : Option Nat} (s : Shp n m o) : F_goes [.int n, .int m] h = .ok (.bl (isOne n m || o.isSome)) h := by
  obtain ⟨o', s', e⟩ := shared_prime_c a b
  rw [s'.uniq s] at e
  by_cases q : n = 1
  · subst q; simp [F_goes, m_goes, initE, isOne]
  · have q' : ¬ (n : Int) = 1 := by omega
    by_cases r : m = 1
    · subst r; simp [F_goes, m_goes, initE, isOne, q']
    · have r' : ¬ (m : Int) = 1 := by omega
      cases o <;> simp [F_goes, m_goes, initE, isOne, q, q', r, r', e, optD]
theorem goes_c (a : Rg n) (b : Rg m) {o : Option Nat} (s : Shp n m o) : callP 2 F_goes [.int n, .int m] h = .ok (.bl (isOne n m || o.isSome)) h := c_P (goes_ok (h := []) a b s) rfl (by simp [belowL]) (by simp)
theorem ring_can_ok (a : Rg n) (b : Rg m) {o : Option Nat} (s : Shp n m o) : F_ring_can [.int n, .int m] h = .ok (.bl (isOne n m || o.isSome)) h := by
  simp [F_ring_can, m_ring_can, initE, check_ring_c a b, goes_c a b s]
theorem ring_can_c (a : Rg n) (b : Rg m) {o : Option Nat} (s : Shp n m o) : callP 2 F_ring_can [.int n, .int m] h = .ok (.bl (isOne n m || o.isSome)) h := c_P (ring_can_ok (h := []) a b s) rfl (by simp [belowL]) (by simp)
end
end K20

namespace K20
open PySem PySem.Spec L2 Ab
section
variable {h : AH} {n m : Nat}
theorem o_mulW {i j : Int} (c : i.natAbs.log2 + j.natAbs.log2 < 1000000) : mulD (.int i) (.int j) h = .ok (.int (i * j)) h := by
  have : CMulW i j := c
  simp [mulD, this]
theorem log_lt {i b : Nat} (hi : i < 2 ^ b) (hb : 0 < b) : i.log2 < b := by
  by_cases z : i = 0
  · subst z; simp [Nat.log2]; exact hb
  · exact (Nat.log2_lt z).mpr hi
theorem mul_small {x y : Nat} (hx : x < 2 ^ 140) (hy : y < 2 ^ 140) : mulD (.int x) (.int y) h = .ok (.int ((x * y : Nat) : Int)) h := by
  rw [o_mulW (by
    have h1 := log_lt hx (by decide)
    have h2 := log_lt hy (by decide)
    simp only [Int.natAbs_natCast]
    omega), Int.natCast_mul]
theorem mod_nat {x y : Nat} (hy : 0 < y) : modD (.int x) (.int y) h = .ok (.int ((x % y : Nat) : Int)) h := by
  rw [o_mod (by omega), Int.natCast_emod]
abbrev cRestW : M Bool := mBl (mBin (cmpD fun i j => decide (j < i)) (mVar 1) (mC (.int 0)))
abbrev bRestW : MS := (mSeq (mIfS (mBl (mBin eqD (mBin modD (mVar 1) (mC (.int 2))) (mC (.int 1)))) (mAsg (mBin modD (mBin mulD (mVar 3) (mVar 0)) (mVar 2)) (mgName 3)) mNext)
  (mSeq (mAsg (mBin modD (mBin mulD (mVar 0) (mVar 0)) (mVar 2)) (mgName 0))
  (mAsg (mBin divD (mVar 1) (mC (.int 2))) (mgName 1))))
theorem pow_half (b t : Nat) : b ^ t = (b * b) ^ (t / 2) * b ^ (t % 2) := by
  rw [← Nat.pow_two, ← Nat.pow_mul, ← Nat.pow_add, Nat.div_add_mod]
theorem rest_loop {M : Nat} (hM : 0 < M) (hM2 : M < 2 ^ 140) : ∀ (k fuel b t f : Nat), b < M → f < M → t < 2 ^ k → k < fuel →
    ∃ b' : Nat, mWhile cRestW bRestW fuel [some (.int b), some (.int t), some (.int M), some (.int f)] h = .nx [some (.int b'), some (.int 0), some (.int M), some (.int ((f * b ^ t % M : Nat) : Int))] h := by
  intro k
  induction k with
  | zero =>
    intro fuel b t f hb hf ht hk
    obtain ⟨g, rfl⟩ : ∃ g, fuel = g + 1 := ⟨fuel - 1, by omega⟩
    have : t = 0 := by simp at ht; exact ht
    subst this
    refine ⟨b, ?_⟩
    rw [wh_step]
    simp [Nat.mod_eq_of_lt hf]
  | succ k ih =>
    intro fuel b t f hb hf ht hk
    obtain ⟨g, rfl⟩ : ∃ g, fuel = g + 1 := ⟨fuel - 1, by omega⟩
    rw [wh_step]
    by_cases z : t = 0
    · subst z
      refine ⟨b, ?_⟩
      simp [Nat.mod_eq_of_lt hf]
    · have z1 := eq_true (show (0 : Int) < t by omega)
      have d1 : ∀ {h : AH}, modD (.int t) (.int 2) h = .ok (.int ((t % 2 : Nat) : Int)) h := fun {h} => mod_nat (y := 2) (by decide)
      have d2 : ∀ {h : AH}, divD (.int t) (.int 2) h = .ok (.int ((t / 2 : Nat) : Int)) h := fun {h} => by rw [o_div (by decide) (by decide), Int.natCast_ediv]; rfl
      have b2 : b < 2 ^ 140 := Nat.lt_trans hb hM2
      have f2 : f < 2 ^ 140 := Nat.lt_trans hf hM2
      have m1 : ∀ {h : AH}, mulD (.int f) (.int b) h = .ok (.int ((f * b : Nat) : Int)) h := mul_small f2 b2
      have m2 : ∀ {h : AH}, mulD (.int b) (.int b) h = .ok (.int ((b * b : Nat) : Int)) h := mul_small b2 b2
      have m3 : ∀ {x : Nat} {h : AH}, modD (.int x) (.int M) h = .ok (.int ((x % M : Nat) : Int)) h := mod_nat hM
      have t2 : t / 2 < 2 ^ k := by rw [Nat.pow_succ] at ht; omega
      by_cases q : t % 2 = 1
      · have q1 := eq_true (show ((t % 2 : Nat) : Int) = 1 by omega)
        obtain ⟨b', e⟩ := ih g (b * b % M) (t / 2) (f * b % M) (Nat.mod_lt _ hM) (Nat.mod_lt _ hM) t2 (by omega)
        refine ⟨b', ?_⟩
        have ee : (f * b % M) * (b * b % M) ^ (t / 2) % M = f * b ^ t % M := by
          rw [pow_half b t, q, Nat.pow_one, Nat.mul_mod, ← Nat.pow_mod, Nat.mod_mod, ← Nat.mul_mod]
          congr 1
          rw [Nat.mul_assoc, Nat.mul_comm b]
        rw [ee] at e
        simp only [e_Bl, e_Bin, e_V1, b_ok, k_Q, e_C, o_cmp, k_Bl, t_ok, z1, decide_true, k_Wh1, e_Seq, e_IfS, d1, o_eqI, q1, k_IfS1, e_Asg, e_V3, e_V0, m1, e_V2, m3, k_Asg, g_Name, List.set_cons_succ, List.set_cons_zero, k_Nx, go_nx, m2, d2, lp_nx, e]
      · have q1 : ¬ ((t % 2 : Nat) : Int) = 1 := by omega
        have q0 : t % 2 = 0 := by omega
        obtain ⟨b', e⟩ := ih g (b * b % M) (t / 2) f (Nat.mod_lt _ hM) hf t2 (by omega)
        refine ⟨b', ?_⟩
        have ee : f * (b * b % M) ^ (t / 2) % M = f * b ^ t % M := by
          rw [pow_half b t, q0, Nat.pow_zero, Nat.mul_one, Nat.mul_mod, ← Nat.pow_mod, ← Nat.mul_mod]
        rw [ee] at e
        simp only [e_Bl, e_Bin, e_V1, b_ok, k_Q, e_C, o_cmp, k_Bl, t_ok, z1, decide_true, decide_false, k_Wh1, e_Seq, e_IfS, d1, o_eqI, q1, k_IfS0, e_Next, e_Asg, e_V3, e_V0, m1, e_V2, m3, k_Asg, g_Name, List.set_cons_succ, List.set_cons_zero, k_Nx, go_nx, m2, d2, lp_nx, e]
theorem power_rest_ok {b t M : Nat} (hM : 0 < M) (hM2 : M < 2 ^ 140) (ht : t < 2 ^ 64) : F_power_rest [.int b, .int t, .int M] h = .ok (.int ((b ^ t % M : Nat) : Int)) h := by
  have m3 : ∀ {x : Nat} {h : AH}, modD (.int x) (.int M) h = .ok (.int ((x % M : Nat) : Int)) h := mod_nat hM
  have m4 : ∀ {h : AH}, modD (.int 1) (.int M) h = .ok (.int ((1 % M : Nat) : Int)) h := mod_nat (x := 1) hM
  obtain ⟨b', e⟩ := rest_loop (h := h) hM hM2 64 100000 (b % M) t (1 % M) (Nat.mod_lt _ hM) (Nat.mod_lt _ hM) ht (by decide)
  have ee : 1 % M * (b % M) ^ t % M = b ^ t % M := by
    rw [Nat.mul_mod, Nat.mod_mod, ← Nat.pow_mod, ← Nat.mul_mod, Nat.one_mul]
  rw [ee] at e
  simp only [F_power_rest, m_power_rest, f_T, initE, List.map, List.length_cons, List.length_nil, List.replicate, List.cons_append, List.nil_append, e_Seq, e_Par, e_Cons, e_Bin, e_C, b_ok, k_Q, e_V2, m4, e_V0, m3, e_Nil, k_Cons, t_ok, k_Par, List.set_cons_succ, List.set_cons_zero, go_nx, e, e_Ret, e_V3, k_Ret, r_rt, x_ok]
  exact x_same rfl bw_int
theorem ring_moves_ok (a : Rg n) (b : Rg m) {o : Option Nat} (s : Shp n m o) {M : Nat} (hM : 0 < M) (hM2 : M < 2 ^ 140) : F_ring_moves [.int n, .int m, .int M] h = .ok (if (isOne n m || o.isSome) = true then .int ((((m ^ (n - 1) % M : Nat) : Int) - 1) % M) else .non) h := by
  have a1 := a.one
  have a2 := a.most
  have q : ¬ (M : Int) < 1 := by omega
  have e : ∀ {h : AH}, callP 3 F_power_rest [.int m, .int ((n : Int) - 1), .int M] h = .ok (.int ((m ^ (n - 1) % M : Nat) : Int)) h := fun {h} => by
    have := power_rest_ok (h := []) (b := m) (t := n - 1) hM hM2 (by omega)
    rw [Int.natCast_sub a1] at this
    exact c_P this rfl (by simp [belowL]) (by simp)
  have d1 : ∀ {x : Int} {h : AH}, modD (.int x) (.int M) h = .ok (.int (x % M)) h := o_mod (by omega)
  have g : ∀ {h : AH}, callP 2 F_goes [.int n, .int m] h = _ := goes_c a b s
  cases z : (isOne n m || o.isSome) with
  | true => rw [z] at g; simp only [F_ring_moves, m_ring_moves, f_T, initE, List.map, List.length_cons, List.length_nil, List.replicate, List.cons_append, List.nil_append]; simp [check_ring_c a b, is_integer_c, q, g, e, d1]
  | false => rw [z] at g; simp only [F_ring_moves, m_ring_moves, f_T, initE, List.map, List.length_cons, List.length_nil, List.replicate, List.cons_append, List.nil_append]; simp [check_ring_c a b, is_integer_c, q, g]
theorem ring_moves_c (a : Rg n) (b : Rg m) {o : Option Nat} (s : Shp n m o) {M : Nat} (hM : 0 < M) (hM2 : M < 2 ^ 140) : callP 3 F_ring_moves [.int n, .int m, .int M] h = .ok (if (isOne n m || o.isSome) = true then .int ((((m ^ (n - 1) % M : Nat) : Int) - 1) % M) else .non) h :=
  c_P (ring_moves_ok (h := []) a b s hM hM2) rfl (by simp [belowL]) (by split <;> simp)
end
end K20

namespace K20
open PySem PySem.Spec L2 Ab

theorem cl0 : F__law_classes [.int 1, .int 3] [] = .ok (.int 0) [] := by kernel_rfl
theorem rk0 : F_ring_kinds [.int 1, .int 3] [] = .ok (.int 0) [] := by kernel_rfl
theorem cl1 : F__law_classes [.int 2, .int 7] [] = .ok (.int 3) [] := by kernel_rfl
theorem rk1 : F_ring_kinds [.int 2, .int 7] [] = .ok (.int 3) [] := by kernel_rfl
theorem cl2 : F__law_classes [.int 3, .int 4] [] = .ok (.int 5) [] := by kernel_rfl
theorem rk2 : F_ring_kinds [.int 3, .int 4] [] = .ok (.int 5) [] := by kernel_rfl
theorem cl3 : F__law_classes [.int 4, .int 3] [] = .ok (.int 7) [] := by kernel_rfl
theorem rk3 : F_ring_kinds [.int 4, .int 3] [] = .ok (.int 7) [] := by kernel_rfl
theorem cl4 : F__law_classes [.int 5, .int 2] [] = .ok (.int 3) [] := by kernel_rfl
theorem rk4 : F_ring_kinds [.int 5, .int 2] [] = .ok (.int 3) [] := by kernel_rfl
theorem cl5 : F__law_classes [.int 6, .int 2] [] = .ok (.int 7) [] := by kernel_rfl
theorem rk5 : F_ring_kinds [.int 6, .int 2] [] = .ok (.int 7) [] := by kernel_rfl
theorem cl6 : F__law_classes [.int 7, .int 2] [] = .ok (.int 9) [] := by kernel_rfl
theorem rk6 : F_ring_kinds [.int 7, .int 2] [] = .ok (.int 9) [] := by kernel_rfl
theorem cl7 : F__law_classes [.int 3, .int 6] [] = .ok (.int 13) [] := by kernel_rfl
theorem rk7 : F_ring_kinds [.int 3, .int 6] [] = .ok (.int 13) [] := by kernel_rfl
theorem cl8 : F__law_classes [.int 4, .int 4] [] = .ok (.int 19) [] := by kernel_rfl
theorem rk8 : F_ring_kinds [.int 4, .int 4] [] = .ok (.int 19) [] := by kernel_rfl
theorem cl9 : F__law_classes [.int 5, .int 3] [] = .ok (.int 16) [] := by kernel_rfl
theorem rk9 : F_ring_kinds [.int 5, .int 3] [] = .ok (.int 16) [] := by kernel_rfl
end K20

namespace K20
open PySem PySem.Spec L2 Ab
section
variable {h : AH} {n m : Nat}
/-- one of the pairs: both counts agree -/
theorem pair_ok {x : D} (mx : x ∈ ([.tup [.int 1, .int 3], .tup [.int 2, .int 7], .tup [.int 3, .int 4], .tup [.int 4, .int 3], .tup [.int 5, .int 2], .tup [.int 6, .int 2], .tup [.int 7, .int 2], .tup [.int 3, .int 6], .tup [.int 4, .int 4], .tup [.int 5, .int 3]] : List D)) : ∃ a b v : Int, x = .tup [.int a, .int b] ∧ v.natAbs < 2 ^ 200 ∧ (∀ h, callP 2 F__law_classes [.int a, .int b] h = .ok (.int v) h) ∧ ∀ h, callP 2 F_ring_kinds [.int a, .int b] h = .ok (.int v) h := by
  simp only [List.mem_cons, List.not_mem_nil, or_false] at mx
  rcases mx with rfl | rfl | rfl | rfl | rfl | rfl | rfl | rfl | rfl | rfl
  · exact ⟨1, 3, 0, rfl, by decide, fun h => c_P cl0 rfl (by simp [belowL]) (by simp), fun h => c_P rk0 rfl (by simp [belowL]) (by simp)⟩
  · exact ⟨2, 7, 3, rfl, by decide, fun h => c_P cl1 rfl (by simp [belowL]) (by simp), fun h => c_P rk1 rfl (by simp [belowL]) (by simp)⟩
  · exact ⟨3, 4, 5, rfl, by decide, fun h => c_P cl2 rfl (by simp [belowL]) (by simp), fun h => c_P rk2 rfl (by simp [belowL]) (by simp)⟩
  · exact ⟨4, 3, 7, rfl, by decide, fun h => c_P cl3 rfl (by simp [belowL]) (by simp), fun h => c_P rk3 rfl (by simp [belowL]) (by simp)⟩
  · exact ⟨5, 2, 3, rfl, by decide, fun h => c_P cl4 rfl (by simp [belowL]) (by simp), fun h => c_P rk4 rfl (by simp [belowL]) (by simp)⟩
  · exact ⟨6, 2, 7, rfl, by decide, fun h => c_P cl5 rfl (by simp [belowL]) (by simp), fun h => c_P rk5 rfl (by simp [belowL]) (by simp)⟩
  · exact ⟨7, 2, 9, rfl, by decide, fun h => c_P cl6 rfl (by simp [belowL]) (by simp), fun h => c_P rk6 rfl (by simp [belowL]) (by simp)⟩
  · exact ⟨3, 6, 13, rfl, by decide, fun h => c_P cl7 rfl (by simp [belowL]) (by simp), fun h => c_P rk7 rfl (by simp [belowL]) (by simp)⟩
  · exact ⟨4, 4, 19, rfl, by decide, fun h => c_P cl8 rfl (by simp [belowL]) (by simp), fun h => c_P rk8 rfl (by simp [belowL]) (by simp)⟩
  · exact ⟨5, 3, 16, rfl, by decide, fun h => c_P cl9 rfl (by simp [belowL]) (by simp), fun h => c_P rk9 rfl (by simp [belowL]) (by simp)⟩
theorem law_of_is : F__law_of = dOf := rfl
theorem law_draw_is : F__law_draw = dDraw := rfl
theorem law_spring_is : F__law_spring = dSpring := rfl
theorem shp_ex (a : Rg n) (b : Rg m) : ∃ o, Shp n m o := by
  obtain ⟨o, s, _⟩ := shared_prime_ok a b
  exact ⟨o, s⟩
theorem whole_loop {k f s z : Nat} {x1 x6 x7 x8 : Option D} (hs : s ≤ 1000) (hf : 1 ≤ f) : ∃ x : Option D, forItems (mgName 6) (mAsg (mBin mulD (mVar 5) (mVar 3)) (mgName 5)) (rngD 0 ((f : Int) - 1)) [some (.loc k), x1, some (.int f), some (.int s), some (.int z), some (.int 1), x6, x7, x8] h = .nx [some (.loc k), x1, some (.int f), some (.int s), some (.int z), some (.int ((s ^ (f - 1) : Nat) : Int)), x, x7, x8] h := by
  obtain ⟨env', h', e, x, rfl, rfl⟩ := for_ix (g := mgName 6) (p := mAsg (mBin mulD (mVar 5) (mVar 3)) (mgName 5))
    (fun i env h' => ∃ (x : Option D), env = [some (.loc k), x1, some (.int f), some (.int s), some (.int z), some (.int ((s ^ i : Nat) : Int)), x, x7, x8] ∧ h' = h) (ds := rngD 0 ((f : Int) - 1)) (i := 0)
    (env := [some (.loc k), x1, some (.int f), some (.int s), some (.int z), some (.int 1), x6, x7, x8]) (h := h) ⟨x6, rfl, rfl⟩ (by
      intro j d env h1 ed ⟨x, e1, e2⟩
      subst e1 e2
      have m1 : ∀ {h : AH}, mulD (.int ((s ^ (0 + j) : Nat) : Int)) (.int s) h = .ok (.int ((s ^ (0 + j + 1) : Nat) : Int)) h := fun {h} => by
        rw [o_mulR (by omega) (by omega), Nat.pow_succ, Int.natCast_mul]
      refine ⟨_, _, _, _, rfl, ?_, some d, rfl, rfl⟩
      simp only [List.set_cons_succ, List.set_cons_zero, e_Asg, e_Bin, e_V5, b_ok, k_Q, e_V3, m1, t_ok, k_Asg, g_Name, k_Nx])
  refine ⟨x, ?_⟩
  rw [rngD_len] at e
  have : (0 + ((f : Int) - 1 - 0).toNat) = f - 1 := by omega
  rw [this] at e
  exact e
theorem right_ok {k : Nat} (s : Sp3 h k) : ∃ h', F__law_right [.loc k] h = .ok (.bl true) h' := by
  obtain ⟨env', h', e, x1, x2, x3, x4, x5, x6, x7, x8, rfl, s'⟩ := for_inv (g := mgName 1) (p := b__law_right_1) (fun env h' => ∃ x1 x2 x3 x4 x5 x6 x7 x8 : Option D, env = [some (.loc k), x1, x2, x3, x4, x5, x6, x7, x8] ∧ Dr h k h') (ds := rngD 0 6)
    (env := [some (.loc k), none, none, none, none, none, none, none, none]) (h := h) ⟨_, _, _, _, _, _, _, _, rfl, Dr.refl s⟩ (by
      intro dd md env h1 ⟨x1, x2, x3, x4, x5, x6, x7, x8, e1, t⟩
      subst e1
      obtain ⟨d1, h2, n1, a1, a2, t1⟩ := draw_ok (k := 40) t.1 (by decide) (by decide)
      obtain ⟨d2, h3, n2, b1, b2, t2⟩ := draw_ok (k := 40) t1.1 (by decide) (by decide)
      obtain ⟨d3, h4, n3, c1, c2, t3⟩ := draw_ok (k := 1000) t2.1 (by decide) (by decide)
      obtain ⟨f, ef⟩ : ∃ f : Nat, (f : Int) = 1 + d1 := ⟨(1 + d1).toNat, Int.toNat_of_nonneg (by omega)⟩
      obtain ⟨g, eg⟩ : ∃ g : Nat, (g : Int) = 1 + d2 := ⟨(1 + d2).toNat, Int.toNat_of_nonneg (by omega)⟩
      obtain ⟨z, ez⟩ : ∃ z : Nat, (z : Int) = 1 + d3 := ⟨(1 + d3).toNat, Int.toNat_of_nonneg (by omega)⟩
      have ra : Rg f := ⟨by omega, by omega⟩
      have rb : Rg g := ⟨by omega, by omega⟩
      obtain ⟨o, so⟩ := shp_ex ra rb
      have z0 : 0 < z := by omega
      have z2 : z < 2 ^ 140 := Nat.lt_of_lt_of_le (show z < 2 ^ 20 by omega) (by decide)
      obtain ⟨x, ew⟩ := whole_loop (h := h4) (k := k) (f := f) (s := g) (z := z) (x1 := some dd) (x6 := x6) (x7 := x7) (x8 := x8) (by omega) ra.one
      have kr : ∀ {h : AH}, kR1 [.int ((f : Int) - 1)] h = .ok (.items (rngD 0 ((f : Int) - 1))) h := k_R1 (by omega) (by omega)
      have rc : ∀ {h : AH}, callP 2 F_ring_can [.int f, .int g] h = _ := ring_can_c ra rb so
      have rm : ∀ {h : AH}, callP 3 F_ring_moves [.int f, .int g, .int z] h = _ := ring_moves_c ra rb so z0 z2
      have zp : (0 : Int) < z := by omega
      have m3 : ∀ {x : Int} {h : AH}, modD (.int x) (.int z) h = .ok (.int (x % z)) h := o_mod zp
      have ee : ((g ^ (f - 1) % z : Nat) : Int) - 1 = (g ^ (f - 1) % z : Nat) - 1 := rfl
      have em : (((g ^ (f - 1) % z : Nat) : Int) - 1) % z = (((g ^ (f - 1) : Nat) : Int) - 1) % z := by
        rw [Int.natCast_emod, Int.sub_emod, Int.emod_emod, ← Int.sub_emod]
      rw [em] at rm
      generalize eA : (isOne f g || o.isSome) = A at *
      generalize eW : (if A = true then D.int ((((g ^ (f - 1) : Nat) : Int) - 1) % z) else D.non) = W at *
      have g2 : ∀ {y1 y6 y7 y8 : Option D} {h : AH}, mIf (mTru (mCallP 2 F_ring_can (mCons (mVar 2) (mCons (mVar 3) mNil)))) (mBin modD (mCB intD (mCons (mBin subD (mVar 5) (mC (.int 1))) mNil)) (mVar 4)) (mC .non) [some (.loc k), y1, some (.int f), some (.int g), some (.int z), some (.int ((g ^ (f - 1) : Nat) : Int)), y6, y7, y8] h = .ok W h := by
        intro _ _ _ _ h
        rw [← eW]
        cases A
        · simp only [e_If, e_Tru, e_CallP, e_Cons, e_V2, b_ok, k_Q, e_V3, e_Nil, k_Cons, rc, k_TruB, k_If0, e_C]
          rfl
        · simp only [e_If, e_Tru, e_CallP, e_Cons, e_V2, b_ok, k_Q, e_V3, e_Nil, k_Cons, rc, k_TruB, k_If1, e_Bin, e_CB, e_V5, e_C, o_sub, o_int, e_V4, m3, if_true]
      have shW : Sh W 2000 1 := by
        rw [← eW]
        split
        · refine Sh.int ?_
          have h1 := Int.emod_nonneg ((((g ^ (f - 1) : Nat) : Int) - 1)) (show (z : Int) ≠ 0 by omega)
          have h2 := Int.emod_lt_of_pos ((((g ^ (f - 1) : Nat) : Int) - 1)) zp
          have : (1001 : Nat) ≤ 2 ^ 200 := by decide
          omega
        · exact Sh.non
      obtain ⟨zr, r1⟩ := repr2_ok (shW.le (show 2000 ≤ 2000000 by decide) (show 1 ≤ 50 by decide))
      obtain ⟨y, h5, n5, my, t5⟩ := of_ok (h := h4) (n := k) (ds := [.tup [.int 1, .int 3], .tup [.int 2, .int 7], .tup [.int 3, .int 4], .tup [.int 4, .int 3], .tup [.int 5, .int 2], .tup [.int 6, .int 2], .tup [.int 7, .int 2], .tup [.int 3, .int 6], .tup [.int 4, .int 4], .tup [.int 5, .int 3]]) t3.1 (by simp) (by simp) (by
        intro x mx m
        simp only [List.mem_cons, List.not_mem_nil, or_false] at mx
        rcases mx with rfl | rfl | rfl | rfl | rfl | rfl | rfl | rfl | rfl | rfl <;> simp [below, belowL])
      obtain ⟨p, q, v, rfl, hv, ec, ek⟩ := pair_ok my
      obtain ⟨zs, r2⟩ := repr2_ok ((Sh.int hv).le (show 2000 ≤ 2000000 by decide) (show 1 ≤ 50 by decide))
      refine ⟨_, _, [some (.loc k), some dd, some (.int p), some (.int q), some (.int z), some (.int ((g ^ (f - 1) : Nat) : Int)), x, some (.int v), some (.lst [W, W])], h5, rfl, ?_, ⟨_, _, _, _, _, _, _, _, rfl, (((t.trans t1).trans t2).trans t3).trans t5⟩⟩
      unfold b__law_right_1
      have st1 : mPar3 2 3 4 (mCons (mBin addD (mC (.int 1)) (mCall 2 F__law_draw (mCons (mVar 0) (mCons (mC (.int 40)) mNil)))) (mCons (mBin addD (mC (.int 1)) (mCall 2 F__law_draw (mCons (mVar 0) (mCons (mC (.int 40)) mNil)))) (mCons (mBin addD (mC (.int 1)) (mCall 2 F__law_draw (mCons (mVar 0) (mCons (mC (.int 1000)) mNil)))) mNil))) [some (.loc k), some dd, x2, x3, x4, x5, x6, x7, x8] h1 = .nx [some (.loc k), some dd, some (.int f), some (.int g), some (.int z), x5, x6, x7, x8] h4 := by
        simp [law_draw_is, n1, n2, n3, ef, eg, ez]
      simp only [List.set_cons_succ, List.set_cons_zero]
      rw [e_Seq, st1, go_nx]
      simp only [e_Seq, e_Asg, e_C, t_ok, k_Asg, g_Name, k_Nx, List.set_cons_succ, List.set_cons_zero, go_nx, e_For, i_R1, e_Cons, e_Bin, e_V2, b_ok, k_Q, o_sub, e_Nil, k_Cons, kr, k_For, ew, g2]
      have tl : mFrz (mLst (mCons (mCallP 3 F_ring_moves (mCons (mVar 2) (mCons (mVar 3) (mCons (mVar 4) mNil)))) (mCons (mCallKP 3 F_ring_moves (permL 0 3 [2, 1, 0] .non) mNil (mCons (mVar 4) (mCons (mVar 3) (mCons (mVar 2) mNil)))) mNil))) [some (.loc k), some dd, some (.int f), some (.int g), some (.int z), some (.int ((g ^ (f - 1) : Nat) : Int)), x, some W, x8] h4 = .ok (.lst [W, W]) h4 := by
        simp only [e_Frz, e_Lst, e_Cons, e_CallP, e_CallKP, e_V2, e_V3, e_V4, b_ok, k_Q, e_Nil, k_Cons, rm, k_CallKP]
        rw [show permL 0 3 [2, 1, 0] D.non [] [D.int z, D.int g, D.int f] = [D.int f, D.int g, D.int z] from rfl, rm]
        rfl
      rw [tl]
      simp only [t_ok, k_Asg, g_Name, k_Nx, List.set_cons_succ, List.set_cons_zero, go_nx]
      have tk : mFrz (mLst (mCons (mCallP 2 F_ring_kinds (mCons (mVar 2) (mCons (mVar 3) mNil))) (mCons (mCallKP 2 F_ring_kinds (permL 0 2 [1, 0] .non) mNil (mCons (mVar 3) (mCons (mVar 2) mNil))) mNil))) [some (.loc k), some dd, some (.int p), some (.int q), some (.int z), some (.int ((g ^ (f - 1) : Nat) : Int)), x, some (.int v), some (.lst [W, W])] h5 = .ok (.lst [.int v, .int v]) h5 := by
        simp only [e_Frz, e_Lst, e_Cons, e_CallP, e_CallKP, e_V2, e_V3, b_ok, k_Q, e_Nil, k_Cons, ek, k_CallKP]
        rw [show permL 0 2 [1, 0] D.non [] [D.int q, D.int p] = [D.int p, D.int q] from rfl, ek]
        rfl
      have ck : mIfS (mBl (mBin neD (mCB reprD (mCons (mFrz (mLst (mCons (mCallP 2 F_ring_kinds (mCons (mVar 2) (mCons (mVar 3) mNil))) (mCons (mCallKP 2 F_ring_kinds (permL 0 2 [1, 0] .non) mNil (mCons (mVar 3) (mCons (mVar 2) mNil))) mNil)))) mNil)) (mCB reprD (mCons (mFrz (mLst (mCons (mVar 7) (mCons (mVar 7) mNil)))) mNil)))) (mRet (mC (.bl false))) mNext [some (.loc k), some dd, some (.int p), some (.int q), some (.int z), some (.int ((g ^ (f - 1) : Nat) : Int)), x, some (.int v), some (.lst [W, W])] h5 = .nx [some (.loc k), some dd, some (.int p), some (.int q), some (.int z), some (.int ((g ^ (f - 1) : Nat) : Int)), x, some (.int v), some (.lst [W, W])] h5 := by
        rw [e_IfS, e_Bl, e_Bin, e_CB, e_Cons, tk, b_ok]
        simp [r2]
      rw [e_Seq]
      simp only [e_Frz, e_Lst, e_IfS, e_Bl, e_Bin, e_CB, e_Cons, e_V8, e_V7, b_ok, k_Q, e_Nil, k_Cons, k_Lst (show [W, W].length ≤ 1000 from by simp), k_Frz, r1, o_neS, decide_true, Bool.not_true, k_Bl, t_ok, k_IfS0, e_Next, go_nx]
      rw [e_Seq, e_Asg, show mCall 2 F__law_of (mCons (mVar 0) (mCons (mFrz (mLst (mCons (mTup (mCons (mC (.int 1)) (mCons (mC (.int 3)) mNil))) (mCons (mTup (mCons (mC (.int 2)) (mCons (mC (.int 7)) mNil))) (mCons (mTup (mCons (mC (.int 3)) (mCons (mC (.int 4)) mNil))) (mCons (mTup (mCons (mC (.int 4)) (mCons (mC (.int 3)) mNil))) (mCons (mTup (mCons (mC (.int 5)) (mCons (mC (.int 2)) mNil))) (mCons (mTup (mCons (mC (.int 6)) (mCons (mC (.int 2)) mNil))) (mCons (mTup (mCons (mC (.int 7)) (mCons (mC (.int 2)) mNil))) (mCons (mTup (mCons (mC (.int 3)) (mCons (mC (.int 6)) mNil))) (mCons (mTup (mCons (mC (.int 4)) (mCons (mC (.int 4)) mNil))) (mCons (mTup (mCons (mC (.int 5)) (mCons (mC (.int 3)) mNil))) mNil)))))))))))) mNil)) [some (.loc k), some dd, some (.int f), some (.int g), some (.int z), some (.int ((g ^ (f - 1) : Nat) : Int)), x, some W, some (.lst [W, W])] h4 = .ok (.tup [.int p, .int q]) h5 from by simp [law_of_is, n5]]
      simp only [t_ok, k_Asg, g_Tup (show [D.int p, D.int q].length = 2 from rfl), g_Cons, g_Name, b_ok, g_Nil, k_Nx, List.set_cons_succ, List.set_cons_zero, go_nx]
      rw [e_Seq]
      simp only [e_Asg, t_ok, k_Asg, g_Name, b_ok, k_Nx, List.set_cons_succ, List.set_cons_zero, go_nx, e_CallP, e_Cons, e_V2, e_V3, k_Q, e_Nil, k_Cons, ec]
      exact ck)
  obtain ⟨h2, e2⟩ := x_bl (h := h') (n := h.length) (b := true)
  exact ⟨h2, by simp [F__law_right, m__law_right, initE, k_R1 (show -(2 ^ 62) ≤ (6 : Int) by decide) (by decide), e, -x_same, e2]⟩
theorem law_holds (ns : List Int) (hl : ns.length ≤ 63) : ∃ h', F_law [.scr (ns.map Ab.D.int)] [] = .ok (.bl true) h' := by
  have p2 : powD (.int 2) (.int 20) [] = .ok (.int 1048576) [] := (o_pow (by unfold CPow; decide)).trans rfl
  have c1 : callP 3 F_ring_moves [.int 4, .int 2, .int 100] [] = .ok (.int 7) [] := by kernel_rfl
  have c2 : callP 3 F_ring_moves [.int 1048576, .int 2, .int 1000] [] = .ok (.int 567) [] := by kernel_rfl
  have c3 : callP 3 F_ring_moves [.int 6, .int 2, .int 9] [] = .ok .non [] := by kernel_rfl
  have c4 : callP 3 F_ring_moves [.int 27, .int 9, .int 1] [] = .ok (.int 0) [] := by kernel_rfl
  have c5 : callP 2 F_ring_kinds [.int 4, .int 2] [] = .ok (.int 3) [] := by kernel_rfl
  have c6 : callP 2 F_ring_kinds [.int 6, .int 2] [] = .ok (.int 7) [] := by kernel_rfl
  have c7 : callP 2 F_ring_kinds [.int 3, .int 3] [] = .ok (.int 4) [] := by kernel_rfl
  have c8 : callP 2 F_ring_kinds [.int 1, .int 7] [] = .ok (.int 0) [] := by kernel_rfl
  have c9 : callP 2 F_ring_kinds [.int 5, .int 1] [] = .ok (.int 0) [] := by kernel_rfl
  have n1 : neD (.lst [.int 7, .int 567, .non, .int 0]) (.lst [.int 7, .int 567, .non, .int 0]) [] = .ok (.bl false) [] := by kernel_rfl
  have n2 : neD (.lst [.int 3, .int 7, .int 4, .int 0, .int 0]) (.lst [.int 3, .int 7, .int 4, .int 0, .int 0]) [] = .ok (.bl false) [] := by kernel_rfl
  obtain ⟨w, w1, w2, ew⟩ := many (L := ns.length)
  have l1 : ∀ {h}, lenD [.scr (ns.map .int)] h = .ok (.int ns.length) h := fun {h} => by simp [lenD, seqD]
  have l2 : ∀ {h}, min2D [.int ns.length, .int 5] h = .ok (.int (if (5 : Int) < ns.length then 5 else ns.length)) h := fun {h} => rfl
  have hr : (rngD 0 w).length ≤ sizeLine := by rw [rngD_len]; exact Nat.le_trans (by omega) (show 200000 ≤ sizeLine by decide)
  obtain ⟨h', lc⟩ := lc_true (g := mgName 1) (e := mCall 1 F__law_right (mCons (mCall 2 F__law_spring (mCons (mVar 0) (mCons (mVar 1) mNil))) mNil)) (env := [some (.scr (ns.map .int)), none]) (ds := rngD 0 w) (h := []) (by
    intro d md h
    obtain ⟨i, rfl, i1, i2⟩ := rngD_mem md
    obtain ⟨a, b, c, e, a1, b1, b2⟩ := spring_ok (h := h) (ns := ns) (k := i) i1 (by omega) hl
    obtain ⟨h2, e2⟩ := right_ok (sp3_new (h := h) (c := c) a1 b1 b2)
    exact ⟨_, _, h2, rfl, by simp [law_spring_is, e, e2]⟩)
  have : ∃ h2, bodyR0 (m_law (initE 2 [.scr (ns.map .int)]) []) = .ok (.bl true) h2 := ⟨h', by
    simp [m_law, initE, p2, c1, c2, c3, c4, c5, c6, c7, c8, c9, n1, n2, l1, ↓l2, ↓ew, k_R1 (show -(2 ^ 62) ≤ w by omega) (by omega), k_Lc hr, lc, all_true]⟩
  obtain ⟨h2, e⟩ := this
  obtain ⟨h3, e3⟩ := x_bl (h := h2) (n := ([] : AH).length) (b := true)
  exact ⟨h3, by rw [F_law, f_T, e, x_ok, e3]⟩
end
end K20

theorem PySem.Challenge.cw_turnedblind_k20_whole_moves_and_kinds_of_holds : PySem.Challenge.rw_turnedblind_k20_whole_moves_and_kinds_of.Holds :=
  K20.fits K20.law_holds
