import PyProof.Rows.All
import Wide.All
import OpenK.AllK
import Wide.FinOn
import HandS.ForMost
import HandS.Defaults
import HandS.HeadHook2
import HandS.Flow
import HandS.Wide
import HandS.TupAny
import HandS.IsInst
import HandS.Iter
import HandS.Conv
import HandS.Star
import HandS.More
import HandS.HeadEnd
import HandS.Deep
import HandS.TupMul
import HandS.RaiseMore
import HandS.Style
import HandS.Text
import HandS.Zip
import HandS.SortInts
import PyProof.EnumMake
import KE.GoesMore
import HandS.DictComp
import HandS.SetBool
import HandS.TupSets
import HandS.SortOrd
import HandS.TupLen
import HandS.Property
import HandS.ClsMeth
import HandS.HeadNt
import KE.DatumOrd
import KE.KDictCopyH
import KE.KDictOf
import OpenK.KOps
import HandS.HeadHook3
import HandS.Exc
import HandS.SetFor
import KE.KDictKeyed
import KE.KeyNested
import HandS.Head0
import HandS.Head1
import HandS.Head2
import HandS.HeadHook1
import PySem.Challenge.RW_turnedblind_k33_tables_known_by_name
set_option Elab.async false
set_option linter.all false
set_option maxRecDepth 100000
set_option maxHeartbeats 0
/-! The abstract layer: data as trees, a numbered heap of what is mutable, and how both stand for a HandS heap. -/
namespace Ab
open PySem PySem.Spec L2

/-- a value: a tree of what never changes, or the number of something that may -/
inductive D where
  | non | bl (b : Bool) | int (i : Int) | str (x : Str) | glo (x : Str) | ty (n : String)
  | tup (ds : List D) | lst (ds : List D) | scr (ds : List D) | loc (n : Nat)
  | obj (c : Str) (ns : List Str) (ds : List D) | dic (ks : List (List Key)) (ds : List D) | nd (ks : List (List (List Int))) (ds : List D)
/-- what stands at a number -/
inductive AO where
  | lst (ds : List D)
  | dct (kvs : List (List Key × D))
  | ins (c : Str) (fs : List (Str × D))
  | ndt (kvs : List (List (List Int) × D))
abbrev AH := List AO
abbrev En := List (Option D)
abbrev Ro := Nat → Option Addr

/-- how a computation ends -/
inductive R (α : Type) where
  | ok (a : α) (h : AH)
  | exc (x : Str) (fs : List (Str × D)) (h : AH)
  | bad
def R.bind {α β : Type} (r : R α) (k : α → AH → R β) : R β := match r with
  | .ok a h => k a h
  | .exc x fs h => .exc x fs h
  | .bad => .bad
abbrev M (α : Type) := En → AH → R α

section
variable (K : PySem.W.Frag)
/-- the hash of a tuple of tuples of whole numbers -/
def hash2 (k : List (List Int)) : Int := reduceHash (Builtin.Tuple.tupleHashOf (k.map fun t => reduceHash (Builtin.Tuple.tupleHashOf (t.map hashInt))))
/-- at a: a dict whose keys are tuples of tuples of whole numbers; where the keys' own tuples stand is told -/
def NdO (a : Addr) (xs : List (List (List Int) × Addr × V)) : HO := .ext fun h => (a == sysModules) = false ∧ xs.length ≤ sizeLine ∧ (xs.map (·.1)).Nodup ∧
  ∃ ys : List Value, Vals (xs.map (·.2.2)) ys ∧ ∃ o es ep, h.get? a = some o ∧ o.ExactDict ∧ o.data = .dict es ep ∧ es.toList = (xs.zip ys).map fun p => (⟨hash2 p.1.1, .ref p.1.2.1, p.2⟩ : DictEntry)
/-- the tuple of tuples at b is the key k -/
def NK (P : Hp) (b : Addr) (k : List (List Int)) : Prop := ∃ cs : List Addr, P b = some (.tup (cs.map V.ref)) ∧ cs.length = k.length ∧ ∀ p ∈ cs.zip k, P p.1 = some (.tup (p.2.map V.int))
theorem NK.up {P P' : Hp} {b : Addr} {k : List (List Int)} (s : ∀ a o, P a = some o → P' a = some o) (x : NK P b k) : NK P' b k := by
  obtain ⟨cs, e, l, q⟩ := x
  exact ⟨cs, s _ _ e, l, fun p hp => s _ _ (q p hp)⟩
def NoR (ρ : Ro) (a : Addr) : Prop := ∀ n, ρ n ≠ some a
mutual
/-- how a value stands: by the numbers' addresses ρ and the part of the heap that never changes P -/
inductive Rep (ρ : Ro) (P : Hp) : D → V → Prop
  | non : Rep ρ P .non .non
  | bl (b : Bool) : Rep ρ P (.bl b) (.bl b)
  | int (i : Int) : Rep ρ P (.int i) (.int i)
  | str (x : Str) : Rep ρ P (.str x) (.str x)
  | glo (x : Str) : Rep ρ P (.glo x) (.ref (He.ga K x))
  | ty (n : String) : Rep ρ P (.ty n) (.ty n)
  | tup {a : Addr} {vs : List V} {ds : List D} : P a = some (.tup vs) → RepL ρ P ds vs → Rep ρ P (.tup ds) (.ref a)
  | lst {a : Addr} {vs : List V} {ds : List D} : P a = some (.lst vs) → RepL ρ P ds vs → Rep ρ P (.lst ds) (.ref a)
  | scr {a : Addr} {vs : List V} {ds : List D} : SqL K P a vs → RepL ρ P ds vs → Rep ρ P (.scr ds) (.ref a)
  | loc {n : Nat} {a : Addr} : ρ n = some a → Rep ρ P (.loc n) (.ref a)
  | obj {a dx : Addr} {c : Str} {ns : List Str} {ds : List D} {fvs : List (Str × V)} {vs : List V} : P a = some (.ins (He.ga K c) dx fvs) → fvs = ns.zip vs → ns.length = vs.length → RepL ρ P ds vs → Rep ρ P (.obj c ns ds) (.ref a)
  | dic {a : Addr} {ks : List (List Key)} {ds : List D} {kws : List (List Key × V)} {vs : List V} : P a = some (.dT kws) → kws = ks.zip vs → ks.length = vs.length → RepL ρ P ds vs → Rep ρ P (.dic ks ds) (.ref a)
  | nd {a : Addr} {ks : List (List (List Int))} {ds : List D} {xs : List (List (List Int) × Addr × V)} {vs : List V} : P a = some (NdO a xs) → xs.map (·.1) = ks → vs = xs.map (·.2.2) → (∀ x ∈ xs, NK P x.2.1 x.1) → RepL ρ P ds vs → Rep ρ P (.nd ks ds) (.ref a)
inductive RepL (ρ : Ro) (P : Hp) : List D → List V → Prop
  | nil : RepL ρ P [] []
  | cons {d : D} {v : V} {ds : List D} {vs : List V} : Rep ρ P d v → RepL ρ P ds vs → RepL ρ P (d :: ds) (v :: vs)
end
/-- an object -/
def RO (ρ : Ro) (P H : Hp) (a : Addr) : AO → Prop
  | .lst ds => ∃ vs, H a = some (.lst vs) ∧ RepL K ρ P ds vs
  | .dct kvs => ∃ kws : List (List Key × V), H a = some (.dT kws) ∧ kws.map (·.1) = kvs.map (·.1) ∧ RepL K ρ P (kvs.map (·.2)) (kws.map (·.2))
  | .ins c fs => ∃ dx, ∃ fvs : List (Str × V), H a = some (.ins (He.ga K c) dx fvs) ∧ fvs.map (·.1) = fs.map (·.1) ∧ RepL K ρ P (fs.map (·.2)) (fvs.map (·.2))
  | .ndt kvs => ∃ xs : List (List (List Int) × Addr × V), H a = some (NdO a xs) ∧ xs.map (·.1) = kvs.map (·.1) ∧ (∀ x ∈ xs, NK P x.2.1 x.1) ∧ RepL K ρ P (kvs.map (·.2)) (xs.map (·.2.2))
/-- all but dicts -/
def nD : HO → Bool
  | .dT _ => false
  | _ => true
def Sub (P H : Hp) : Prop := ∀ a o, P a = some o → nD o = true → H a = some o
def noTup : HO → Bool
  | .tup _ => false
  | _ => true
/-- the heaps; a dict that nobody changes may be locked while it is walked -/
structure SR (ρ : Ro) (P H : Hp) (h : AH) : Prop where
  sub : Sub P H
  subD : ∀ a kws, P a = some (.dT kws) → Rd H a (.dT kws)
  apart : ∀ n a, ρ n = some a → P a = none
  inj : ∀ n m a, ρ n = some a → ρ m = some a → n = m
  obj : ∀ n o, h[n]? = some o → ∃ a, ρ n = some a ∧ RO K ρ P H a o
  dom : ∀ n, h.length ≤ n → ρ n = none
/-- the frame -/
def RE (ρ : Ro) (P : Hp) (env : En) (σ : L2.St) : Prop := env.length = σ.length ∧ ∀ (i : Nat) (d : D), env[i]? = some (some d) → ∃ v, σ[i]? = some (some v) ∧ Rep K ρ P d v
end
/-- what a computation may do to what stood -/
structure Step (ρ : Ro) (P H : Hp) (ρ' : Ro) (P' H' : Hp) : Prop where
  mono : ∀ n a, ρ n = some a → ρ' n = some a
  pure : ∀ a o, P a = some o → P' a = some o
  newr : ∀ n a, ρ n = none → ρ' n = some a → H a = none
  newp : ∀ a, P a = none → ((∃ n, ρ n = some a) ∨ ∃ u, H a = some u ∧ noTup u = true) → P' a = none
  keep : ∀ a o, H a = some o → NoR ρ a → (P a = none ∨ nD o = true) → H' a = some o
  there : ∀ a, H a ≠ none → H' a ≠ none
section
variable {K : PySem.W.Frag} {ρ ρ' ρ1 : Ro} {P H P' H' P1 H1 : Hp}
theorem Step.refl (ρ : Ro) (P H : Hp) : Step ρ P H ρ P H := ⟨fun _ _ h => h, fun _ _ h => h, fun n a h h' => (by rw [h] at h'; cases h'), fun _ h _ => h, fun _ _ h _ _ => h, fun _ h => h⟩
theorem Step.noR (s : Step ρ P H ρ' P' H') {a : Addr} (ha : H a ≠ none) (h : NoR ρ a) : NoR ρ' a := fun n e => by
  cases q : ρ n with
  | none => exact ha (s.newr n a q e)
  | some b =>
    have := s.mono n b q
    rw [this] at e
    cases e
    exact h n q
theorem Step.noP (s : Step ρ P H ρ' P' H') {a : Addr} (h : P a = none) (ha : (∃ n, ρ n = some a) ∨ ∃ u, H a = some u ∧ noTup u = true) : P' a = none := s.newp a h ha
theorem Step.free (s : Step ρ P H ρ' P' H') {a : Addr} (h : H' a = none) : H a = none := by
  cases w : H a with
  | none => rfl
  | some o => exact absurd h (s.there a (by rw [w]; simp))
theorem nP_step (s : Step ρ P H ρ1 P1 H1) {a : Addr} {o : HO} (h : H a = some o) (w : P a = none ∨ nD o = true) : P1 a = none ∨ nD o = true := by
  rcases w with w | w
  · cases z : noTup o with
    | true => exact .inl (s.newp a w (.inr ⟨o, h, z⟩))
    | false =>
      cases o with
      | tup xs => exact .inr rfl
      | _ => cases z
  · exact .inr w
theorem Step.trans (s : Step ρ P H ρ1 P1 H1) (t : Step ρ1 P1 H1 ρ' P' H') : Step ρ P H ρ' P' H' := by
  refine ⟨fun n a h => t.mono n a (s.mono n a h), fun a o h => t.pure a o (s.pure a o h), fun n a h h' => ?_, fun a h ha => ?_, fun a o h hn w => t.keep a o (s.keep a o h hn w) (s.noR (by rw [h]; simp) hn) (nP_step s h w), fun a h => t.there a (s.there a h)⟩
  · cases q : ρ1 n with
    | none => exact s.free (t.newr n a q h')
    | some b =>
      have e := t.mono n b q
      rw [e] at h'
      cases h'
      exact s.newr n a h q
  · have h1 := s.newp a h ha
    refine t.newp a h1 ?_
    by_cases z : ∃ n, ρ n = some a
    · obtain ⟨n, e⟩ := z
      exact .inl ⟨n, s.mono n a e⟩
    · rcases ha with w | ⟨u, e, w⟩
      · exact absurd w z
      · exact .inr ⟨u, s.keep a u e (fun n e => z ⟨n, e⟩) (.inl h), w⟩
theorem sqL_sub (s : ∀ a o, P a = some o → P' a = some o) {a : Addr} {xs : List V} (h : SqL K P a xs) : SqL K P' a xs := h.imp (fun q => q.imp (s _ _) fun ⟨o, q⟩ => ⟨o, s _ _ q⟩) fun q => q
theorem sqL_s (s : Sub P P') {a : Addr} {xs : List V} (h : SqL K P a xs) : SqL K P' a xs := h.imp (fun q => q.imp (fun q => s _ _ q rfl) fun ⟨o, q⟩ => ⟨o, s _ _ q rfl⟩) fun q => q
theorem sqT_s (s : Sub P P') {a : Addr} {xs : List V} (h : SqT K P a xs) : SqT K P' a xs := h.imp (fun q => q.imp (fun q => s _ _ q rfl) fun ⟨o, q⟩ => ⟨o, s _ _ q rfl⟩) fun q => q
theorem sqT_tk (s : Sub P P') {a : Addr} {xs : List V} (h : P a = some (.tup xs)) : SqT K P' a xs := .of (s _ _ h rfl)
theorem sqT_sub (s : ∀ a o, P a = some o → P' a = some o) {a : Addr} {xs : List V} (h : SqT K P a xs) : SqT K P' a xs := h.imp (fun q => q.imp (s _ _) fun ⟨o, q⟩ => ⟨o, s _ _ q⟩) fun q => q
mutual
theorem Rep.up (r : ∀ n a, ρ n = some a → ρ' n = some a) (s : ∀ a o, P a = some o → P' a = some o) : ∀ {d : D} {v : V}, Rep K ρ P d v → Rep K ρ' P' d v
  | _, _, .non => .non
  | _, _, .bl b => .bl b
  | _, _, .int i => .int i
  | _, _, .str x => .str x
  | _, _, .glo x => .glo x
  | _, _, .ty n => .ty n
  | _, _, .tup p q => .tup (s _ _ p) (RepL.up r s q)
  | _, _, .lst p q => .lst (s _ _ p) (RepL.up r s q)
  | _, _, .scr p q => .scr (sqL_sub s p) (RepL.up r s q)
  | _, _, .loc e => .loc (r _ _ e)
  | _, _, .obj p e l q => .obj (s _ _ p) e l (RepL.up r s q)
  | _, _, .dic p e l q => .dic (s _ _ p) e l (RepL.up r s q)
  | _, _, .nd p e l k q => .nd (s _ _ p) e l (fun x hx => (k x hx).up s) (RepL.up r s q)
theorem RepL.up (r : ∀ n a, ρ n = some a → ρ' n = some a) (s : ∀ a o, P a = some o → P' a = some o) : ∀ {ds : List D} {vs : List V}, RepL K ρ P ds vs → RepL K ρ' P' ds vs
  | _, _, .nil => .nil
  | _, _, .cons a b => .cons (Rep.up r s a) (RepL.up r s b)
end
theorem Rep.step (s : Step ρ P H ρ' P' H') {d : D} {v : V} (h : Rep K ρ P d v) : Rep K ρ' P' d v := h.up s.mono s.pure
theorem RepL.step (s : Step ρ P H ρ' P' H') {d : List D} {v : List V} (h : RepL K ρ P d v) : RepL K ρ' P' d v := h.up s.mono s.pure
theorem RE.step (s : Step ρ P H ρ' P' H') {env : En} {σ : L2.St} (r : RE K ρ P env σ) : RE K ρ' P' env σ := ⟨r.1, fun i d e => let ⟨v, h, q⟩ := r.2 i d e; ⟨v, h, q.step s⟩⟩
theorem RepL.length : ∀ {ds : List D} {vs : List V}, RepL K ρ P ds vs → vs.length = ds.length
  | _, _, .nil => rfl
  | _, _, .cons _ b => by simp [RepL.length b]
theorem RepL.get : ∀ {ds : List D} {vs : List V} {i : Nat} {d : D}, RepL K ρ P ds vs → ds[i]? = some d → ∃ v, vs[i]? = some v ∧ Rep K ρ P d v
  | _, _, _, _, .nil, e => by simp at e
  | _, _, 0, _, .cons a b, e => by simp at e; subst e; exact ⟨_, rfl, a⟩
  | _, _, i + 1, d, .cons a b, e => by
    obtain ⟨v, h1, h2⟩ := RepL.get (i := i) (d := d) b (by simpa using e)
    exact ⟨v, by simpa using h1, h2⟩
theorem RepL.append : ∀ {ds es : List D} {vs ws : List V}, RepL K ρ P ds vs → RepL K ρ P es ws → RepL K ρ P (ds ++ es) (vs ++ ws)
  | _, _, _, _, .nil, s => s
  | _, _, _, _, .cons a b, s => .cons a (RepL.append b s)
theorem RepL.set {d : D} {v : V} (r : Rep K ρ P d v) : ∀ {ds : List D} {vs : List V} (i : Nat), RepL K ρ P ds vs → RepL K ρ P (ds.set i d) (vs.set i v)
  | _, _, _, .nil => .nil
  | _, _, 0, .cons _ t => .cons r t
  | _, _, i + 1, .cons q t => .cons q (RepL.set r i t)
theorem RepL.take : ∀ {ds : List D} {vs : List V} (n : Nat), RepL K ρ P ds vs → RepL K ρ P (ds.take n) (vs.take n)
  | _, _, 0, _ => .nil
  | _, _, _ + 1, .nil => .nil
  | _, _, n + 1, .cons r t => .cons r (RepL.take n t)
theorem RepL.drop : ∀ {ds : List D} {vs : List V} (n : Nat), RepL K ρ P ds vs → RepL K ρ P (ds.drop n) (vs.drop n)
  | _, _, 0, r => r
  | _, _, _ + 1, .nil => .nil
  | _, _, n + 1, .cons _ t => RepL.drop n t
theorem RepL.eraseIdx : ∀ {ds : List D} {vs : List V} (i : Nat), RepL K ρ P ds vs → RepL K ρ P (ds.eraseIdx i) (vs.eraseIdx i)
  | _, _, _, .nil => .nil
  | _, _, 0, .cons _ t => t
  | _, _, i + 1, .cons q t => .cons q (RepL.eraseIdx i t)
theorem RepL.reverse {ds : List D} {vs : List V} (h : RepL K ρ P ds vs) : RepL K ρ P ds.reverse vs.reverse := by
  induction ds generalizing vs with
  | nil => cases h; exact .nil
  | cons d ds ih =>
    cases h with
    | cons a b =>
      rw [List.reverse_cons, List.reverse_cons]
      exact (ih b).append (.cons a .nil)
theorem RepL.ints {ρ : Ro} {P : Hp} : ∀ ns : List Int, RepL K ρ P (ns.map D.int) (ns.map V.int)
  | [] => .nil
  | n :: ns => .cons (.int n) (RepL.ints ns)
theorem RepL.bls_iff : ∀ {bs : List Bool} {vs : List V}, RepL K ρ P (bs.map D.bl) vs → vs = bs.map V.bl
  | [], _, .nil => rfl
  | b :: bs, _, .cons (.bl _) r => by rw [RepL.bls_iff r]; rfl
theorem RepL.ints_iff : ∀ {bs : List Int} {vs : List V}, RepL K ρ P (bs.map D.int) vs → vs = bs.map V.int
  | [], _, .nil => rfl
  | b :: bs, _, .cons (.int _) r => by rw [RepL.ints_iff r]; rfl

/-! ### results -/
/-- how a value stands -/
abbrev Rl (α β : Type) := Ro → Hp → α → β → Prop
abbrev RV (K : PySem.W.Frag) : Rl D V := fun ρ P d v => Rep K ρ P d v
abbrev RVs (K : PySem.W.Frag) : Rl (List D) (List V) := fun ρ P d v => RepL K ρ P d v
abbrev RQ (α : Type) : Rl α α := fun _ _ a b => a = b
/-- an exception's dict -/
def RX (K : PySem.W.Frag) (ρ : Ro) (P : Hp) (fs : List (Str × D)) (dd : Option Addr) : Prop :=
  (fs = [] ∧ dd = none) ∨ ∃ da fvs, dd = some da ∧ P da = some (.xd fvs) ∧ fvs.map (·.1) = fs.map (·.1) ∧ RepL K ρ P (fs.map (·.2)) (fvs.map (·.2))
/-- what is wanted behind -/
def Post {α β : Type} (K : PySem.W.Frag) (L : Rl α β) (E : XK) (ρ : Ro) (P H : Hp) (Q : β → Hp → Prop) : R α → Prop
  | .ok a h' => ∀ ρ' P' H' v, Step ρ P H ρ' P' H' → SR K ρ' P' H' h' → L ρ' P' a v → Q v H'
  | .exc x fs h' => ∀ ρ' P' H' dd, Step ρ P H ρ' P' H' → SR K ρ' P' H' h' → RX K ρ' P' fs dd → E (.ref (He.ga K x)) dd H'
  | .bad => False
theorem Post.mono {α β : Type} {L : Rl α β} {E : XK} {Q : β → Hp → Prop} {r : R α} (p : Post K L E ρ P H Q r) (s : Step ρ P H ρ1 P1 H1) : Post K L E ρ1 P1 H1 Q r := by
  cases r with
  | ok a h => exact fun ρ' P' H' v t q1 q2 => p ρ' P' H' v (s.trans t) q1 q2
  | exc x fs h => exact fun ρ' P' H' dd t q1 q2 => p ρ' P' H' dd (s.trans t) q1 q2
  | bad => exact p
theorem Post.imp {α β : Type} {L : Rl α β} {E : XK} {Q Q' : β → Hp → Prop} {r : R α} (p : Post K L E ρ P H Q r) (h : ∀ v H', Q v H' → Q' v H') : Post K L E ρ P H Q' r := by
  cases r with
  | ok a h' => exact fun ρ' P' H' v t q1 q2 => h _ _ (p ρ' P' H' v t q1 q2)
  | exc x fs h => exact p
  | bad => exact p
/-- a reading does what the computation says -/
def Sd {α β : Type} (K : PySem.W.Frag) (L : Rl α β) (E : XK) (t : L2.St → Hp → (β → Hp → Prop) → Prop) (m : M α) : Prop :=
  ∀ ρ P σ H env h, SR K ρ P H h → RE K ρ P env σ → ∀ Q, Post K L E ρ P H Q (m env h) → t σ H Q
/-- one behind another -/
theorem Post.bind {α β γ δ : Type} {L : Rl α β} {L' : Rl γ δ} {E : XK} {Q : δ → Hp → Prop} {r : R α} {k : α → AH → R γ}
    (p : Post K L' E ρ P H Q (r.bind k)) {Q' : β → Hp → Prop} (h : ∀ a h' ρ' P' H' v, Step ρ P H ρ' P' H' → SR K ρ' P' H' h' → L ρ' P' a v → Post K L' E ρ' P' H' Q (k a h') → Q' v H') : Post K L E ρ P H Q' r := by
  cases r with
  | ok a h' => exact fun ρ' P' H' v t q1 q2 => h a h' ρ' P' H' v t q1 q2 (Post.mono (r := k a h') p t)
  | exc x fs h => exact p
  | bad => exact p
/-! ### new things -/
theorem SR.here {h : AH} (s : SR K ρ P H h) {n : Nat} {a : Addr} (e : ρ n = some a) : ∃ o, h[n]? = some o ∧ RO K ρ P H a o := by
  cases q : h[n]? with
  | none =>
    have := s.dom n (by simpa using q)
    rw [this] at e; cases e
  | some o =>
    obtain ⟨b, e1, r⟩ := s.obj n o q
    rw [e] at e1; cases e1
    exact ⟨o, rfl, r⟩
theorem RO.there {a : Addr} {o : AO} (r : RO K ρ P H a o) : H a ≠ none := by
  cases o with
  | lst ds => obtain ⟨vs, e, _⟩ := r; rw [e]; simp
  | dct ds => obtain ⟨vs, e, _⟩ := r; rw [e]; simp
  | ins c fs => obtain ⟨dx, vs, e, _⟩ := r; rw [e]; simp
  | ndt kvs => obtain ⟨xs, e, _⟩ := r; rw [e]; simp
theorem RO.own {a : Addr} {o : AO} (r : RO K ρ P H a o) : ∃ u, H a = some u ∧ noTup u = true := by
  cases o with
  | lst ds => obtain ⟨vs, e, _⟩ := r; exact ⟨_, e, rfl⟩
  | dct ds => obtain ⟨vs, e, _⟩ := r; exact ⟨_, e, rfl⟩
  | ins c fs => obtain ⟨dx, vs, e, _⟩ := r; exact ⟨_, e, rfl⟩
  | ndt kvs => obtain ⟨xs, e, _⟩ := r; exact ⟨_, e, rfl⟩
theorem SR.noR {h : AH} (s : SR K ρ P H h) {p : Addr} (hp : H p = none) : NoR ρ p := fun n e => by
  obtain ⟨o, _, r⟩ := s.here e
  exact r.there hp
/-- what is locked stays so -/
def Frz (H H' : Hp) : Prop := ∀ a r u, H a = some (.frz r u) → H' a = some (.frz r u)
theorem Frz.refl (H : Hp) : Frz H H := fun _ _ _ e => e
theorem Frz.trans {H H1 H' : Hp} (a : Frz H H1) (b : Frz H1 H') : Frz H H' := fun x r u e => b x r u (a x r u e)
theorem Step.frz {h : AH} (t : Step ρ P H ρ' P' H') (s : SR K ρ P H h) : Frz H H' := fun a r u e => t.keep a _ e (fun n en => by
  obtain ⟨o, _, q⟩ := s.here en
  cases o with
  | lst ds => obtain ⟨vs, e1, _⟩ := q; rw [e] at e1; cases e1
  | dct ds => obtain ⟨vs, e1, _⟩ := q; rw [e] at e1; cases e1
  | ins c fs => obtain ⟨dx, vs, e1, _⟩ := q; rw [e] at e1; cases e1
  | ndt kvs => obtain ⟨xs, e1, _⟩ := q; rw [e] at e1; cases e1) (.inr rfl)
theorem SR.noP {h : AH} (s : SR K ρ P H h) {p : Addr} (hp : H p = none) : P p = none := by
  cases q : P p with
  | none => rfl
  | some o =>
    cases z : nD o with
    | true => rw [s.sub p o q z] at hp; cases hp
    | false =>
      cases o with
      | dT kws => rcases s.subD p kws q with e | ⟨o, e⟩ <;> rw [e] at hp <;> cases hp
      | _ => cases z
theorem RO.up {a : Addr} {o : AO} (r : ∀ n a, ρ n = some a → ρ' n = some a) (s : ∀ a o, P a = some o → P' a = some o) (k : ∀ o, H a = some o → H' a = some o) (x : RO K ρ P H a o) : RO K ρ' P' H' a o := by
  cases o with
  | lst ds => obtain ⟨vs, e, q⟩ := x; exact ⟨vs, k _ e, q.up r s⟩
  | dct ds => obtain ⟨vs, e, e2, q⟩ := x; exact ⟨vs, k _ e, e2, q.up r s⟩
  | ins c fs => obtain ⟨dx, vs, e, e2, q⟩ := x; exact ⟨dx, vs, k _ e, e2, q.up r s⟩
  | ndt kvs => obtain ⟨xs, e, e2, w, q⟩ := x; exact ⟨xs, k _ e, e2, fun y hy => (w y hy).up s, q.up r s⟩
theorem rd_keep {a : Addr} {u : HO} (k : ∀ o, H a = some o → H' a = some o) (x : Rd H a u) : Rd H' a u := x.imp (k _) fun ⟨o, e⟩ => ⟨o, k _ e⟩
theorem upd_keep {p : Addr} {o : HO} (hp : H p = none) : ∀ a u, H a = some u → upd H p o a = some u := fun a u e => by rw [upd_ne (ne_of_none e hp)]; exact e
/-- a new thing that never changes -/
theorem SR.pure {h : AH} (s : SR K ρ P H h) {p : Addr} (hp : H p = none) (o : HO) : SR K ρ (upd P p o) (upd H p o) h ∧ Step ρ P H ρ (upd P p o) (upd H p o) := by
  have np := s.noP hp
  have nr := s.noR hp
  refine ⟨⟨fun a u e n => ?_, fun a u e => ?_, fun n a e => ?_, s.inj, fun n u e => ?_, s.dom⟩, ⟨fun _ _ e => e, upd_keep np, fun n a e e' => (by rw [e] at e'; cases e'), fun a e ha => ?_, fun a u e _ _ => upd_keep hp a u e, fun a e => ?_⟩⟩
  · by_cases z : a = p
    · subst z; rw [upd_same] at e ⊢; exact e
    · rw [upd_ne z] at e ⊢; exact s.sub a u e n
  · by_cases z : a = p
    · subst z; rw [upd_same] at e; cases e; exact .inl upd_same
    · rw [upd_ne z] at e; exact rd_keep (fun o e => by rw [upd_ne z]; exact e) (s.subD a u e)
  · have z : a ≠ p := fun z => nr n (z ▸ e)
    rw [upd_ne z]; exact s.apart n a e
  · obtain ⟨a, e1, r⟩ := s.obj n u e
    exact ⟨a, e1, r.up (fun _ _ e => e) (upd_keep np) (upd_keep hp a)⟩
  · have z : a ≠ p := fun z => by
      subst z
      rcases ha with ⟨n, e1⟩ | ⟨u, e1, _⟩
      · exact nr n e1
      · rw [hp] at e1; cases e1
    rw [upd_ne z]; exact e
  · cases w : H a with
    | none => exact absurd w e
    | some u => rw [upd_keep hp a u w]; simp
/-- a new thing of no one's (yet) -/
theorem SR.own {h : AH} (s : SR K ρ P H h) {p : Addr} (hp : H p = none) (o : HO) : SR K ρ P (upd H p o) h ∧ Step ρ P H ρ P (upd H p o) := by
  refine ⟨⟨fun a u e n => upd_keep hp a u (s.sub a u e n), fun a u e => rd_keep (upd_keep hp a) (s.subD a u e), s.apart, s.inj, fun n u e => ?_, s.dom⟩, ⟨fun _ _ e => e, fun _ _ e => e, fun n a e e' => (by rw [e] at e'; cases e'), fun _ e _ => e, fun a u e _ _ => upd_keep hp a u e, fun a e => ?_⟩⟩
  · obtain ⟨a, e1, r⟩ := s.obj n u e
    exact ⟨a, e1, r.up (fun _ _ e => e) (fun _ _ e => e) (upd_keep hp a)⟩
  · cases w : H a with
    | none => exact absurd w e
    | some u => rw [upd_keep hp a u w]; simp
/-- a thing of no one's changes -/
theorem SR.loose {h : AH} (s : SR K ρ P H h) {p : Addr} {o : HO} (np : P p = none) (nr : NoR ρ p) : SR K ρ P (upd H p o) h := by
  refine ⟨fun a u e n => ?_, fun a u e => ?_, s.apart, s.inj, fun n u e => ?_, s.dom⟩
  · have z : a ≠ p := fun z => by rw [z, np] at e; cases e
    rw [upd_ne z]; exact s.sub a u e n
  · have z : a ≠ p := fun z => by rw [z, np] at e; cases e
    exact rd_keep (fun o e => by rw [upd_ne z]; exact e) (s.subD a u e)
  · obtain ⟨a, e1, r⟩ := s.obj n u e
    have z : a ≠ p := fun z => nr n (z ▸ e1)
    exact ⟨a, e1, r.up (fun _ _ e => e) (fun _ _ e => e) fun o e => by rw [upd_ne z]; exact e⟩
/-- a thing of no one's gets a number -/
theorem SR.number {h : AH} (s : SR K ρ P H h) {p : Addr} {o : AO} (np : P p = none) (nr : NoR ρ p) (r : RO K ρ P H p o) : SR K (fun n => if n = h.length then some p else ρ n) P H (h ++ [o]) := by
  have up : ∀ n a, ρ n = some a → (fun n => if n = h.length then some p else ρ n) n = some a := fun n a e => by
    have z : n ≠ h.length := fun z => by rw [z, s.dom _ (Nat.le_refl _)] at e; cases e
    show (if n = h.length then some p else ρ n) = some a
    rw [if_neg z]; exact e
  refine ⟨s.sub, s.subD, fun n a e => ?_, fun n m a e e' => ?_, fun n u e => ?_, fun n hn => ?_⟩
  · have e : (if n = h.length then some p else ρ n) = some a := e
    split at e
    · cases e; exact np
    · exact s.apart n a e
  · have e : (if n = h.length then some p else ρ n) = some a := e
    have e' : (if m = h.length then some p else ρ m) = some a := e'
    split at e <;> split at e'
    · omega
    · cases e; exact absurd e' (nr m)
    · cases e'; exact absurd e (nr n)
    · exact s.inj n m a e e'
  · by_cases z : n < h.length
    · rw [List.getElem?_append_left z] at e
      obtain ⟨a, e1, q⟩ := s.obj n u e
      exact ⟨a, up n a e1, q.up up (fun _ _ e => e) fun _ e => e⟩
    · have z2 : n = h.length := by
        have := (List.getElem?_eq_some_iff.mp e).1
        simp at this; omega
      subst z2
      rw [List.getElem?_append_right (Nat.le_refl _)] at e
      simp at e
      subst e
      exact ⟨p, by simp, r.up up (fun _ _ e => e) fun _ e => e⟩
  · have z : h.length + 1 ≤ n := by simpa using hn
    show (if n = h.length then some p else ρ n) = none
    rw [if_neg (by omega)]
    exact s.dom n (by omega)
/-- a numbered thing changes -/
theorem SR.put {h : AH} (s : SR K ρ P H h) {n : Nat} {p : Addr} {o : AO} {u : HO} (e : ρ n = some p) (r : RO K ρ P (upd H p u) p o) : SR K ρ P (upd H p u) (h.set n o) ∧ Step ρ P H ρ P (upd H p u) := by
  have np := s.apart n p e
  obtain ⟨o0, e0, r0⟩ := s.here e
  refine ⟨⟨fun a v ea nd => ?_, fun a v ea => ?_, s.apart, s.inj, fun m v ev => ?_, fun m hm => s.dom m (by simpa using hm)⟩, ⟨fun _ _ e => e, fun _ _ e => e, fun n a e e' => (by rw [e] at e'; cases e'), fun _ e _ => e, fun a v ea hn _ => ?_, fun a ea => ?_⟩⟩
  · have z : a ≠ p := fun z => by rw [z, np] at ea; cases ea
    rw [upd_ne z]; exact s.sub a v ea nd
  · have z : a ≠ p := fun z => by rw [z, np] at ea; cases ea
    exact rd_keep (fun o e => by rw [upd_ne z]; exact e) (s.subD a v ea)
  · by_cases z : m = n
    · subst z
      have hl := (List.getElem?_eq_some_iff.mp e0).1
      rw [List.getElem?_set_self hl] at ev
      cases ev
      exact ⟨p, e, r⟩
    · rw [List.getElem?_set_ne (Ne.symm z)] at ev
      obtain ⟨a, e1, q⟩ := s.obj m v ev
      have za : a ≠ p := fun w => z (s.inj _ _ _ e1 (w ▸ e))
      exact ⟨a, e1, q.up (fun _ _ e => e) (fun _ _ e => e) fun o e => by rw [upd_ne za]; exact e⟩
  · have z : a ≠ p := fun z => hn n (z ▸ e)
    rw [upd_ne z]; exact ea
  · by_cases z : a = p
    · rw [z, upd_same]; simp
    · rw [upd_ne z]; exact ea
/-- a tuple that stands is counted among what never changes -/
theorem SR.adopt {h : AH} (s : SR K ρ P H h) {q : Addr} {xs : List V} (e : H q = some (.tup xs)) : ∃ P2, Step ρ P H ρ P2 H ∧ SR K ρ P2 H h ∧ P2 q = some (.tup xs) := by
  cases z : P q with
  | some o =>
    have : o = .tup xs := by
      cases w : nD o with
      | true => have := s.sub q o z w; rw [e] at this; cases this; rfl
      | false =>
        cases o with
        | dT kws => rcases s.subD q kws z with x | ⟨r, x⟩ <;> rw [e] at x <;> cases x
        | _ => cases w
    subst this
    exact ⟨P, Step.refl .., s, z⟩
  | none =>
    have nr : NoR ρ q := fun n en => by
      obtain ⟨o, _, r⟩ := s.here en
      cases o with
      | lst ds => obtain ⟨vs, e1, _⟩ := r; rw [e] at e1; cases e1
      | dct ds => obtain ⟨vs, e1, _⟩ := r; rw [e] at e1; cases e1
      | ins c fs => obtain ⟨dx, vs, e1, _⟩ := r; rw [e] at e1; cases e1
      | ndt kvs => obtain ⟨xs, e1, _⟩ := r; rw [e] at e1; cases e1
    have kp : ∀ a o, P a = some o → upd P q (.tup xs) a = some o := upd_keep z
    refine ⟨upd P q (.tup xs), ⟨fun _ _ e => e, kp, fun n a e e' => (by rw [e] at e'; cases e'), fun a e1 ha => ?_, fun _ _ e _ _ => e, fun _ e => e⟩, ⟨fun a o ea nd => ?_, fun a kws ea => ?_, fun n a en => ?_, s.inj, fun n o en => ?_, s.dom⟩, upd_same⟩
    · have ne : a ≠ q := fun w => by
        subst w
        rcases ha with ⟨n, e2⟩ | ⟨u, e2, e3⟩
        · exact nr n e2
        · rw [e] at e2; cases e2; cases e3
      rw [upd_ne ne]; exact e1
    · by_cases w : a = q
      · subst w; rw [upd_same] at ea; cases ea; exact e
      · rw [upd_ne w] at ea; exact s.sub a o ea nd
    · by_cases w : a = q
      · subst w; rw [upd_same] at ea; cases ea
      · rw [upd_ne w] at ea; exact s.subD a kws ea
    · have ne : a ≠ q := fun w => nr n (w ▸ en)
      rw [upd_ne ne]; exact s.apart n a en
    · obtain ⟨a, e1, r⟩ := s.obj n o en
      exact ⟨a, e1, r.up (fun _ _ e => e) kp fun _ e => e⟩
end
end Ab

namespace Ab
open PySem PySem.Spec L2
section
variable {K : PySem.W.Frag} {E : XK} {ρ ρ' ρ1 : Ro} {P H P' H' P1 H1 : Hp}
/-! ### names, constants, operators -/
def mVar (i : Nat) : M D := fun env h => match env[i]? with
  | some (some d) => .ok d h
  | _ => .bad
theorem sd_var {i : Nat} : Sd K (RV K) E (tVar i) (mVar i) := fun ρ P σ H env h s r Q p => by
  unfold mVar at p
  cases q : env[i]? with
  | none => rw [q] at p; exact p.elim
  | some o =>
    cases o with
    | none => rw [q] at p; exact p.elim
    | some d =>
      rw [q] at p
      obtain ⟨v, e, w⟩ := r.2 i d q
      exact ⟨v, e, p ρ P H v (Step.refl ..) s w⟩
def mC (d : D) : M D := fun _ h => .ok d h
theorem sd_c {d : D} {v : V} (w : ∀ ρ P, Rep K ρ P d v) : Sd K (RV K) E (tC v) (mC d) := fun ρ P σ H env h s r Q p => p ρ P H v (Step.refl ..) s (w ρ P)
def OpS (K : PySem.W.Frag) (E : XK) (r : R2) (f : D → D → AH → R D) : Prop := ∀ ρ P H h x y dx dy, SR K ρ P H h → Rep K ρ P dx x → Rep K ρ P dy y → ∀ Q, Post K (RV K) E ρ P H Q (f dx dy h) → r x y H Q
def mBin (f : D → D → AH → R D) (ma mb : M D) : M D := fun env h => (ma env h).bind fun a h1 => (mb env h1).bind fun b h2 => f a b h2
theorem sd_op {r : R2} {f : D → D → AH → R D} {ta tb : TE} {ma mb : M D} (ha : Sd K (RV K) E ta ma) (hb : Sd K (RV K) E tb mb) (hf : OpS K E r f) : Sd K (RV K) E (tOp r ta tb) (mBin f ma mb) := fun ρ P σ H env h s re Q p =>
  ha ρ P σ H env h s re _ (Post.bind p fun a h1 ρ1 P1 H1 v t1 s1 w1 p1 =>
    hb ρ1 P1 σ H1 env h1 s1 (re.step t1) _ (Post.bind p1 fun b h2 ρ2 P2 H2 u t2 s2 w2 p2 => hf ρ2 P2 H2 h2 v u a b s2 (w1.step t2) w2 Q p2))
def UnS (K : PySem.W.Frag) (E : XK) (r : V → Hp → VK → Prop) (f : D → AH → R D) : Prop := ∀ ρ P H h x dx, SR K ρ P H h → Rep K ρ P dx x → ∀ Q, Post K (RV K) E ρ P H Q (f dx h) → r x H Q
def mUn (f : D → AH → R D) (ma : M D) : M D := fun env h => (ma env h).bind fun a h1 => f a h1
theorem sd_un {r : V → Hp → VK → Prop} {f : D → AH → R D} {ta : TE} {ma : M D} (ha : Sd K (RV K) E ta ma) (hf : UnS K E r f) : Sd K (RV K) E (tUn r ta) (mUn f ma) := fun ρ P σ H env h s re Q p =>
  ha ρ P σ H env h s re _ (Post.bind p fun a h1 ρ1 P1 H1 v t1 s1 w1 p1 => hf ρ1 P1 H1 h1 v a s1 w1 Q p1)
/-- what changes nothing -/
theorem Post.here {α β : Type} {L : Rl α β} {a : α} {h : AH} {Q : β → Hp → Prop} {v : β} (p : Post K L E ρ P H Q (.ok a h)) (s : SR K ρ P H h) (w : L ρ P a v) : Q v H := p ρ P H v (Step.refl ..) s w

/-! ### truth, tests -/
def seqD (d : D) (h : AH) : Option (List D) := match d with
  | .lst ds => some ds
  | .scr ds => some ds
  | .loc n => match h[n]? with
    | some (.lst ds) => some ds
    | _ => none
  | _ => none
theorem seqD_sq {h : AH} {d : D} {v : V} {ds : List D} (s : SR K ρ P H h) (w : Rep K ρ P d v) (e : seqD d h = some ds) : ∃ a vs, v = .ref a ∧ SqL K H a vs ∧ RepL K ρ P ds vs := by
  cases w with
  | lst p q => cases e; exact ⟨_, _, rfl, .of (s.sub _ _ p rfl), q⟩
  | scr p q => cases e; exact ⟨_, _, rfl, sqL_s s.sub p, q⟩
  | loc e1 =>
    obtain ⟨o, e2, r⟩ := s.here e1
    simp only [seqD, e2] at e
    cases o with
    | lst es =>
      cases e
      obtain ⟨vs, e3, q⟩ := r
      exact ⟨_, vs, rfl, .of e3, q⟩
    | dct kvs => cases e
    | ins c fs => cases e
    | ndt kvs => cases e
  | _ => cases e
def truD (d : D) (h : AH) : Option Bool := match d with
  | .non => some false
  | .bl b => some b
  | .int i => some (i != 0)
  | .str x => if x.length ≤ sizeLine then some ((x.length : Int) != 0) else none
  | .tup ds => some (!ds.isEmpty)
  | d => (seqD d h).map fun ds => !ds.isEmpty
theorem RepL.isEmpty {ds : List D} {vs : List V} (r : RepL K ρ P ds vs) : ds.isEmpty = vs.isEmpty := by cases r <;> rfl
theorem truD_ok {h : AH} {d : D} {v : V} {b : Bool} (s : SR K ρ P H h) (w : Rep K ρ P d v) (e : truD d h = some b) : TruV K v H b := by
  have sq : ∀ {d : D}, Rep K ρ P d v → (seqD d h).map (fun ds => !ds.isEmpty) = some b → TruV K v H b := fun {d} w e => by
    cases q : seqD d h with
    | none => rw [q] at e; cases e
    | some ds =>
      rw [q] at e
      obtain ⟨a, vs, rfl, sq, r⟩ := seqD_sq s w q
      refine .inl ⟨vs, sq, ?_⟩
      rw [← r.isEmpty]
      exact (Option.some.inj e).symm
  cases w with
  | non => cases e; rfl
  | bl b => cases e; rfl
  | int i => cases e; rfl
  | str x =>
    simp only [truD] at e
    split at e
    · rename_i hl; cases e; exact ⟨hl, rfl⟩
    · cases e
  | glo x => cases e
  | ty n => cases e
  | obj _ _ _ _ => cases e
  | dic _ _ _ _ => cases e
  | nd _ _ _ _ _ => cases e
  | tup p q =>
    cases e
    exact .inr (.inl ⟨_, sqT_tk s.sub p, by rw [q.isEmpty]⟩)
  | lst p q => exact sq (.lst p q) e
  | scr p q => exact sq (.scr p q) e
  | loc p => exact sq (.loc p) e
def mTru (ma : M D) : M Bool := fun env h => (ma env h).bind fun a h1 => match truD a h1 with
  | some b => .ok b h1
  | none => .bad
theorem sd_tru {ta : TE} {ma : M D} (ha : Sd K (RV K) E ta ma) : Sd K (RQ Bool) E (fun σ H Q => ta σ H fun x H' => ∃ k, TruV K x H' k ∧ Q k H') (mTru ma) := fun ρ P σ H env h s re Q p =>
  ha ρ P σ H env h s re _ (Post.bind p fun a h1 ρ1 P1 H1 v t1 s1 w1 p1 => by
    cases q : truD a h1 with
    | none => rw [q] at p1; exact p1.elim
    | some b =>
      rw [q] at p1
      exact ⟨b, truD_ok s1 w1 q, p1.here s1 rfl⟩)
/-- a comparison as a test: its answer is a truth value -/
def mBl (ma : M D) : M Bool := fun env h => (ma env h).bind fun a h1 => match a with
  | .bl b => .ok b h1
  | _ => .bad
theorem sd_test {ta : TE} {ma : M D} (ha : Sd K (RV K) E ta ma) : Sd K (RQ Bool) E (tTest ta) (mBl ma) := fun ρ P σ H env h s re Q p =>
  ha ρ P σ H env h s re _ (Post.bind p fun a h1 ρ1 P1 H1 v t1 s1 w1 p1 => by
    cases w1 with
    | bl b => exact ⟨b, rfl, p1.here s1 rfl⟩
    | _ => exact p1.elim)
def mNotT (m : M Bool) : M Bool := fun env h => (m env h).bind fun b h1 => .ok (!b) h1
theorem sd_notT {t : TT} {m : M Bool} (ha : Sd K (RQ Bool) E t m) : Sd K (RQ Bool) E (tNot t) (mNotT m) := fun ρ P σ H env h s re Q p =>
  ha ρ P σ H env h s re _ (Post.bind p fun a h1 ρ1 P1 H1 v t1 s1 w1 p1 => by cases w1; exact p1.here s1 rfl)
def mAndT (m n : M Bool) : M Bool := fun env h => (m env h).bind fun b h1 => if b = true then n env h1 else .ok false h1
def mOrT (m n : M Bool) : M Bool := fun env h => (m env h).bind fun b h1 => if b = true then .ok true h1 else n env h1
theorem sd_andT {t u : TT} {m n : M Bool} (ha : Sd K (RQ Bool) E t m) (hb : Sd K (RQ Bool) E u n) : Sd K (RQ Bool) E (tAnd t u) (mAndT m n) := fun ρ P σ H env h s re Q p =>
  ha ρ P σ H env h s re _ (Post.bind p fun a h1 ρ1 P1 H1 v t1 s1 w1 p1 => by
    cases w1
    cases a with
    | true => exact hb _ _ _ _ _ _ s1 (re.step t1) _ p1
    | false => exact Post.here p1 s1 rfl)
theorem sd_orT {t u : TT} {m n : M Bool} (ha : Sd K (RQ Bool) E t m) (hb : Sd K (RQ Bool) E u n) : Sd K (RQ Bool) E (tOr t u) (mOrT m n) := fun ρ P σ H env h s re Q p =>
  ha ρ P σ H env h s re _ (Post.bind p fun a h1 ρ1 P1 H1 v t1 s1 w1 p1 => by
    cases w1
    cases a with
    | false => exact hb _ _ _ _ _ _ s1 (re.step t1) _ p1
    | true => exact Post.here p1 s1 rfl)
theorem sd_yes : Sd K (RQ Bool) E tYes (fun _ h => .ok true h) := fun ρ P σ H env h s re Q p => p.here s rfl
/-- x and y, x or y, not x as values -/
def mAnd (ma mb : M D) : M D := fun env h => (ma env h).bind fun a h1 => match truD a h1 with
  | some true => mb env h1
  | some false => .ok a h1
  | none => .bad
def mOr (ma mb : M D) : M D := fun env h => (ma env h).bind fun a h1 => match truD a h1 with
  | some true => .ok a h1
  | some false => mb env h1
  | none => .bad
def mNot (ma : M D) : M D := fun env h => (ma env h).bind fun a h1 => match truD a h1 with
  | some b => .ok (.bl (!b)) h1
  | none => .bad
theorem sd_and {ta tb : TE} {ma mb : M D} (ha : Sd K (RV K) E ta ma) (hb : Sd K (RV K) E tb mb) : Sd K (RV K) E (tAndT K ta tb) (mAnd ma mb) := fun ρ P σ H env h s re Q p =>
  ha ρ P σ H env h s re _ (Post.bind p fun a h1 ρ1 P1 H1 v t1 s1 w1 p1 => by
    cases q : truD a h1 with
    | none => rw [q] at p1; exact p1.elim
    | some b =>
      rw [q] at p1
      refine ⟨b, truD_ok s1 w1 q, ?_⟩
      cases b with
      | true => exact hb _ _ _ _ _ _ s1 (re.step t1) _ p1
      | false => exact Post.here p1 s1 w1)
theorem sd_not {ta : TE} {ma : M D} (ha : Sd K (RV K) E ta ma) : Sd K (RV K) E (tNotT K ta) (mNot ma) := fun ρ P σ H env h s re Q p =>
  ha ρ P σ H env h s re _ (Post.bind p fun a h1 ρ1 P1 H1 v t1 s1 w1 p1 => by
    cases q : truD a h1 with
    | none => rw [q] at p1; exact p1.elim
    | some b =>
      rw [q] at p1
      exact ⟨b, truD_ok s1 w1 q, p1.here s1 (.bl _)⟩)
def mIf (m : M Bool) (ma mb : M D) : M D := fun env h => (m env h).bind fun b h1 => if b = true then ma env h1 else mb env h1
theorem sd_if {t : TT} {ta tb : TE} {m : M Bool} {ma mb : M D} (hc : Sd K (RQ Bool) E t m) (ha : Sd K (RV K) E ta ma) (hb : Sd K (RV K) E tb mb) : Sd K (RV K) E (tIf t ta tb) (mIf m ma mb) := fun ρ P σ H env h s re Q p =>
  hc ρ P σ H env h s re _ (Post.bind p fun a h1 ρ1 P1 H1 v t1 s1 w1 p1 => by
    cases w1
    cases a with
    | true => exact ha _ _ _ _ _ _ s1 (re.step t1) _ p1
    | false => exact hb _ _ _ _ _ _ s1 (re.step t1) _ p1)
/-! ### arguments, tuples, lists -/
def mNil : M (List D) := fun _ h => .ok [] h
def mCons (ma : M D) (mr : M (List D)) : M (List D) := fun env h => (ma env h).bind fun a h1 => (mr env h1).bind fun r h2 => .ok (a :: r) h2
theorem sd_nil : Sd K (RVs K) E tNil mNil := fun ρ P σ H env h s re Q p => p.here s .nil
theorem sd_cons {ta : TE} {tr : TA} {ma : M D} {mr : M (List D)} (ha : Sd K (RV K) E ta ma) (hr : Sd K (RVs K) E tr mr) : Sd K (RVs K) E (tCons ta tr) (mCons ma mr) := fun ρ P σ H env h s re Q p =>
  ha ρ P σ H env h s re _ (Post.bind p fun a h1 ρ1 P1 H1 v t1 s1 w1 p1 =>
    hr _ _ _ _ _ _ s1 (re.step t1) _ (Post.bind p1 fun b h2 ρ2 P2 H2 u t2 s2 w2 p2 => p2.here s2 (.cons (w1.step t2) w2)))
/-- a new tuple -/
theorem Post.newT {h : AH} {ds : List D} {vs : List V} {Q : VK} (p : Post K (RV K) E ρ P H Q (.ok (.tup ds) h)) (s : SR K ρ P H h) (w : RepL K ρ P ds vs) : ∀ q, H q = none → Q (.ref q) (upd H q (.tup vs)) := fun q hq => by
  obtain ⟨s', t⟩ := s.pure hq (.tup vs)
  exact p _ _ _ _ t s' (.tup upd_same (w.step t))
def mTup (m : M (List D)) : M D := fun env h => (m env h).bind fun ds h1 => if ds.length ≤ sizeLine then .ok (.tup ds) h1 else .bad
theorem sd_tup {t : TA} {m : M (List D)} (hr : Sd K (RVs K) E t m) : Sd K (RV K) E (tTup t) (mTup m) := fun ρ P σ H env h s re Q p =>
  hr ρ P σ H env h s re _ (Post.bind p fun a h1 ρ1 P1 H1 v t1 s1 w1 p1 => by
    split at p1
    · rename_i hl
      exact ⟨by rw [w1.length]; exact hl, p1.newT s1 w1⟩
    · exact p1.elim)
/-- a new list, no one's yet -/
def PostF (K : PySem.W.Frag) (E : XK) (ρ : Ro) (P H : Hp) (Q : VK) : R (List D) → Prop
  | .ok ds h' => ∀ ρ' P' H' p vs, Step ρ P H ρ' P' H' → SR K ρ' P' H' h' → H p = none → P' p = none → NoR ρ' p → H' p = some (.lst vs) → RepL K ρ' P' ds vs → Q (.ref p) H'
  | .exc x fs h' => ∀ ρ' P' H' dd, Step ρ P H ρ' P' H' → SR K ρ' P' H' h' → RX K ρ' P' fs dd → E (.ref (He.ga K x)) dd H'
  | .bad => False
def SdF (K : PySem.W.Frag) (E : XK) (t : TE) (m : M (List D)) : Prop := ∀ ρ P σ H env h, SR K ρ P H h → RE K ρ P env σ → ∀ Q, PostF K E ρ P H Q (m env h) → t σ H Q
theorem PostF.mono {Q : VK} {r : R (List D)} (p : PostF K E ρ P H Q r) (s : Step ρ P H ρ1 P1 H1) : PostF K E ρ1 P1 H1 Q r := by
  cases r with
  | ok a h => exact fun ρ' P' H' p' vs t q1 q2 q3 q4 q5 q6 => p ρ' P' H' p' vs (s.trans t) q1 (s.free q2) q3 q4 q5 q6
  | exc x fs h => exact fun ρ' P' H' dd t q1 q2 => p ρ' P' H' dd (s.trans t) q1 q2
  | bad => exact p
theorem PostF.bind {α β : Type} {L : Rl α β} {Q : VK} {r : R α} {k : α → AH → R (List D)}
    (p : PostF K E ρ P H Q (r.bind k)) {Q' : β → Hp → Prop} (h : ∀ a h' ρ' P' H' v, Step ρ P H ρ' P' H' → SR K ρ' P' H' h' → L ρ' P' a v → PostF K E ρ' P' H' Q (k a h') → Q' v H') : Post K L E ρ P H Q' r := by
  cases r with
  | ok a h' => exact fun ρ' P' H' v t q1 q2 => h a h' ρ' P' H' v t q1 q2 (PostF.mono (r := k a h') p t)
  | exc x fs h => exact p
  | bad => exact p
theorem PostF.newL {h : AH} {ds : List D} {vs : List V} {Q : VK} (p : PostF K E ρ P H Q (.ok ds h)) (s : SR K ρ P H h) (w : RepL K ρ P ds vs) : ∀ q, H q = none → Q (.ref q) (upd H q (.lst vs)) := fun q hq => by
  obtain ⟨s', t⟩ := s.own hq (.lst vs)
  exact p _ _ _ _ _ t s' hq (s.noP hq) (s.noR hq) upd_same w
def mFrz (m : M (List D)) : M D := fun env h => (m env h).bind fun ds h1 => .ok (.lst ds) h1
def mOwn (m : M (List D)) : M D := fun env h => (m env h).bind fun ds h1 => .ok (.loc h1.length) (h1 ++ [.lst ds])
theorem sd_frz {t : TE} {m : M (List D)} (hr : SdF K E t m) : Sd K (RV K) E t (mFrz m) := fun ρ P σ H env h s re Q p => by
  refine hr ρ P σ H env h s re Q ?_
  have p : Post K (RV K) E ρ P H Q ((m env h).bind fun ds h1 => .ok (.lst ds) h1) := p
  cases q : m env h with
  | bad => rw [q] at p; exact p
  | exc x fs h => rw [q] at p; exact p
  | ok ds h1 =>
    rw [q] at p
    refine fun ρ' P' H' a vs t s1 hp np nr e w => ?_
    have kp : ∀ b o, P' b = some o → upd P' a (.lst vs) b = some o := upd_keep np
    refine p ρ' (upd P' a (.lst vs)) H' _ ⟨t.mono, fun b o eb => kp b o (t.pure b o eb), t.newr, fun b eb hb => ?_, t.keep, t.there⟩ ⟨fun b o eb nd => ?_, fun b o eb => ?_, fun n b eb => ?_, s1.inj, fun n o eo => ?_, s1.dom⟩ (.lst upd_same (w.up (fun _ _ e => e) kp))
    · have z : b ≠ a := fun z => by
        subst z
        rcases hb with ⟨n, e1⟩ | ⟨u, e1, _⟩
        · exact nr n (t.mono n b e1)
        · rw [hp] at e1; cases e1
      rw [upd_ne z]; exact t.newp b eb hb
    · by_cases z : b = a
      · subst z; rw [upd_same] at eb; cases eb; exact e
      · rw [upd_ne z] at eb; exact s1.sub b o eb nd
    · by_cases z : b = a
      · subst z; rw [upd_same] at eb; cases eb
      · rw [upd_ne z] at eb; exact s1.subD b o eb
    · have z : b ≠ a := fun z => nr n (z ▸ eb)
      rw [upd_ne z]; exact s1.apart n b eb
    · obtain ⟨b, e1, r⟩ := s1.obj n o eo
      exact ⟨b, e1, r.up (fun _ _ e => e) kp fun _ e => e⟩
theorem sd_own {t : TE} {m : M (List D)} (hr : SdF K E t m) : Sd K (RV K) E t (mOwn m) := fun ρ P σ H env h s re Q p => by
  refine hr ρ P σ H env h s re Q ?_
  have p : Post K (RV K) E ρ P H Q ((m env h).bind fun ds h1 => .ok (.loc h1.length) (h1 ++ [.lst ds])) := p
  cases q : m env h with
  | bad => rw [q] at p; exact p
  | exc x fs h => rw [q] at p; exact p
  | ok ds h1 =>
    rw [q] at p
    refine fun ρ' P' H' a vs t s1 hp np nr e w => ?_
    refine p (fun n => if n = h1.length then some a else ρ' n) P' H' _ ⟨fun n b eb => ?_, t.pure, fun n b e0 eb => ?_, t.newp, t.keep, t.there⟩ (s1.number np nr ⟨vs, e, w⟩) (.loc (by simp))
    · have eb := t.mono n b eb
      have z : n ≠ h1.length := fun z => by rw [z, s1.dom _ (Nat.le_refl _)] at eb; cases eb
      show (if n = h1.length then some a else ρ' n) = some b
      rw [if_neg z]; exact eb
    · have eb : (if n = h1.length then some a else ρ' n) = some b := eb
      split at eb
      · cases eb; exact hp
      · exact t.newr n b e0 eb
def mLst (m : M (List D)) : M (List D) := fun env h => (m env h).bind fun ds h1 => if ds.length ≤ sizeLine then .ok ds h1 else .bad
theorem sf_lst {t : TA} {m : M (List D)} (hr : Sd K (RVs K) E t m) : SdF K E (tLst t) (mLst m) := fun ρ P σ H env h s re Q p =>
  hr ρ P σ H env h s re _ (PostF.bind p fun a h1 ρ1 P1 H1 v t1 s1 w1 p1 => by
    split at p1
    · rename_i hl
      exact ⟨by rw [w1.length]; exact hl, p1.newL s1 w1⟩
    · exact p1.elim)
end
end Ab

namespace Ab
open PySem PySem.Spec L2
/-- how a statement ends -/
inductive SS where
  | nx (env : En) (h : AH)
  | rt (d : D) (h : AH)
  | bk (env : En) (h : AH)
  | ct (env : En) (h : AH)
  | exc (x : Str) (fs : List (Str × D)) (h : AH)
  | bad
abbrev MS := En → AH → SS
def R.then {α : Type} (r : R α) (k : α → AH → SS) : SS := match r with
  | .ok a h => k a h
  | .exc x fs h => .exc x fs h
  | .bad => .bad
section
variable {K : PySem.W.Frag} {E : XK} {ρ ρ' ρ1 : Ro} {P H P' H' P1 H1 : Hp}
def PostS (K : PySem.W.Frag) (E : XK) (ρ : Ro) (P H : Hp) (D : Ends) : SS → Prop
  | .nx env h' => ∀ ρ' P' H' σ', Step ρ P H ρ' P' H' → SR K ρ' P' H' h' → RE K ρ' P' env σ' → D.nx σ' H'
  | .rt d h' => ∀ ρ' P' H' v, Step ρ P H ρ' P' H' → SR K ρ' P' H' h' → Rep K ρ' P' d v → D.rt v H'
  | .bk env h' => ∀ ρ' P' H' σ', Step ρ P H ρ' P' H' → SR K ρ' P' H' h' → RE K ρ' P' env σ' → D.bk σ' H'
  | .ct env h' => ∀ ρ' P' H' σ', Step ρ P H ρ' P' H' → SR K ρ' P' H' h' → RE K ρ' P' env σ' → D.ct σ' H'
  | .exc x fs h' => ∀ ρ' P' H' dd, Step ρ P H ρ' P' H' → SR K ρ' P' H' h' → RX K ρ' P' fs dd → E (.ref (He.ga K x)) dd H'
  | .bad => False
theorem PostS.mono {D : Ends} {r : SS} (p : PostS K E ρ P H D r) (s : Step ρ P H ρ1 P1 H1) : PostS K E ρ1 P1 H1 D r := by
  cases r with
  | nx env h => exact fun ρ' P' H' v t q1 q2 => p ρ' P' H' v (s.trans t) q1 q2
  | rt d h => exact fun ρ' P' H' v t q1 q2 => p ρ' P' H' v (s.trans t) q1 q2
  | bk env h => exact fun ρ' P' H' v t q1 q2 => p ρ' P' H' v (s.trans t) q1 q2
  | ct env h => exact fun ρ' P' H' v t q1 q2 => p ρ' P' H' v (s.trans t) q1 q2
  | exc x fs h => exact fun ρ' P' H' dd t q1 q2 => p ρ' P' H' dd (s.trans t) q1 q2
  | bad => exact p
def SdS (K : PySem.W.Frag) (E : XK) (t : TS) (m : MS) : Prop := ∀ ρ P σ H env h, SR K ρ P H h → RE K ρ P env σ → ∀ D, PostS K E ρ P H D (m env h) → t D σ H
theorem PostS.bind {α β : Type} {L : Rl α β} {D : Ends} {r : R α} {k : α → AH → SS}
    (p : PostS K E ρ P H D (r.then k)) {Q' : β → Hp → Prop} (h : ∀ a h' ρ' P' H' v, Step ρ P H ρ' P' H' → SR K ρ' P' H' h' → L ρ' P' a v → PostS K E ρ' P' H' D (k a h') → Q' v H') : Post K L E ρ P H Q' r := by
  cases r with
  | ok a h' => exact fun ρ' P' H' v t q1 q2 => h a h' ρ' P' H' v t q1 q2 (PostS.mono (r := k a h') p t)
  | exc x fs h => exact p
  | bad => exact p
theorem PostS.next {D : Ends} {env : En} {h : AH} {σ : L2.St} (p : PostS K E ρ P H D (.nx env h)) (s : SR K ρ P H h) (r : RE K ρ P env σ) : D.nx σ H := p ρ P H σ (Step.refl ..) s r
theorem RE.set {env : En} {σ : L2.St} (r : RE K ρ P env σ) {d : D} {v : V} (w : Rep K ρ P d v) (i : Nat) : RE K ρ P (env.set i (some d)) (σ.set i (some v)) := by
  refine ⟨by simp [r.1], fun j e he => ?_⟩
  by_cases z : i = j
  · subst z
    by_cases hl : i < env.length
    · rw [List.getElem?_set_self hl] at he
      cases he
      exact ⟨v, List.getElem?_set_self (by rw [← r.1]; exact hl), w⟩
    · rw [List.getElem?_eq_none (by simpa using hl)] at he; cases he
  · rw [List.getElem?_set_ne z] at he ⊢
    exact r.2 j e he
/-! ### small statements -/
def mNext : MS := fun env h => .nx env h
theorem ss_next : SdS K E tNext mNext := fun ρ P σ H env h s r D p => p.next s r
def mSeq (m n : MS) : MS := fun env h => match m env h with
  | .nx env' h' => n env' h'
  | r => r
theorem ss_seq {t u : TS} {m n : MS} (ha : SdS K E t m) (hb : SdS K E u n) : SdS K E (tSeq t u) (mSeq m n) := fun ρ P σ H env h s re D p => by
  refine ha ρ P σ H env h s re _ ?_
  have p : PostS K E ρ P H D (match m env h with
    | .nx env' h' => n env' h'
    | r => r) := p
  cases q : m env h with
  | nx env' h' =>
    rw [q] at p
    exact fun ρ' P' H' σ' t s' r' => hb _ _ _ _ _ _ s' r' D (PostS.mono (r := n env' h') p t)
  | rt d h' => rw [q] at p; exact p
  | bk env h => rw [q] at p; exact p
  | ct env h => rw [q] at p; exact p
  | exc x fs h => rw [q] at p; exact p
  | bad => rw [q] at p; exact p
def mDrop (m : M D) : MS := fun env h => (m env h).then fun _ h1 => .nx env h1
theorem ss_drop {t : TE} {m : M D} (ha : Sd K (RV K) E t m) : SdS K E (tDrop t) (mDrop m) := fun ρ P σ H env h s re D p =>
  ha ρ P σ H env h s re _ (PostS.bind p fun a h1 ρ1 P1 H1 v t1 s1 w1 p1 => PostS.next p1 s1 (re.step t1))
def mRet (m : M D) : MS := fun env h => (m env h).then fun d h1 => .rt d h1
theorem ss_ret {t : TE} {m : M D} (ha : Sd K (RV K) E t m) : SdS K E (tRet t) (mRet m) := fun ρ P σ H env h s re D p =>
  ha ρ P σ H env h s re _ (PostS.bind p fun a h1 ρ1 P1 H1 v t1 s1 w1 p1 => p1 ρ1 P1 H1 v (Step.refl ..) s1 w1)
def mIfS (m : M Bool) (a b : MS) : MS := fun env h => (m env h).then fun c h1 => if c = true then a env h1 else b env h1
theorem ss_if {t : TT} {ta tb : TS} {m : M Bool} {ma mb : MS} (hc : Sd K (RQ Bool) E t m) (ha : SdS K E ta ma) (hb : SdS K E tb mb) : SdS K E (tIfS t ta tb) (mIfS m ma mb) := fun ρ P σ H env h s re D p =>
  hc ρ P σ H env h s re _ (PostS.bind p fun a h1 ρ1 P1 H1 v t1 s1 w1 p1 => by
    cases w1
    cases a with
    | true => exact ha _ _ _ _ _ _ s1 (re.step t1) _ p1
    | false => exact hb _ _ _ _ _ _ s1 (re.step t1) _ p1)
/-- a statement that is never reached -/
theorem ss_never : SdS K E tNever (fun _ _ => .bad) := fun ρ P σ H env h s re D p => p
/-! ### targets -/
/-- what stands behind a target's store -/
abbrev MG := D → En → AH → R En
def SdG (K : PySem.W.Frag) (E : XK) (g : TG) (m : MG) : Prop := ∀ ρ P σ H env h d v, SR K ρ P H h → RE K ρ P env σ → Rep K ρ P d v → ∀ Q : L2.St → Hp → Prop, Post K (RE K) E ρ P H Q (m d env h) → g v σ H Q
def SdGs (K : PySem.W.Frag) (E : XK) (g : TGs) (m : List D → En → AH → R En) : Prop := ∀ ρ P σ H env h d v, SR K ρ P H h → RE K ρ P env σ → RepL K ρ P d v → ∀ Q : L2.St → Hp → Prop, Post K (RE K) E ρ P H Q (m d env h) → g v σ H Q
def mgName (i : Nat) : MG := fun d env h => .ok (env.set i (some d)) h
theorem sg_name {i : Nat} : SdG K E (gName i) (mgName i) := fun ρ P σ H env h d v s re w Q p => Post.here (L := RE K) p s (re.set w i)
def mgNil : List D → En → AH → R En := fun ds env h => match ds with
  | [] => .ok env h
  | _ => .bad
def mgCons (m : MG) (r : List D → En → AH → R En) : List D → En → AH → R En := fun ds env h => match ds with
  | d :: ds => (m d env h).bind fun env' h' => r ds env' h'
  | [] => .bad
theorem sg_nil : SdGs K E gNil mgNil := fun ρ P σ H env h d v s re w Q p => by
  cases w with
  | nil => exact ⟨rfl, Post.here (L := RE K) p s re⟩
  | cons a b => exact p.elim
theorem sg_cons {g : TG} {gs : TGs} {m : MG} {r : List D → En → AH → R En} (ha : SdG K E g m) (hb : SdGs K E gs r) : SdGs K E (gCons g gs) (mgCons m r) := fun ρ P σ H env h d v s re w Q p => by
  cases w with
  | nil => exact p.elim
  | cons a b => exact ⟨_, _, rfl, ha ρ P σ H env h _ _ s re a _ (Post.bind p fun env1 h1 ρ1 P1 H1 σ1 t1 s1 r1 p1 => hb _ _ _ _ _ _ _ _ s1 r1 (b.step t1) Q p1)⟩
def mgTup (n : Nat) (m : List D → En → AH → R En) : MG := fun d env h => match d with
  | .tup ds => if ds.length = n then m ds env h else .bad
  | _ => .bad
def mAsg (m : M D) (g : MG) : MS := fun env h => (m env h).then fun d h1 => (g d env h1).then fun env' h2 => .nx env' h2
theorem ss_asg {t : TE} {g : TG} {m : M D} {mg : MG} (ha : Sd K (RV K) E t m) (hg : SdG K E g mg) : SdS K E (tAsg t g) (mAsg m mg) := fun ρ P σ H env h s re D p =>
  ha ρ P σ H env h s re _ (PostS.bind p fun a h1 ρ1 P1 H1 v t1 s1 w1 p1 => hg _ _ _ _ _ _ _ _ s1 (re.step t1) w1 _ (PostS.bind p1 fun env2 h2 ρ2 P2 H2 σ2 t2 s2 r2 p2 => PostS.next p2 s2 r2))
/-- a, b = x, y: plain names, no tuple made -/
def mPar (i j : Nat) (m : M (List D)) : MS := fun env h => (m env h).then fun ds h1 => match ds with
  | [a, b] => .nx ((env.set i (some a)).set j (some b)) h1
  | _ => .bad
theorem ss_par {i j : Nat} {t : TA} {m : M (List D)} (ha : Sd K (RVs K) E t m) : SdS K E (tPar i j t) (mPar i j m) := fun ρ P σ H env h s re D p =>
  ha ρ P σ H env h s re _ (PostS.bind p fun a h1 ρ1 P1 H1 v t1 s1 w1 p1 => by
    cases w1 with
    | nil => exact p1.elim
    | cons a b =>
      cases b with
      | nil => exact p1.elim
      | cons b c =>
        cases c with
        | nil => exact ⟨_, _, rfl, PostS.next p1 s1 (((re.step t1).set a i).set b j)⟩
        | cons c d => exact p1.elim)
/-- x op= e -/
def mAug (i : Nat) (f : D → D → AH → R D) (m : M D) : MS := fun env h => (mVar i env h).then fun x h0 => (m env h0).then fun y h1 => (f x y h1).then fun z h2 => .nx (env.set i (some z)) h2
theorem ss_aug {i : Nat} {t : TE} {m : M D} {r : TIp} {f : D → D → AH → R D} (ha : Sd K (RV K) E t m) (hf : OpS K E r f) : SdS K E (tAug i t r) (mAug i f m) := fun ρ P σ H env h s re D p => by
  have q := sd_var (K := K) (E := E) (i := i) ρ P σ H env h s re _ (PostS.bind p fun a h1 ρ1 P1 H1 v t1 s1 w1 p1 =>
    show (fun (v : V) (H1 : Hp) => t σ H1 fun y H2 => r v y H2 fun z H3 => D.nx (σ.set i (some z)) H3) v H1 from
    ha ρ1 P1 σ H1 env h1 s1 (re.step t1) _ (PostS.bind p1 fun b h2 ρ2 P2 H2 u t2 s2 w2 p2 => hf _ _ _ _ _ _ _ _ s2 (w1.step t2) w2 _ (PostS.bind p2 fun c h3 ρ3 P3 H3 z t3 s3 w3 p3 => PostS.next p3 s3 ((((re.step t1).step t2).step t3).set w3 i))))
  exact q
/-! ### while -/
def mWhile (c : M Bool) (b : MS) : Nat → MS
  | 0 => fun _ _ => .bad
  | n + 1 => fun env h => (c env h).then fun k h1 => if k = true then (match b env h1 with
      | .nx env' h' => mWhile c b n env' h'
      | .ct env' h' => mWhile c b n env' h'
      | .bk env' h' => .nx env' h'
      | r => r) else .nx env h1
theorem ss_while {c : TT} {t : TS} {m : M Bool} {b : MS} (hc : Sd K (RQ Bool) E c m) (hb : SdS K E t b) (n : Nat) : SdS K E (tWhile c t) (mWhile m b n) := fun ρ P σ H env h s re D p => by
  refine ⟨fun n σ H => ∃ ρ P env h, SR K ρ P H h ∧ RE K ρ P env σ ∧ PostS K E ρ P H D (mWhile m b n env h), ⟨n, ρ, P, env, h, s, re, p⟩, ?_⟩
  rintro n σ H ⟨ρ, P, env, h, s, re, p⟩
  cases n with
  | zero => exact p.elim
  | succ n =>
    unfold mWhile at p
    refine hc ρ P σ H env h s re _ (PostS.bind p fun k h1 ρ1 P1 H1 v t1 s1 w1 p1 => ?_)
    cases w1
    cases k with
    | false => exact PostS.next p1 s1 (re.step t1)
    | true =>
      refine ⟨fun σ' H' => ∃ ρ P env h, SR K ρ P H' h ∧ RE K ρ P env σ' ∧ PostS K E ρ P H' D (mWhile m b n env h), fun σ' H' q => ⟨n, Nat.lt_succ_self n, q⟩, ?_⟩
      refine hb _ _ _ _ _ _ s1 (re.step t1) _ ?_
      have p1 : PostS K E ρ1 P1 H1 D (match b env h1 with
        | .nx env' h' => mWhile m b n env' h'
        | .ct env' h' => mWhile m b n env' h'
        | .bk env' h' => .nx env' h'
        | r => r) := p1
      cases q : b env h1 with
      | nx env' h' => rw [q] at p1; exact fun ρ' P' H' σ' t s' r' => ⟨ρ', P', env', h', s', r', PostS.mono p1 t⟩
      | ct env' h' => rw [q] at p1; exact fun ρ' P' H' σ' t s' r' => ⟨ρ', P', env', h', s', r', PostS.mono p1 t⟩
      | bk env' h' => rw [q] at p1; exact p1
      | rt d h' => rw [q] at p1; exact p1
      | exc x fs h => rw [q] at p1; exact p1
      | bad => rw [q] at p1; exact p1
/-! ### for -/
/-- what is walked: items that stand still, or the list at a number as it stands at each turn -/
inductive AI where
  | items (ds : List D)
  | at_ (n : Nat)
/-- an iterable's reading: at an AI the iterator goes so -/
def ItOk (K : PySem.W.Frag) (ρ : Ro) (P H : Hp) : AI → It → Prop
  | .items ds, J => ∀ ρ' P' H', (∀ n a, ρ n = some a → ρ' n = some a) → (∀ a o, P a = some o → P' a = some o) → Frz H H' → ∀ h', SR K ρ' P' H' h' → ∀ i, (∀ d, ds[i]? = some d → J.go i H' ∧ ∀ x H2, J.yld i H' x H2 → ∃ P2, Step ρ' P' H' ρ' P2 H2 ∧ SR K ρ' P2 H2 h' ∧ Rep K ρ' P2 d x) ∧ (ds[i]? = none → J.stop i H')
  | .at_ n, J => ∃ a, ρ n = some a ∧ J = Itl K a
abbrev MI := En → AH → R AI
def SdI (K : PySem.W.Frag) (E : XK) (w : TI) (m : MI) : Prop := ∀ ρ P σ H env h, SR K ρ P H h → RE K ρ P env σ → ∀ Q : It → Hp → Prop,
  (match m env h with
  | .ok a h' => ∀ ρ' P' H' J, Step ρ P H ρ' P' H' → SR K ρ' P' H' h' → ItOk K ρ' P' H' a J → Q J H'
  | .exc x fs h' => ∀ ρ' P' H' dd, Step ρ P H ρ' P' H' → SR K ρ' P' H' h' → RX K ρ' P' fs dd → E (.ref (He.ga K x)) dd H'
  | .bad => False) → w σ H Q
def forItems (g : MG) (b : MS) : List D → MS
  | [] => fun env h => .nx env h
  | d :: ds => fun env h => (g d env h).then fun env1 h1 => match b env1 h1 with
      | .nx env' h' => forItems g b ds env' h'
      | .ct env' h' => forItems g b ds env' h'
      | .bk env' h' => .nx env' h'
      | r => r
def forAt (g : MG) (b : MS) (n : Nat) : Nat → Nat → MS
  | 0, _ => fun _ _ => .bad
  | k + 1, i => fun env h => match h[n]? with
      | some (.lst ds) => (match ds[i]? with
        | none => .nx env h
        | some d => (g d env h).then fun env1 h1 => match b env1 h1 with
          | .nx env' h' => forAt g b n k (i + 1) env' h'
          | .ct env' h' => forAt g b n k (i + 1) env' h'
          | .bk env' h' => .nx env' h'
          | r => r)
      | _ => .bad
def mFor (w : MI) (g : MG) (b : MS) : MS := fun env h => (w env h).then fun a h1 => match a with
  | .items ds => forItems g b ds env h1
  | .at_ n => forAt g b n 1000000 0 env h1
theorem ss_for {w : TI} {g : TG} {t : TS} {m : MI} {mg : MG} {b : MS} (hw : SdI K E w m) (hg : SdG K E g mg) (hb : SdS K E t b) : SdS K E (tFor w g t) (mFor m mg b) := fun ρ P σ H env h s re D p => by
  refine hw ρ P σ H env h s re _ ?_
  have p : PostS K E ρ P H D ((m env h).then fun a h1 => match a with
    | .items ds => forItems mg b ds env h1
    | .at_ n => forAt mg b n 1000000 0 env h1) := p
  cases q : m env h with
  | bad => rw [q] at p; exact p
  | exc x fs h => rw [q] at p; exact p
  | ok a h1 =>
    rw [q] at p
    refine fun ρ0 P0 H0 J t0 s0 j0 => ?_
    have p := PostS.mono p t0
    have re := re.step t0
    cases a with
    | items ds =>
      refine ⟨fun i m σ H => m = ds.length - i ∧ i ≤ ds.length ∧ ∃ ρ P env h, Step ρ0 P0 H0 ρ P H ∧ SR K ρ P H h ∧ RE K ρ P env σ ∧ PostS K E ρ P H D (forItems mg b (ds.drop i) env h), ⟨ds.length, rfl, Nat.zero_le _, ρ0, P0, env, h1, Step.refl .., s0, re, p⟩, ?_⟩
      rintro i m σ H ⟨rfl, hi, ρ, P, env, h, t, s, re, p⟩
      have jj := j0 ρ P H t.mono t.pure (t.frz s0) h s i
      by_cases hlt : i < ds.length
      · have e : ds.drop i = ds[i] :: ds.drop (i + 1) := by rw [List.drop_eq_getElem_cons hlt]
        rw [e] at p
        obtain ⟨go, yl⟩ := jj.1 ds[i] (List.getElem?_eq_getElem hlt)
        refine .inr ⟨go, fun σ' H' => ∃ ρ P env h, Step ρ0 P0 H0 ρ P H' ∧ SR K ρ P H' h ∧ RE K ρ P env σ' ∧ PostS K E ρ P H' D (forItems mg b (ds.drop (i + 1)) env h), fun σ' H' z => ⟨ds.length - (i + 1), by omega, rfl, hlt, z⟩, fun x H' y => ?_⟩
        obtain ⟨P2, tx, sx, rx⟩ := yl x H' y
        have p : PostS K E ρ P H D ((mg ds[i] env h).then fun env1 h1 => match b env1 h1 with
          | .nx env' h' => forItems mg b (ds.drop (i + 1)) env' h'
          | .ct env' h' => forItems mg b (ds.drop (i + 1)) env' h'
          | .bk env' h' => .nx env' h'
          | r => r) := p
        have p := PostS.mono p tx
        refine hg ρ P2 σ H' env h _ _ sx (re.step tx) rx _ (PostS.bind p fun env1 h1 ρ1 P1 H1 σ1 t1 s1 r1 p1 => hb _ _ _ _ _ _ s1 r1 _ ?_)
        cases q : b env1 h1 with
        | nx env' h' => simp only [q] at p1; exact fun ρ' P' H' σ' t2 s' r' => ⟨ρ', P', env', h', ((t.trans tx).trans t1).trans t2, s', r', PostS.mono p1 t2⟩
        | ct env' h' => simp only [q] at p1; exact fun ρ' P' H' σ' t2 s' r' => ⟨ρ', P', env', h', ((t.trans tx).trans t1).trans t2, s', r', PostS.mono p1 t2⟩
        | bk env' h' => simp only [q] at p1; exact p1
        | rt d h' => simp only [q] at p1; exact p1
        | exc x fs h => simp only [q] at p1; exact p1
        | bad => simp only [q] at p1; exact p1
      · have e : i = ds.length := by omega
        subst e
        rw [List.drop_length] at p
        exact .inl ⟨jj.2 (by simp), PostS.next p s re⟩
    | at_ n =>
      obtain ⟨a, ea, rfl⟩ := j0
      refine ⟨fun i m σ H => i + m = 1000000 ∧ ∃ ρ P env h, Step ρ0 P0 H0 ρ P H ∧ SR K ρ P H h ∧ RE K ρ P env σ ∧ PostS K E ρ P H D (forAt mg b n m i env h), ⟨1000000, rfl, ρ0, P0, env, h1, Step.refl .., s0, re, p⟩, ?_⟩
      rintro i m σ H ⟨hm, ρ, P, env, h, t, s, re, p⟩
      cases m with
      | zero => exact p.elim
      | succ m =>
        have en := t.mono n a ea
        obtain ⟨o, eo, r⟩ := s.here en
        cases o with
        | lst ds =>
          obtain ⟨vs, ev, rv⟩ := r
          unfold forAt at p
          simp only [eo] at p
          cases q : ds[i]? with
          | none =>
            rw [q] at p
            refine .inl ⟨⟨vs, .of ev, ?_⟩, PostS.next p s re⟩
            rw [rv.length]
            simpa using q
          | some d =>
            simp only [q] at p
            obtain ⟨v, hv, rd⟩ := rv.get q
            refine .inr ⟨⟨vs, v, .of ev, hv⟩, fun σ' H' => ∃ ρ P env h, Step ρ0 P0 H0 ρ P H' ∧ SR K ρ P H' h ∧ RE K ρ P env σ' ∧ PostS K E ρ P H' D (forAt mg b n m (i + 1) env h), fun σ' H' z => ⟨m, Nat.lt_succ_self m, by omega, z⟩, fun x H' y => ?_⟩
            obtain ⟨rfl, y⟩ := y
            have ex := y vs (.of ev)
            rw [hv] at ex
            cases ex
            refine hg ρ P σ H' env h _ _ s re rd _ (PostS.bind p fun env1 h1 ρ1 P1 H1 σ1 t1 s1 r1 p1 => hb _ _ _ _ _ _ s1 r1 _ ?_)
            cases q : b env1 h1 with
            | nx env' h' => simp only [q] at p1; exact fun ρ' P' H' σ' t2 s' r' => ⟨ρ', P', env', h', (t.trans t1).trans t2, s', r', PostS.mono p1 t2⟩
            | ct env' h' => simp only [q] at p1; exact fun ρ' P' H' σ' t2 s' r' => ⟨ρ', P', env', h', (t.trans t1).trans t2, s', r', PostS.mono p1 t2⟩
            | bk env' h' => simp only [q] at p1; exact p1
            | rt d h' => simp only [q] at p1; exact p1
            | exc x fs h => simp only [q] at p1; exact p1
            | bad => simp only [q] at p1; exact p1
        | dct kvs =>
          unfold forAt at p
          simp only [eo] at p
          exact p.elim
        | ins c fs =>
          unfold forAt at p
          simp only [eo] at p
          exact p.elim
        | ndt kvs =>
          unfold forAt at p
          simp only [eo] at p
          exact p.elim
end
end Ab

namespace Ab
open PySem PySem.Spec L2
section
variable {K : PySem.W.Frag} {E : XK} {ρ ρ' ρ1 : Ro} {P H P' H' P1 H1 : Hp}
/-! ### what is walked -/
def iSeq (K : PySem.W.Frag) (t : TE) : TI := fun σ H W => t σ H fun x H1 => (∃ a, x = .ref a ∧ (((∃ xs, SqL K H1 a xs) ∧ W (Itl K a) H1) ∨ ((∃ xs, SqT K H1 a xs) ∧ W (Itt K a) H1))) ∨ ∃ z, x = .str z ∧ W (Its z) H1
/-- the signs of a text -/
def signsD (z : Str) : List D := z.cps.toList.map fun c => D.str ⟨#[c]⟩
def miSeq (m : M D) : MI := fun env h => (m env h).bind fun d h1 => match d with
  | .str z => .ok (.items (signsD z)) h1
  | .lst ds => .ok (.items ds) h1
  | .scr ds => .ok (.items ds) h1
  | .tup ds => .ok (.items ds) h1
  | .loc n => (match h1[n]? with
    | some (.lst _) => .ok (.at_ n) h1
    | _ => .bad)
  | _ => .bad
theorem itOk_L {h : AH} {a : Addr} {vs : List V} {ds : List D} (q : SqL K P a vs) (r : RepL K ρ P ds vs) : ItOk K ρ P H (.items ds) (Itl K a) := fun ρ' P' H' tm tp _ h' s i => by
  have q' : SqL K H' a vs := sqL_s s.sub (sqL_sub tp q)
  have r' := r.up tm tp
  refine ⟨fun d e => ?_, fun e => ⟨vs, q', by rw [r'.length]; simpa using e⟩⟩
  obtain ⟨v, ev, rv⟩ := r'.get e
  refine ⟨⟨vs, v, q', ev⟩, fun x H2 y => ?_⟩
  obtain ⟨rfl, y⟩ := y
  have z := y vs q'
  rw [ev] at z
  cases z
  exact ⟨P', Step.refl .., s, rv⟩
theorem itOk_T {h : AH} {a : Addr} {vs : List V} {ds : List D} (q : SqT K P a vs) (r : RepL K ρ P ds vs) : ItOk K ρ P H (.items ds) (Itt K a) := fun ρ' P' H' tm tp _ h' s i => by
  have q' : SqT K H' a vs := sqT_s s.sub (sqT_sub tp q)
  have r' := r.up tm tp
  refine ⟨fun d e => ?_, fun e => ⟨vs, q', by rw [r'.length]; simpa using e⟩⟩
  obtain ⟨v, ev, rv⟩ := r'.get e
  refine ⟨⟨vs, v, q', ev⟩, fun x H2 y => ?_⟩
  obtain ⟨rfl, y⟩ := y
  have z := y vs q'
  rw [ev] at z
  cases z
  exact ⟨P', Step.refl .., s, rv⟩
theorem Post.bindI {α β : Type} {L : Rl α β} {r : R α} {k : α → AH → R AI} {Q : It → Hp → Prop}
    (p : match r.bind k with
      | .ok a h' => ∀ ρ' P' H' J, Step ρ P H ρ' P' H' → SR K ρ' P' H' h' → ItOk K ρ' P' H' a J → Q J H'
      | .exc x fs h' => ∀ ρ' P' H' dd, Step ρ P H ρ' P' H' → SR K ρ' P' H' h' → RX K ρ' P' fs dd → E (.ref (He.ga K x)) dd H'
      | .bad => False) {Q' : β → Hp → Prop}
    (h : ∀ a h' ρ' P' H' v, Step ρ P H ρ' P' H' → SR K ρ' P' H' h' → L ρ' P' a v → (match k a h' with
      | .ok a h2 => ∀ ρ2 P2 H2 J, Step ρ' P' H' ρ2 P2 H2 → SR K ρ2 P2 H2 h2 → ItOk K ρ2 P2 H2 a J → Q J H2
      | .exc x fs h2 => ∀ ρ2 P2 H2 dd, Step ρ' P' H' ρ2 P2 H2 → SR K ρ2 P2 H2 h2 → RX K ρ2 P2 fs dd → E (.ref (He.ga K x)) dd H2
      | .bad => False) → Q' v H') : Post K L E ρ P H Q' r := by
  cases r with
  | ok a h' =>
    intro ρ' P' H' v t q1 q2
    refine h a h' ρ' P' H' v t q1 q2 ?_
    have p : match k a h' with
      | .ok a h' => ∀ ρ' P' H' J, Step ρ P H ρ' P' H' → SR K ρ' P' H' h' → ItOk K ρ' P' H' a J → Q J H'
      | .exc x fs h' => ∀ ρ' P' H' dd, Step ρ P H ρ' P' H' → SR K ρ' P' H' h' → RX K ρ' P' fs dd → E (.ref (He.ga K x)) dd H'
      | .bad => False := p
    cases e : k a h' with
    | ok b h2 => simp only [e] at p; exact fun ρ2 P2 H2 J u => p ρ2 P2 H2 J (t.trans u)
    | exc x fs h2 => simp only [e] at p; exact fun ρ2 P2 H2 dd u => p ρ2 P2 H2 dd (t.trans u)
    | bad => simp only [e] at p
  | exc x fs h => exact p
  | bad => exact p
theorem itOk_S {z : Str} : ItOk K ρ P H (.items (signsD z)) (Its z) := fun ρ' P' H' tm tp _ h' s i => by
  unfold signsD
  refine ⟨fun d e => ?_, fun e => ?_⟩
  · rw [List.getElem?_map] at e
    cases q : z.cps.toList[i]? with
    | none => rw [q] at e; cases e
    | some c =>
      rw [q] at e
      cases e
      have qa : z.cps[i]? = some c := by rw [← Array.getElem?_toList]; exact q
      refine ⟨(Array.getElem?_eq_some_iff.mp qa).1, fun x H2 y => ?_⟩
      obtain ⟨rfl, c', ec, rfl⟩ := y
      rw [qa] at ec
      cases ec
      exact ⟨P', Step.refl .., s, .str _⟩
  · show z.cps.size ≤ i
    rw [List.getElem?_eq_none_iff, List.length_map, Array.length_toList] at e
    exact e
theorem itOk_R {lo : Int} {n : Nat} : ItOk K ρ P H (.items ((List.range n).map fun i => D.int (lo + (i : Nat)))) (Itr lo n) := fun ρ' P' H' tm tp _ h' s i => by
  refine ⟨fun d e => ?_, fun e => (show n ≤ i by simpa using e)⟩
  rw [List.getElem?_map] at e
  cases q : (List.range n)[i]? with
  | none => rw [q] at e; cases e
  | some j =>
    rw [q] at e
    obtain ⟨hl, ej⟩ := List.getElem?_eq_some_iff.mp q
    simp at ej hl
    subst ej
    cases e
    refine ⟨hl, fun x H2 y => ?_⟩
    obtain ⟨rfl, rfl⟩ := y
    exact ⟨P', Step.refl .., s, .int _⟩
/-- within the word of a range -/
def InW (i : Int) : Prop := -(2 ^ 62) ≤ i ∧ i < 2 ^ 62
@[irreducible] instance insInW (i : Int) : Decidable (InW i) := inferInstanceAs (Decidable (_ ∧ _))
def rngD (lo hi : Int) : List D := (List.range (hi - lo).toNat).map fun i => D.int (lo + (i : Nat))
def miRng (m : M (List D)) : MI := fun env h => (m env h).bind fun ds h1 => match ds with
  | [.int j] => if InW j then .ok (.items (rngD 0 j)) h1 else .bad
  | [.int i, .int j] => if InW i ∧ InW j then .ok (.items (rngD i j)) h1 else .bad
  | _ => .bad
theorem si_rng1 {t : TA} {m : M (List D)} (ha : Sd K (RVs K) E t m) : SdI K E (iRng1 t) (fun env h => (m env h).bind fun ds h1 => match ds with
    | [.int j] => if InW j then .ok (.items (rngD 0 j)) h1 else .bad
    | _ => .bad) := fun ρ P σ H env h s re Q p =>
  ha ρ P σ H env h s re _ (Post.bindI p fun a h1 ρ1 P1 H1 v t1 s1 w1 p1 => by
    cases w1 with
    | nil => exact p1.elim
    | cons a b =>
      cases a with
      | int j =>
        cases b with
        | nil =>
          dsimp only at p1
          by_cases hb : InW j
          · rw [if_pos hb] at p1
            refine ⟨j, rfl, hb.1, hb.2, p1 ρ1 P1 H1 _ (Step.refl ..) s1 ?_⟩
            have e : (j - 0).toNat = j.toNat := by omega
            show ItOk K ρ1 P1 H1 (.items ((List.range (j - 0).toNat).map fun i => D.int (0 + (i : Nat)))) _
            rw [e]
            exact itOk_R
          · rw [if_neg hb] at p1; exact p1.elim
        | cons c d => exact p1.elim
      | _ => exact p1.elim)
theorem si_rng2 {t : TA} {m : M (List D)} (ha : Sd K (RVs K) E t m) : SdI K E (iRng2 t) (fun env h => (m env h).bind fun ds h1 => match ds with
    | [.int i, .int j] => if InW i ∧ InW j then .ok (.items (rngD i j)) h1 else .bad
    | _ => .bad) := fun ρ P σ H env h s re Q p =>
  ha ρ P σ H env h s re _ (Post.bindI p fun a h1 ρ1 P1 H1 v t1 s1 w1 p1 => by
    cases w1 with
    | nil => exact p1.elim
    | cons a b =>
      cases a with
      | int i =>
        cases b with
        | nil => exact p1.elim
        | cons c d =>
          cases c with
          | int j =>
            cases d with
            | nil =>
              dsimp only at p1
              by_cases hb : InW i ∧ InW j
              · rw [if_pos hb] at p1
                exact ⟨i, j, rfl, ⟨hb.1.1, hb.1.2, hb.2.1, hb.2.2⟩, p1 ρ1 P1 H1 _ (Step.refl ..) s1 itOk_R⟩
              · rw [if_neg hb] at p1; exact p1.elim
            | cons e f => exact p1.elim
          | _ => exact p1.elim
      | _ => exact p1.elim)
/-! ### comprehensions -/
def wipeE (env : En) : List Nat → En
  | [] => env
  | v :: vs => (wipeE env vs).set v none
theorem RE.wipe {env : En} {σ : L2.St} (r : RE K ρ P env σ) : ∀ vs : List Nat, RE K ρ P (wipeE env vs) (wipe σ vs)
  | [] => r
  | v :: vs => by
    obtain ⟨hl, hr⟩ := RE.wipe r vs
    refine ⟨by show ((wipeE env vs).set v none).length = ((L2.wipe σ vs).set v none).length; simp [hl], fun i d e => ?_⟩
    have e : ((wipeE env vs).set v none)[i]? = some (some d) := e
    show ∃ u, ((L2.wipe σ vs).set v none)[i]? = some (some u) ∧ _
    by_cases z : v = i
    · subst z
      by_cases hv : v < (wipeE env vs).length
      · rw [List.getElem?_set_self hv] at e; cases e
      · rw [List.getElem?_eq_none (by simpa using hv)] at e; cases e
    · rw [List.getElem?_set_ne z] at e ⊢
      exact hr i d e
theorem wipe_set {σ : L2.St} {i : Nat} {o : Option V} : ∀ {vs : List Nat}, i ∈ vs → wipe (σ.set i o) vs = wipe σ vs
  | [], h => by cases h
  | v :: vs, h => by
    show (wipe (σ.set i o) vs).set v none = (wipe σ vs).set v none
    by_cases hi : i ∈ vs
    · rw [wipe_set hi]
    · have e : i = v := (List.mem_cons.mp h).resolve_right hi
      subst e
      have aux : ∀ ws : List Nat, i ∉ ws → wipe (σ.set i o) ws = (wipe σ ws).set i o := by
        intro ws
        induction ws with
        | nil => intro _; rfl
        | cons w ws ih =>
          intro hw
          show (wipe (σ.set i o) ws).set w none = ((wipe σ ws).set w none).set i o
          rw [ih (fun z => hw (List.mem_cons_of_mem _ z)), List.set_comm _ _ (fun z : i = w => hw (by rw [z]; exact List.mem_cons_self))]
      rw [aux vs hi, List.set_set]
theorem wipe_wipe {σ : L2.St} : ∀ {vs ws : List Nat}, (∀ i ∈ ws, i ∈ vs) → wipe (wipe σ ws) vs = wipe σ vs
  | vs, [], _ => rfl
  | vs, w :: ws, h => by
    show wipe ((wipe σ ws).set w none) vs = _
    rw [wipe_set (h w List.mem_cons_self), wipe_wipe fun i hi => h i (List.mem_cons_of_mem _ hi)]
/-- a target that stores at these places alone -/
def GW (vs : List Nat) (g : TG) : Prop := ∀ v σ H Q, g v σ H Q → g v σ H fun σ' H' => wipe σ' vs = wipe σ vs ∧ Q σ' H'
def GWs (vs : List Nat) (g : TGs) : Prop := ∀ v σ H Q, g v σ H Q → g v σ H fun σ' H' => wipe σ' vs = wipe σ vs ∧ Q σ' H'
theorem gw_name {vs : List Nat} {i : Nat} (h : i ∈ vs) : GW vs (gName i) := fun v σ H Q q => ⟨wipe_set h, q⟩
theorem gw_nil {vs : List Nat} : GWs vs gNil := fun v σ H Q q => ⟨q.1, rfl, q.2⟩
theorem gw_cons {vs : List Nat} {g : TG} {gs : TGs} (a : GW vs g) (b : GWs vs gs) (ma : ∀ v σ H (Q Q' : L2.St → Hp → Prop), (∀ σ H, Q σ H → Q' σ H) → g v σ H Q → g v σ H Q') (mb : ∀ v σ H (Q Q' : L2.St → Hp → Prop), (∀ σ H, Q σ H → Q' σ H) → gs v σ H Q → gs v σ H Q') : GWs vs (gCons g gs) := fun v σ H Q q => by
  obtain ⟨x, r, e, q⟩ := q
  refine ⟨x, r, e, ma _ _ _ _ _ (fun σ1 H1 z => ?_) (a _ _ _ _ q)⟩
  exact mb _ _ _ _ _ (fun σ2 H2 y => ⟨y.1.trans z.1, y.2⟩) (b _ _ _ _ z.2)
theorem gm_name {i : Nat} : ∀ v σ H (Q Q' : L2.St → Hp → Prop), (∀ σ H, Q σ H → Q' σ H) → gName i v σ H Q → gName i v σ H Q' := fun v σ H Q Q' h q => h _ _ q
theorem gm_nil : ∀ v σ H (Q Q' : L2.St → Hp → Prop), (∀ σ H, Q σ H → Q' σ H) → gNil v σ H Q → gNil v σ H Q' := fun v σ H Q Q' h q => ⟨q.1, h _ _ q.2⟩
theorem gm_cons {g : TG} {gs : TGs} (ma : ∀ v σ H (Q Q' : L2.St → Hp → Prop), (∀ σ H, Q σ H → Q' σ H) → g v σ H Q → g v σ H Q') (mb : ∀ v σ H (Q Q' : L2.St → Hp → Prop), (∀ σ H, Q σ H → Q' σ H) → gs v σ H Q → gs v σ H Q') :
    ∀ v σ H (Q Q' : L2.St → Hp → Prop), (∀ σ H, Q σ H → Q' σ H) → gCons g gs v σ H Q → gCons g gs v σ H Q' := fun v σ H Q Q' h q => by
  obtain ⟨x, r, e, q⟩ := q
  exact ⟨x, r, e, ma _ _ _ _ _ (fun σ1 H1 z => mb _ _ _ _ _ h z) q⟩
def lcItems (g : MG) (c : M Bool) (e : M D) (env : En) : List D → AH → R (List D)
  | [], h => .ok [] h
  | d :: ds, h => (g d env h).bind fun env1 h1 => (c env1 h1).bind fun b h2 => if b = true then (e env1 h2).bind fun y h3 => (lcItems g c e env ds h3).bind fun r h4 => .ok (y :: r) h4 else lcItems g c e env ds h2
def lcAt (g : MG) (c : M Bool) (e : M D) (env : En) (n : Nat) : Nat → Nat → AH → R (List D)
  | 0, _ => fun _ => .bad
  | k + 1, i => fun h => match h[n]? with
    | some (.lst ds) => (match ds[i]? with
      | none => .ok [] h
      | some d => if i < sizeLine then (g d env h).bind fun env1 h1 => (c env1 h1).bind fun b h2 => if b = true then (e env1 h2).bind fun y h3 => (lcAt g c e env n k (i + 1) h3).bind fun r h4 => .ok (y :: r) h4 else lcAt g c e env n k (i + 1) h2 else .bad)
    | _ => .bad
def mLc (w : MI) (g : MG) (c : M Bool) (e : M D) (vs : List Nat) : M (List D) := fun env h => (w env h).bind fun a h1 => match a with
  | .items ds => if ds.length ≤ sizeLine then lcItems g c e (wipeE env vs) ds h1 else .bad
  | .at_ n => lcAt g c e (wipeE env vs) n 1000000 0 h1
theorem Step.loose {ρ0 : Ro} {P0 H0 : Hp} (t : Step ρ0 P0 H0 ρ P H) {p : Addr} {o : HO} (h0 : H0 p = none) : Step ρ0 P0 H0 ρ P (upd H p o) := by
  refine ⟨t.mono, t.pure, t.newr, t.newp, fun a u e hn w => ?_, fun a e => ?_⟩
  · rw [upd_ne (ne_of_none e h0)]; exact t.keep a u e hn w
  · by_cases z : a = p
    · rw [z, upd_same]; simp
    · rw [upd_ne z]; exact t.there a e
theorem PostF.bindA {α β : Type} {L : Rl α β} {Q : VK} {r : R α} {k : α → AH → R (List D)} {ρ0 : Ro} {P0 H0 : Hp}
    (p : PostF K E ρ0 P0 H0 Q (r.bind k)) (t0 : Step ρ0 P0 H0 ρ P H) {Q' : β → Hp → Prop} (h : ∀ a h' ρ' P' H' v, Step ρ P H ρ' P' H' → SR K ρ' P' H' h' → L ρ' P' a v → PostF K E ρ0 P0 H0 Q (k a h') → Q' v H') : Post K L E ρ P H Q' r := by
  cases r with
  | ok a h' => exact fun ρ' P' H' v t q1 q2 => h a h' ρ' P' H' v t q1 q2 p
  | exc x fs h => exact fun ρ' P' H' dd t q1 q2 => p ρ' P' H' dd (t0.trans t) q1 q2
  | bad => exact p
/-- the new list within a comprehension -/
structure LcS (K : PySem.W.Frag) (ρ0 : Ro) (P0 H0 : Hp) (D0 : Addr) (ρ : Ro) (P H : Hp) (h : AH) (acc : List D) : Prop where
  t : Step ρ0 P0 H0 ρ P H
  s : SR K ρ P H h
  np : P D0 = none
  nr : NoR ρ D0
  at_ : ∃ vs, H D0 = some (.lst vs) ∧ RepL K ρ P acc vs
theorem LcS.step {ρ0 : Ro} {P0 H0 : Hp} {D0 : Addr} {h h' : AH} {acc : List D} (x : LcS K ρ0 P0 H0 D0 ρ P H h acc) (t : Step ρ P H ρ' P' H') (s : SR K ρ' P' H' h') : LcS K ρ0 P0 H0 D0 ρ' P' H' h' acc := by
  obtain ⟨vs, e, r⟩ := x.at_
  have ne : H D0 ≠ none := by rw [e]; simp
  exact ⟨x.t.trans t, s, t.noP x.np (.inr ⟨_, e, rfl⟩), t.noR ne x.nr, vs, t.keep _ _ e x.nr (.inr rfl), r.step t⟩
theorem LcS.app {ρ0 : Ro} {P0 H0 : Hp} {D0 : Addr} {h : AH} {acc : List D} (x : LcS K ρ0 P0 H0 D0 ρ P H h acc) (h0 : H0 D0 = none) {d : D} {v : V} (w : Rep K ρ P d v) : ∃ vs, H D0 = some (.lst vs) ∧ vs.length = acc.length ∧ LcS K ρ0 P0 H0 D0 ρ P (upd H D0 (.lst (vs ++ [v]))) h (acc ++ [d]) := by
  obtain ⟨vs, e, r⟩ := x.at_
  exact ⟨vs, e, r.length, x.t.loose h0, x.s.loose x.np x.nr, x.np, x.nr, vs ++ [v], upd_same, r.append (.cons w .nil)⟩
theorem LcS.fin {ρ0 : Ro} {P0 H0 : Hp} {D0 : Addr} {h : AH} {acc : List D} {Q : VK} (x : LcS K ρ0 P0 H0 D0 ρ P H h acc) (h0 : H0 D0 = none) (p : PostF K E ρ0 P0 H0 Q (.ok acc h)) : Q (.ref D0) H := by
  obtain ⟨vs, e, r⟩ := x.at_
  exact p ρ P H D0 vs x.t x.s h0 x.np x.nr e r
theorem R.bind_ok {α : Type} (r : R α) : (r.bind fun a h => .ok a h) = r := by cases r <;> rfl
theorem R.bind_bind {α β γ : Type} (r : R α) (f : α → AH → R β) (g : β → AH → R γ) : ((r.bind f).bind g) = r.bind fun a h => (f a h).bind g := by cases r <;> rfl
theorem sf_lc {w : TI} {g : TG} {tt : TT} {te : TE} {vs : List Nat} {mw : MI} {mg : MG} {mc : M Bool} {me : M D} (hw : SdI K E w mw) (hg : SdG K E g mg) (hv : GW vs g) (hc : Sd K (RQ Bool) E tt mc) (he : Sd K (RV K) E te me) :
    SdF K E (tLc w g tt te vs) (mLc mw mg mc me vs) := fun ρ P σ H env h s re Q p => by
  refine hw ρ P σ H env h s re _ ?_
  have p : PostF K E ρ P H Q ((mw env h).bind fun a h1 => match a with
    | .items ds => if ds.length ≤ sizeLine then lcItems mg mc me (wipeE env vs) ds h1 else .bad
    | .at_ n => lcAt mg mc me (wipeE env vs) n 1000000 0 h1) := p
  cases q : mw env h with
  | bad => rw [q] at p; exact p
  | exc x fs h => rw [q] at p; exact p
  | ok a h1 =>
    rw [q] at p
    refine fun ρ0 P0 H0 J t0 s0 j0 D0 hD => ?_
    have p := PostF.mono p t0
    have re := (re.step t0).wipe vs
    obtain ⟨sD, tD⟩ := s0.own hD (.lst [])
    have x0 : LcS K ρ0 P0 H0 D0 ρ0 P0 (upd H0 D0 (.lst [])) h1 [] := ⟨tD, sD, s0.noP hD, s0.noR hD, [], upd_same, .nil⟩
    -- one turn's body
    have turn : ∀ {ρ : Ro} {P H : Hp} {h : AH} {acc : List D} {d : D} {v : V} {rest : AH → R (List D)} {Nx : Hp → Prop}, LcS K ρ0 P0 H0 D0 ρ P H h acc → acc.length < sizeLine → Rep K ρ P d v →
        PostF K E ρ0 P0 H0 Q (((mg d (wipeE env vs) h).bind fun env1 h1 => (mc env1 h1).bind fun b h2 => if b = true then (me env1 h2).bind fun y h3 => (rest h3).bind fun r h4 => .ok (y :: r) h4 else rest h2).bind fun r h => .ok (acc ++ r) h) →
        (∀ ρ' P' H' h' acc', LcS K ρ0 P0 H0 D0 ρ' P' H' h' acc' → acc'.length ≤ acc.length + 1 → PostF K E ρ0 P0 H0 Q ((rest h').bind fun r h => .ok (acc' ++ r) h) → Nx H') →
        g v (wipe σ vs) H fun σ2 H2 => wipe σ2 vs = wipe σ vs ∧ tt σ2 H2 fun b H3 => if b = true then te σ2 H3 fun y H4 => ∃ acc, H4 D0 = some (.lst acc) ∧ acc.length < sizeLine ∧ Nx (upd H4 D0 (.lst (acc ++ [y]))) else Nx H3 := by
      intro ρ P H h acc d v rest Nx x hl rd pp nx
      have re' : RE K ρ P (wipeE env vs) (wipe σ vs) := ⟨re.1, fun i d e => let ⟨v, h1, h2⟩ := re.2 i d e; ⟨v, h1, h2.up x.t.mono x.t.pure⟩⟩
      rw [R.bind_bind] at pp
      have gg := hg ρ P (wipe σ vs) H (wipeE env vs) h d v x.s re' rd (fun σ2 H2 => tt σ2 H2 fun b H3 => if b = true then te σ2 H3 fun y H4 => ∃ acc, H4 D0 = some (.lst acc) ∧ acc.length < sizeLine ∧ Nx (upd H4 D0 (.lst (acc ++ [y]))) else Nx H3)
        (PostF.bindA pp x.t fun env1 h1 ρ1 P1 H1 σ1 t1 s1 r1 p1 => by
          rw [R.bind_bind] at p1
          have x1 := x.step t1 s1
          refine hc ρ1 P1 σ1 H1 env1 h1 s1 r1 _ (PostF.bindA p1 x1.t fun b h2 ρ2 P2 H2 b' t2 s2 eb p2 => ?_)
          cases eb
          have x2 := x1.step t2 s2
          cases b with
          | false =>
            rw [if_neg Bool.false_ne_true] at p2 ⊢
            exact nx ρ2 P2 H2 h2 acc x2 (Nat.le_succ _) p2
          | true =>
            rw [if_pos rfl] at p2 ⊢
            rw [R.bind_bind] at p2
            refine he ρ2 P2 σ1 H2 env1 h2 s2 (r1.step t2) _ (PostF.bindA p2 x2.t fun y h3 ρ3 P3 H3 yv t3 s3 ry p3 => ?_)
            obtain ⟨ws, e1, e2, x3⟩ := (x2.step t3 s3).app hD ry
            refine ⟨ws, e1, by rw [e2]; exact hl, nx _ _ _ _ _ x3 (by simp) ?_⟩
            rw [R.bind_bind] at p3
            have e : (fun (a : List D) (h : AH) => R.bind (R.ok (y :: a) h) fun r h => R.ok (acc ++ r) h) = fun r h => R.ok (acc ++ [y] ++ r) h := by funext a h; show R.ok (acc ++ (y :: a)) h = _; simp
            have p4 : PostF K E ρ0 P0 H0 Q ((rest h3).bind fun (a : List D) (h : AH) => R.bind (R.ok (y :: a) h) fun r h => R.ok (acc ++ r) h) := p3
            rw [e] at p4
            exact p4)
      have g2 := hv _ _ _ _ gg
      rw [wipe_wipe fun i hi => hi] at g2
      exact g2
    cases a with
    | items ds =>
      have p : PostF K E ρ0 P0 H0 Q (if ds.length ≤ sizeLine then lcItems mg mc me (wipeE env vs) ds h1 else .bad) := p
      by_cases hs : ds.length ≤ sizeLine
      · rw [if_pos hs] at p
        refine ⟨fun i m H => m = ds.length - i ∧ i ≤ ds.length ∧ ∃ ρ P h acc, LcS K ρ0 P0 H0 D0 ρ P H h acc ∧ acc.length ≤ i ∧ PostF K E ρ0 P0 H0 Q ((lcItems mg mc me (wipeE env vs) (ds.drop i) h).bind fun r h => .ok (acc ++ r) h), ⟨ds.length, rfl, Nat.zero_le _, ρ0, P0, h1, [], x0, Nat.le_refl _, ?_⟩, ?_⟩
        · have e : (fun (r : List D) (h : AH) => R.ok ([] ++ r) h) = fun r h => R.ok r h := rfl
          rw [e, R.bind_ok]
          exact p
        · rintro i m H ⟨rfl, hi, ρ, P, h, acc, x, ha, p⟩
          have t' : Step ρ0 P0 H0 ρ P H := x.t
          have jj := j0 ρ P H t'.mono t'.pure (t'.frz s0) h x.s i
          by_cases hlt : i < ds.length
          · have e : ds.drop i = ds[i] :: ds.drop (i + 1) := by rw [List.drop_eq_getElem_cons hlt]
            rw [e] at p
            obtain ⟨go, yl⟩ := jj.1 ds[i] (List.getElem?_eq_getElem hlt)
            refine .inr ⟨go, fun H' => ∃ ρ P h acc, LcS K ρ0 P0 H0 D0 ρ P H' h acc ∧ acc.length ≤ i + 1 ∧ PostF K E ρ0 P0 H0 Q ((lcItems mg mc me (wipeE env vs) (ds.drop (i + 1)) h).bind fun r h => .ok (acc ++ r) h), fun H' z => ⟨ds.length - (i + 1), by omega, rfl, hlt, z⟩, fun v H' y => ?_⟩
            obtain ⟨P2, tx, sx, rx⟩ := yl v H' y
            exact turn (rest := lcItems mg mc me (wipeE env vs) (ds.drop (i + 1))) (x.step tx sx) (by omega) rx p fun ρ' P' H' h' acc' x' hl' p' => ⟨ρ', P', h', acc', x', by omega, p'⟩
          · have e : i = ds.length := by omega
            subst e
            rw [List.drop_length] at p
            refine .inl ⟨jj.2 (by simp), x.fin (E := E) hD ?_⟩
            have p : PostF K E ρ0 P0 H0 Q (.ok (acc ++ []) h) := p
            rw [List.append_nil] at p
            exact p
      · rw [if_neg hs] at p; exact p.elim
    | at_ n =>
      obtain ⟨a, ea, rfl⟩ := j0
      have p : PostF K E ρ0 P0 H0 Q (lcAt mg mc me (wipeE env vs) n 1000000 0 h1) := p
      refine ⟨fun i m H => i + m = 1000000 ∧ ∃ ρ P h acc, LcS K ρ0 P0 H0 D0 ρ P H h acc ∧ acc.length ≤ i ∧ PostF K E ρ0 P0 H0 Q ((lcAt mg mc me (wipeE env vs) n m i h).bind fun r h => .ok (acc ++ r) h), ⟨1000000, rfl, ρ0, P0, h1, [], x0, Nat.le_refl _, ?_⟩, ?_⟩
      · have e : (fun (r : List D) (h : AH) => R.ok ([] ++ r) h) = fun r h => R.ok r h := rfl
        rw [e, R.bind_ok]
        exact p
      · rintro i m H ⟨hm, ρ, P, h, acc, x, ha, p⟩
        cases m with
        | zero => exact p.elim
        | succ m =>
          have en := x.t.mono n a ea
          obtain ⟨o, eo, r⟩ := x.s.here en
          cases o with
          | lst ds =>
            obtain ⟨ws, ev, rv⟩ := r
            unfold lcAt at p
            simp only [eo] at p
            cases q : ds[i]? with
            | none =>
              simp only [q] at p
              refine .inl ⟨⟨ws, .of ev, by rw [rv.length]; simpa using q⟩, x.fin (E := E) hD ?_⟩
              have p : PostF K E ρ0 P0 H0 Q (.ok (acc ++ []) h) := p
              rw [List.append_nil] at p
              exact p
            | some d =>
              simp only [q] at p
              obtain ⟨v, hv1, rd⟩ := rv.get q
              by_cases hi : i < sizeLine
              · rw [if_pos hi] at p
                refine .inr ⟨⟨ws, v, .of ev, hv1⟩, fun H' => ∃ ρ P h acc, LcS K ρ0 P0 H0 D0 ρ P H' h acc ∧ acc.length ≤ i + 1 ∧ PostF K E ρ0 P0 H0 Q ((lcAt mg mc me (wipeE env vs) n m (i + 1) h).bind fun r h => .ok (acc ++ r) h), fun H' z => ⟨m, Nat.lt_succ_self m, by omega, z⟩, fun y H' yy => ?_⟩
                obtain ⟨rfl, yy⟩ := yy
                have ex := yy ws (.of ev)
                rw [hv1] at ex
                cases ex
                exact turn (rest := lcAt mg mc me (wipeE env vs) n m (i + 1)) x (by omega) rd p fun ρ' P' H' h' acc' x' hl' p' => ⟨ρ', P', h', acc', x', by omega, p'⟩
              · rw [if_neg hi] at p; exact p.elim
          | dct kvs =>
            unfold lcAt at p
            simp only [eo] at p
            exact p.elim
          | ins c fs =>
            unfold lcAt at p
            simp only [eo] at p
            exact p.elim
          | ndt kvs =>
            unfold lcAt at p
            simp only [eo] at p
            exact p.elim
end
end Ab

namespace Ab
open PySem PySem.Spec L2
/-! ### a def: its frame at the entry, its end; numbers made within are dropped -/
mutual
def below (n : Nat) : D → Bool
  | .tup ds => belowL n ds
  | .lst ds => belowL n ds
  | .scr ds => belowL n ds
  | .obj _ _ ds => belowL n ds
  | .dic _ ds => belowL n ds
  | .nd _ ds => belowL n ds
  | .loc m => decide (m < n)
  | _ => true
def belowL (n : Nat) : List D → Bool
  | [] => true
  | d :: ds => below n d && belowL n ds
end
def AO.below (n : Nat) : AO → Bool
  | .lst ds => belowL n ds
  | .dct kvs => belowL n (kvs.map (·.2))
  | .ins _ fs => belowL n (fs.map (·.2))
  | .ndt kvs => belowL n (kvs.map (·.2))
def initE (N : Nat) (ds : List D) : En := ds.map some ++ List.replicate (N - ds.length) none
def bodyR : SS → R D
  | .nx _ h => .ok .non h
  | .rt d h => .ok d h
  | .exc x fs h => .exc x fs h
  | _ => .bad
def bodyR0 : SS → R D
  | .nx _ h => .ok .non h
  | .rt d h => .ok d h
  | _ => .bad
def exitD (n : Nat) (d : D) (h : AH) : R D :=
  if (h.take n).all (AO.below n) = true then
    (if below n d = true then .ok d (h.take n) else match d with
      | .loc k => (match h[k]? with
        | some (.lst ds) => if belowL n ds = true then .ok (.lst ds) (h.take n) else .ok d h
        | some (.dct kvs) => if belowL n (kvs.map (·.2)) = true then .ok (.dic (kvs.map (·.1)) (kvs.map (·.2))) (h.take n) else .ok d h
        | _ => .ok d h)
      | _ => .ok d h)
  else .ok d h
def exitR (n : Nat) : R D → R D
  | .ok d h => exitD n d h
  | .exc x fs h => if (h.take n).all (AO.below n) = true ∧ belowL n (fs.map (·.2)) = true then .exc x fs (h.take n) else .exc x fs h
  | .bad => .bad
abbrev Fn := List D → AH → R D
/-- a def that lets nothing out; numbers dropped (T), kept (K) -/
def mFnT (N : Nat) (m : MS) : Fn := fun ds h => exitR h.length (bodyR0 (m (initE N ds) h))
def mFnK (N : Nat) (m : MS) : Fn := fun ds h => bodyR0 (m (initE N ds) h)
/-- one that may raise -/
def mFnTX (N : Nat) (m : MS) : Fn := fun ds h => exitR h.length (bodyR (m (initE N ds) h))
section
variable {K : PySem.W.Frag} {E : XK} {ρ ρ' ρ1 : Ro} {P H P' H' P1 H1 : Hp}
/-- numbers from n on forgotten -/
def cutR (n : Nat) (ρ : Ro) : Ro := fun k => if k < n then ρ k else none
mutual
theorem Rep.cut {n : Nat} : ∀ {d : D} {v : V}, Rep K ρ P d v → below n d = true → Rep K (cutR n ρ) P d v
  | _, _, .non, _ => .non
  | _, _, .bl b, _ => .bl b
  | _, _, .int i, _ => .int i
  | _, _, .str x, _ => .str x
  | _, _, .glo x, _ => .glo x
  | _, _, .ty x, _ => .ty x
  | _, _, .tup p r, h => .tup p (RepL.cut r h)
  | _, _, .lst p r, h => .lst p (RepL.cut r h)
  | _, _, .scr p r, h => .scr p (RepL.cut r h)
  | _, _, .loc (n := k) e, h => .loc (by
      have hk : k < n := of_decide_eq_true h
      show (if k < n then ρ k else none) = _
      rw [if_pos hk]; exact e)
  | _, _, .obj p e l r, h => .obj p e l (RepL.cut r h)
  | _, _, .dic p e l r, h => .dic p e l (RepL.cut r h)
  | _, _, .nd p e l k r, h => .nd p e l k (RepL.cut r h)
theorem RepL.cut {n : Nat} : ∀ {ds : List D} {vs : List V}, RepL K ρ P ds vs → belowL n ds = true → RepL K (cutR n ρ) P ds vs
  | _, _, .nil, _ => .nil
  | _, _, .cons a b, h => .cons (Rep.cut a (Bool.and_eq_true_iff.mp h).1) (RepL.cut b (Bool.and_eq_true_iff.mp h).2)
end
theorem SR.cut {h' : AH} {n : Nat} (s : SR K ρ' P' H' h') (hb : (h'.take n).all (AO.below n) = true) : SR K (cutR n ρ') P' H' (h'.take n) := by
  have sub : ∀ {k : Nat} {a : Addr}, cutR n ρ' k = some a → k < n ∧ ρ' k = some a := fun {k a} e => by
    have e : (if k < n then ρ' k else none) = some a := e
    split at e
    · exact ⟨by assumption, e⟩
    · cases e
  refine ⟨s.sub, s.subD, fun k a e => s.apart k a (sub e).2, fun k m a e e' => s.inj k m a (sub e).2 (sub e').2, fun k o e => ?_, fun k hk => ?_⟩
  · have hk : k < n := by
      have := (List.getElem?_eq_some_iff.mp e).1
      simp at this; omega
    have e2 : h'[k]? = some o := by rw [List.getElem?_take_of_lt hk] at e; exact e
    obtain ⟨a, e1, r⟩ := s.obj k o e2
    refine ⟨a, by show (if k < n then ρ' k else none) = _; rw [if_pos hk]; exact e1, ?_⟩
    have ho : o.below n = true := List.all_eq_true.mp hb o (List.mem_of_getElem? e)
    cases o with
    | lst ds =>
      obtain ⟨vs, e3, r3⟩ := r
      exact ⟨vs, e3, r3.cut ho⟩
    | dct kvs =>
      obtain ⟨vs, e3, e4, r3⟩ := r
      exact ⟨vs, e3, e4, r3.cut ho⟩
    | ins c fs =>
      obtain ⟨dx, vs, e3, e4, r3⟩ := r
      exact ⟨dx, vs, e3, e4, r3.cut ho⟩
    | ndt kvs =>
      obtain ⟨xs, e3, e4, w, r3⟩ := r
      exact ⟨xs, e3, e4, w, r3.cut ho⟩
  · show (if k < n then ρ' k else none) = none
    split
    · exact s.dom k (by simp at hk; omega)
    · rfl
theorem Step.cut {h : AH} (s : SR K ρ P H h) (t : Step ρ P H ρ' P' H') : Step ρ P H (cutR h.length ρ') P' H' := by
  refine ⟨fun k a e => ?_, t.pure, fun k a e e' => ?_, t.newp, t.keep, t.there⟩
  · have hk : k < h.length := by
      cases Nat.lt_or_ge k h.length with
      | inl z => exact z
      | inr z => rw [s.dom k z] at e; cases e
    show (if k < h.length then ρ' k else none) = _
    rw [if_pos hk]; exact t.mono k a e
  · have e' : (if k < h.length then ρ' k else none) = some a := e'
    split at e'
    · exact t.newr k a e e'
    · cases e'
/-- a thing made within, that no number keeps: it never changes any more -/
theorem freeze {h h' : AH} {k : Nat} {a : Addr} {u : HO} (s : SR K ρ P H h) (t : Step ρ P H ρ' P' H') (s' : SR K ρ' P' H' h') (hb : (h'.take h.length).all (AO.below h.length) = true) (e : ρ' k = some a) (hk : ¬ k < h.length) (ev : H' a = some u) :
    Step ρ P H (cutR h.length ρ') (upd P' a u) H' ∧ SR K (cutR h.length ρ') (upd P' a u) H' (h'.take h.length) ∧ ∀ b o, P' b = some o → upd P' a u b = some o := by
  have np := s'.apart k a e
  have h0 : H a = none := t.newr k a (s.dom k (Nat.le_of_not_lt hk)) e
  have sc := s'.cut hb
  have tc := t.cut s
  have nr : NoR (cutR h.length ρ') a := fun m em => by
    have em : (if m < h.length then ρ' m else none) = some a := em
    split at em
    · have := s'.inj m k a em e
      omega
    · cases em
  have kp : ∀ b o, P' b = some o → upd P' a u b = some o := upd_keep np
  refine ⟨⟨tc.mono, fun b o eb => kp b o (tc.pure b o eb), tc.newr, fun b eb hb => ?_, tc.keep, tc.there⟩, ⟨fun b o eb nd => ?_, fun b o eb => ?_, fun m b eb => ?_, sc.inj, fun m o eo => ?_, sc.dom⟩, kp⟩
  · have z : b ≠ a := fun z => by
      subst z
      rcases hb with ⟨n, e1⟩ | ⟨u, e1, _⟩
      · exact nr n (tc.mono n b e1)
      · rw [h0] at e1; cases e1
    rw [upd_ne z]; exact tc.newp b eb hb
  · by_cases z : b = a
    · subst z; rw [upd_same] at eb; cases eb; exact ev
    · rw [upd_ne z] at eb; exact sc.sub b o eb nd
  · by_cases z : b = a
    · subst z; rw [upd_same] at eb; cases eb; exact .inl ev
    · rw [upd_ne z] at eb; exact sc.subD b o eb
  · have z : b ≠ a := fun z => nr m (z ▸ eb)
    rw [upd_ne z]; exact sc.apart m b eb
  · obtain ⟨b, e1, r⟩ := sc.obj m o eo
    exact ⟨b, e1, r.up (fun _ _ e => e) kp fun _ e => e⟩
theorem zip_parts {α β : Type} : ∀ {l : List (α × β)}, l = (l.map (·.1)).zip (l.map (·.2))
  | [] => rfl
  | p :: l => by simp only [List.map_cons, List.zip_cons_cons]; rw [← zip_parts (l := l)]
theorem post_exit {h : AH} (s : SR K ρ P H h) {Q : VK} : ∀ {r : R D}, Post K (RV K) E ρ P H Q (exitR h.length r) → Post K (RV K) E ρ P H Q r
  | .bad, p => p
  | .exc x fs h', p => by
    intro ρ' P' H' dd t s' rx
    have p : Post K (RV K) E ρ P H Q (if (h'.take h.length).all (AO.below h.length) = true ∧ belowL h.length (fs.map (·.2)) = true then .exc x fs (h'.take h.length) else .exc x fs h') := p
    split at p
    · rename_i hb
      refine p _ P' H' dd (t.cut s) (s'.cut hb.1) ?_
      rcases rx with z | ⟨da, fvs, e1, e2, e3, r⟩
      · exact .inl z
      · exact .inr ⟨da, fvs, e1, e2, e3, r.cut hb.2⟩
    · exact p ρ' P' H' dd t s' rx
  | .ok d h', p => by
    intro ρ' P' H' v t s' w
    have p : Post K (RV K) E ρ P H Q (exitD h.length d h') := p
    unfold exitD at p
    split at p
    · rename_i hb
      split at p
      · rename_i hd
        exact p _ P' H' v (t.cut s) (s'.cut hb) (w.cut hd)
      · rename_i hd
        split at p
        · rename_i k pold
          split at p
          · rename_i ds ek
            split at p
            · rename_i hds
              cases w with
              | loc e =>
                rename_i a
                obtain ⟨o, eo, r⟩ := s'.here e
                rw [ek] at eo
                cases eo
                obtain ⟨vs, ev, rv⟩ := r
                have hk : ¬ k < h.length := fun z => hd (decide_eq_true z)
                obtain ⟨st, sr, kp⟩ := freeze s t s' hb e hk ev
                exact p _ _ H' _ st sr (.lst upd_same ((rv.cut hds).up (fun _ _ e => e) kp))
            · exact p ρ' P' H' v t s' w
          · rename_i kvs ek
            split at p
            · rename_i hds
              cases w with
              | loc e =>
                rename_i a
                obtain ⟨o, eo, r⟩ := s'.here e
                rw [ek] at eo
                cases eo
                obtain ⟨kws, ev, e4, rv⟩ := r
                have hk : ¬ k < h.length := fun z => hd (decide_eq_true z)
                obtain ⟨st, sr, kp⟩ := freeze s t s' hb e hk ev
                have hl := congrArg List.length e4
                simp only [List.length_map] at hl
                exact p _ _ H' _ st sr (.dic (vs := kws.map (·.2)) upd_same (by rw [← e4]; exact zip_parts) (by simp only [List.length_map]; exact hl.symm) ((rv.cut hds).up (fun _ _ e => e) kp))
            · exact p ρ' P' H' v t s' w
          · exact p ρ' P' H' v t s' w
        · exact p ρ' P' H' v t s' w
    · exact p ρ' P' H' v t s' w
theorem re_start {N : List Str} {ds : List D} {vs : List V} (r : RepL K ρ P ds vs) : RE K ρ P (initE N.length ds) (L2.start N vs) := by
  have hl := r.length
  refine ⟨by unfold initE L2.start; simp [hl], fun i d e => ?_⟩
  unfold initE at e
  by_cases hi : i < ds.length
  · rw [List.getElem?_append_left (by simpa using hi), List.getElem?_map] at e
    cases q : ds[i]? with
    | none => rw [q] at e; cases e
    | some d' =>
      rw [q] at e
      cases e
      obtain ⟨v, ev, rv⟩ := r.get q
      refine ⟨v, ?_, rv⟩
      unfold L2.start
      rw [List.getElem?_append_left (by simp [hl]; exact hi), List.getElem?_map, ev]
      rfl
  · rw [List.getElem?_append_right (by simpa using hi), List.getElem?_replicate] at e
    split at e <;> cases e
/-- the promise of a def that computes F -/
def spD (K : PySem.W.Frag) (n : Nat) (F : Fn) : Sp := fun vs H Q E => vs.length = n ∧ ∃ ρ P h ds, SR K ρ P H h ∧ RepL K ρ P ds vs ∧ Post K (RV K) E ρ P H Q (F ds h)
def mCall (n : Nat) (F : Fn) (m : M (List D)) : M D := fun env h => (m env h).bind fun ds h1 => if ds.length = n then F ds h1 else .bad
/-- keywords: the values put into the parameters' order -/
def mCallK (n : Nat) (F : Fn) (g : List D → List D → List D) (m mk : M (List D)) : M D := fun env h => (m env h).bind fun ds h1 => (mk env h1).bind fun es h2 => if (g ds es).length = n then F (g ds es) h2 else .bad
end
/-! ### a judgement of the text and its computation -/
def JB (X : Cx) (E : XK) (s : List Stmt) (m : MS) : Prop := ∃ t, PSs X s t ∧ SdS X.K E t m
section
variable {P : Program} {w : World} {K : PySem.W.Frag} {mg : Str → Option Value} {base : Heap} {x qual : Str} {params : Arguments} {body : List Stmt} {scope : Scope} {dvs : List V} {kws : List (Str × V)} {f : Addr} {fd : FuncData} {N ps : List Str} {k : Nat} {m : MS}
theorem bodyR0_ok {E' E : XK} {ρ : Ro} {Pp H : Hp} {Q : VK} {r : SS} (p : Post K (RV K) E ρ Pp H Q (bodyR0 r)) : PostS K E' ρ Pp H { nx := fun _ H' => Q .non H', rt := Q } r := by
  cases r with
  | nx env h => exact fun ρ' P' H' σ' t s r => p ρ' P' H' .non t s .non
  | rt d h => exact p
  | bk env h => exact p.elim
  | ct env h => exact p.elim
  | exc x fs h => exact p.elim
  | bad => exact p.elim
end
end Ab

namespace Ab
open PySem PySem.Spec L2
/-! A def's promise where no repr is under way around (guards known): for defs that ask repr of containers. -/
structure FnG (P : Program) (w : World) (K : PySem.W.Frag) (mg : Str → Option Value) (base : Heap) (CX : CXT) (k : Nat) (f : Addr) (fd : FuncData) (ps : List Str) (sp : Sp) : Prop where
  len : ∀ vs H Q E, sp vs H Q E → vs.length = ps.length
  go : ∀ (A : Around) (outer : List PySem.Env) (s : Shared) (H : Hp) (args : Args) (us : List Value) (vs : List V) (Q : VK) (E : XK),
    Room k A ∧ A.guards = some [] → Env0 P w K mg base A outer s H → BindsTo s fd args (ps.zip us) → Vals vs us → sp vs H Q E →
    codeAny (model P w) A (.call (.ref f) args) (CR CX outer P w H s Q E) s
theorem FnG.of {P : Program} {w : World} {K : PySem.W.Frag} {mg : Str → Option Value} {base : Heap} {CX : CXT} {k : Nat} {f : Addr} {fd : FuncData} {ps : List Str} {sp : Sp} (F : FnOk P w K mg base CX k f fd ps sp) : FnG P w K mg base CX k f fd ps sp :=
  ⟨F.len, fun A o s H a us vs Q E hr e0 hb r h => F.run A o s H a us vs Q E hr.1 e0 hb r h⟩
theorem FnG.mono {P : Program} {w : World} {K : PySem.W.Frag} {mg : Str → Option Value} {base : Heap} {CX : CXT} {j k : Nat} {f : Addr} {fd : FuncData} {ps : List Str} {sp : Sp} (F : FnG P w K mg base CX j f fd ps sp) (h : j ≤ k) : FnG P w K mg base CX k f fd ps sp :=
  ⟨F.len, fun A o s H a us vs Q E hr e0 hb r q => F.go A o s H a us vs Q E ⟨hr.1.mono h, hr.2⟩ e0 hb r q⟩
section
variable {P : Program} {w : World} {K : PySem.W.Frag} {mg : Str → Option Value} {base : Heap} {x qual : Str} {params : Arguments} {body : List Stmt} {scope : Scope} {dvs : List V} {kws : List (Str × V)} {f : Addr} {fd : FuncData} {N ps : List Str} {k : Nat} {m : MS}
/-- a def by its body, the guards known -/
theorem FunD.okG {CX : CXT} {sp : Sp} (F : FunD K x qual params body scope dvs kws f fd) (S : FnScope N ps scope) (len : ∀ vs H Q E, sp vs H Q E → vs.length = ps.length)
    (hbody : ∀ (cdv : Value) (A : Around) (outer : List PySem.Env) (s : Shared) (H : Hp) (vs : List V) (Q : VK) (E : XK), Room k (A.deeper (PyProof.Rows.envOfC qual scope s.heap.objs.size f cdv)) → A.guards = some [] → sp vs H Q E →
      ∃ t, PSs (cxOf CX P w K mg base N qual scope f cdv A outer s H E) body t ∧ t { nx := fun _ H' => Q .non H', rt := Q } (L2.start N vs) H) : FnG P w K mg base CX (k + 1) f fd ps sp := by
  obtain ⟨oc, od, dV, kV, doc, pm, an, cdv, ct, osl, rfl, lk, hcd, _, _⟩ := F.ex
  refine ⟨len, fun A outer s H args us vs Q E hr e0 hb r hsp => ?_⟩
  refine StX.run_bnd lk hcd S hr.1 e0 (G := fun vs' H' => vs' = vs ∧ H' = H) (fun A' Ex Q' h => ?_) fun s2 H2 vs' g hr' => ?_
  · exact hb _ _ _ _ (h s H vs us e0 Un.refl rfl (fun _ _ z => z) r (len _ _ _ _ hsp) ⟨rfl, rfl⟩)
  · obtain ⟨rfl, rfl⟩ := g
    exact hbody cdv A outer s2 _ _ Q E hr' hr.2 hsp
theorem fn_okTG (F : FunD K x qual params body scope dvs kws f fd) (S : FnScope N ps scope)
    (hb : ∀ (cdv : Value) (A : Around) (outer : List PySem.Env) (s : Shared) (H : Hp) (E : XK), Room k (A.deeper (PyProof.Rows.envOfC qual scope s.heap.objs.size f cdv)) → A.guards = some [] → JB (cxOf CX0 P w K mg base N qual scope f cdv A outer s H E).nox E0 body m) :
    FnG P w K mg base CX0 (k + 1) f fd ps (spD K ps.length (mFnT N.length m)) := by
  refine FunD.okG F S (fun vs H Q E h => h.1) fun cdv A outer s H vs Q E hr hg h => ?_
  obtain ⟨t, ht, hs⟩ := hb cdv A outer s H E hr hg
  obtain ⟨_, ρ, Pp, h0, ds, sr, rl, p⟩ := h
  exact ⟨t, ht.nox, hs ρ Pp _ H _ h0 sr (re_start rl) _ (bodyR0_ok (post_exit sr p))⟩
end
/-! ### calls -/
section
variable {X : Cx} {CX : CXT} {k : Nat} {f C : Addr} {fd : FuncData} {ps ks : List Str} {sp : Sp} {E : XK} {x : Str} {p pos : Pos} {e : Expr} {es : List Expr} {t tk : TA} {kws : List Keyword}
theorem cr_ok {pins : List (Addr × Obj)} {σ : L2.St} {H : Hp} {s s' : Shared} {Q : VK} {r : Result} (I : Inv X pins σ H s) (hx : Passes CX X E) (h : CR CX X.stack X.prog X.w H s Q E r s') :
    match (generalizing := true) r with
    | .error e => X.xe e s'
    | .ok (.ret u) => EP X pins σ Q u s'
    | .ok _ => False := by
  cases r with
  | error e => exact hx pins σ H s e s' I h
  | ok fl => cases fl <;> first | exact I.after h | exact h
theorem run_g {pins : List (Addr × Obj)} {σ : L2.St} {H : Hp} {s : Shared} {Q : VK} {us us' : List Value} {vs : List V} {kw : List (Str × Value)} (F : FnG X.prog X.w X.K X.mg X.base CX k f fd ps sp) (hr : Room k X.A) (hg : X.A.guards = some []) (hx : Passes CX X E)
    (I : Inv X pins σ H s) (hb : us'.length = ps.length → BindsTo s fd ⟨us, kw⟩ (ps.zip us')) (r : Vals vs us') (h : sp vs H Q E) : wpAny (model X.prog X.w) X.A (call (.ref f) us kw) (EP X pins σ Q) X.xe s := by
  refine wpAny_call (codeAny_mono (F.go X.A X.stack s H ⟨us, kw⟩ us' vs Q E ⟨hr, hg⟩ I.env0 (hb (by rw [← r.length]; exact F.len _ _ _ _ h)) r h) fun r s' hq => ?_)
  have z := cr_ok I hx hq
  cases r with
  | error e => exact z
  | ok fl => cases fl <;> first | exact z | exact z.elim
theorem pe_callG (F : FnG X.prog X.w X.K X.mg X.base CX k f fd ps sp) (hr : Room k X.A) (hgu : X.A.guards = some []) (hg : Gl X x) (hm : X.mg x = some (.ref f)) (hk : PySem.W.keepIn X.K (.ref f) = true) (hb : Binds X.K fd ps []) (hx : Passes CX X E) (ha : PA X (e :: es) t)
    (hdb : (x == ("__debug__" : Str)) = false := by decide) (he : starEach (e :: es) X.env = (false, eval e X.env) :: starEach es X.env := by rfl) (hpl : (backTo pos (starEach es X.env)).any (·.1) = false := by rfl) : PE X (.Call (.Name x p) (e :: es) [] pos) (tCall sp [] E t) :=
  ⟨fun pins s σ H Q I h => wpAny_Call_Name_kw (ld_glob I hg hm (PySem.W.callWith_K (h₀ := X.base) I.ok.mod.kin hk (thn (ha.run pos pins s σ H _ I h) fun us s1 z => by
    obtain ⟨vs, H1, I1, r, q⟩ := z
    rw [List.append_nil] at q
    refine ⟨I1.kIn, run_g F hr hgu hx I1 (fun hl => ?_) r q⟩
    have hb1 := hb s1 us I1.kIn (by rw [List.append_nil]; exact hl)
    rw [List.append_nil] at hb1
    exact hb1) he hpl) hdb)⟩
end
/-! ### the law's own call -/
section
variable {P : Program} {w : World} {K : PySem.W.Frag} {mg mb : Str → Option Value} {k : Nat} {fa a : Addr} {fd : FuncData} {x : Str} {sp : Sp} {s₁ : Shared} {vs : List Value} {ns : List Int}
/-- the script as the abstract heap has it: a known list, or (where the module's own part holds it) nothing -/
def scriptHp (K : PySem.W.Frag) (a : Addr) (vs : List Value) (ns : List Int) : Hp := fun b =>
  if b = a ∧ K.lookup a = none then some (.frz { cls := .type "list", data := .seq vs.toArray } (.lst (ns.map V.int))) else none
theorem scriptHp_some {b : Addr} {u : HO} (e : scriptHp K a vs ns b = some u) : b = a ∧ K.lookup a = none ∧ u = .frz { cls := .type "list", data := .seq vs.toArray } (.lst (ns.map V.int)) := by
  unfold scriptHp at e
  by_cases z : b = a ∧ K.lookup a = none
  · rw [if_pos z] at e; cases e; exact ⟨z.1, z.2, rfl⟩
  · rw [if_neg z] at e; cases e
theorem law_callG (KX : K.In s₁.heap) (hns : s₁.heap.Ns mainGlobals mg) (hb : s₁.heap.Ns builtinsNs mb) (hbb : ∀ x : Str, x ≠ "__name__" → mb x = bootBuiltins x) (hlim : s₁.heap.NoLimit) (hg : s₁.gens = #[])
    (ha : s₁.heap.get? a = some { cls := .type "list", data := .seq vs.toArray }) (hi : PyProof.Rows.IntsAre vs ns) (hl : ns.length ≤ sizeLine) (hr : Room k callerA)
    (F : ∀ base : Heap, K.In base → base.Ns mainGlobals mg → FnG P w K mg base CX0 k fa fd [x] sp) (hbind : ∀ (s : Shared) (u : Value), BindsTo s fd ⟨[u], []⟩ [(x, u)])
    (hsp : ∀ H : Hp, (∀ b u, H b = some u → ∃ o, u = .frz o (.lst (ns.map V.int))) → SqL K H a (ns.map V.int) → sp [.ref a] H (fun v _ => v = .bl true) fun _ _ _ => False) :
    codeAny (model P w) callerA (.call (.ref fa) ⟨[.ref a], []⟩) (fun r s' => r = .ok (.ret (.bool true)) ∧ OldK s₁.heap s'.heap ∧ s'.os = s₁.os ∧ PyProof.Rows.AllBare s'.gens) s₁ := by
  have rv := vals_ints hi
  have hok : HOk P w (scriptHp K a vs ns) s₁.heap := fun b u e => by
    obtain ⟨rfl, _, rfl⟩ := scriptHp_some e
    exact ⟨ha, by rw [List.length_map]; exact hl, vs, _, rv, ha⟩
  -- a namespace, a written thing is not the script
  have free : ∀ {b : Addr} {o : Obj}, s₁.heap.get? b = some o → (∀ q n, o.data ≠ .seq q n) ∨ K.lookup b = some o → scriptHp K a vs ns b = none := fun {b o} e z => by
    cases q : scriptHp K a vs ns b with
    | none => rfl
    | some u =>
      obtain ⟨rfl, kn, _⟩ := scriptHp_some q
      rcases z with z | z
      · rw [ha] at e; cases e; exact absurd rfl (z _ _)
      · rw [kn] at z; cases z
  have nsK : ∀ {b : Addr} {m : Str → Option Value}, s₁.heap.Ns b m → (hidT s₁.heap (scriptHp K a vs ns)).Ns b m := fun {b m} n => by
    obtain ⟨o, es, ep, e, d, r⟩ := n
    exact ⟨o, es, ep, hidT_get e (free e (.inl fun q n z => by rw [d] at z; cases z)), d, r⟩
  have hKb : K.In (hidT s₁.heap (scriptHp K a vs ns)) := fun b o e => hidT_get (KX b o e) (free (KX b o e) (.inr e))
  have e0 : Env0 P w K mg (hidT s₁.heap (scriptHp K a vs ns)) callerA [] s₁ (scriptHp K a vs ns) := by
    refine ⟨rfl, ⟨hKb, nsK hns, ⟨mb, nsK hb, hbb⟩, ?_⟩, fun b o e => of_hidT e, Nat.le_of_eq (hidT_size _ _), trivial, fun b hb => ?_, hok, .of_eq hg⟩
    · obtain ⟨mc, h1, h2⟩ := hlim
      exact ⟨mc, nsK h1, h2⟩
    · cases (show b ∈ ([] : List Addr) from hb)
  have hS : SqL K (scriptHp K a vs ns) a (ns.map V.int) := by
    cases q : K.lookup a with
    | none => exact .inl (.inr ⟨_, if_pos ⟨rfl, q⟩⟩)
    | some o =>
      have e := KX a o q
      rw [ha] at e
      cases e
      exact .inr ⟨_, vs.toArray, _, q, rfl, rfl, rfl, by rw [List.size_toArray, hi.length]; exact hl, by simpa using rv⟩
  refine codeAny_mono ((F _ hKb (nsK hns)).go callerA [] s₁ (scriptHp K a vs ns) ⟨[.ref a], []⟩ [.ref a] [.ref a] _ _ ⟨hr, rfl⟩ e0 (hbind s₁ (.ref a)) (.cons rfl .nil)
    (hsp _ (fun b u e => ⟨_, (scriptHp_some e).2.2⟩) hS)) fun r s' h => ?_
  have h : CR CX0 [] P w (scriptHp K a vs ns) s₁ (fun v _ => v = .bl true) (fun _ _ _ => False) r s' := h
  cases r with
  | error e => exact h.elim
  | ok fl =>
    cases fl with
    | next => exact h.elim
    | brk => exact h.elim
    | cont => exact h.elim
    | ret u =>
      obtain ⟨v, H', os, bare, un, hok', r', q⟩ := h
      have q : v = .bl true := q
      subst q
      obtain rfl : u = Value.bool true := r'
      refine ⟨rfl, OldK.of_keep fun b o e => ?_, os, bare⟩
      have nb : b ∉ frs ([] : List PySem.Env) := fun z => by cases (show b ∈ ([] : List Addr) from z)
      cases q : scriptHp K a vs ns b with
      | none => exact un.keep b o e q nb (fun z => by cases z)
      | some u =>
        obtain ⟨rfl, _, rfl⟩ := scriptHp_some q
        have e2 := (hok' b _ (un.frzs b _ _ q)).1
        rw [ha] at e
        cases e
        exact e2
theorem walk_G {l : PySem.W.OpenLaw} {n k : Nat} {q : Program} {loose : List Str} {XP : (Str → Option Value) → Heap → Prop} {YP : World → Heap → Prop} {d : DefRec} {x : Str}
    (hn : l.most = some n) (hn2 : n ≤ sizeLine) (hdf : d.params.defaults = []) (hr : Room k callerA)
    (F : ∀ (w : World) (mg : Str → Option Value) (fa : Addr) (h : Heap), YP w h → h.Ns mainGlobals mg → mg d.name = some (.ref fa) →
      ∃ (K : PySem.W.Frag) (fd : FuncData) (sp : Sp), K.In h ∧ (∀ (s : Shared) (u : Value), BindsTo s fd ⟨[u], []⟩ [(x, u)]) ∧
        (∀ (H : Hp) (a : Addr) (ns : List Int), ns.length ≤ n → (∀ b u, H b = some u → ∃ o, u = .frz o (.lst (ns.map V.int))) → SqL K H a (ns.map V.int) → sp [.ref a] H (fun v _ => v = .bl true) fun _ _ _ => False) ∧
        ∀ base : Heap, K.In base → base.Ns mainGlobals mg → FnG l.prog w K mg base CX0 k fa fd [x] sp) :
    PySem.W.WalkO q loose XP YP l.row.toRowW d [] (fun f vs => PySem.call f vs) := by
  refine Att.attach_call hn hdf fun w s₀ s₁ mg mb fa o pm cd doc a vs ns G Y ho hd hcd hmg hobj hints hlen hg => ?_
  obtain ⟨K, fd, sp, KX, hb, hsp, hF⟩ := F w mg fa _ Y G.T.g hmg
  exact law_callG KX G.T.g G.T.b G.T.builtins G.T.nolimit hg hobj hints (Nat.le_trans hlen hn2) hr hF hb fun H hO hS => hsp H a ns hlen hO hS
/-- the law's promise, by what it computes -/
theorem sp_law {F : Fn} (h : ∀ ns : List Int, ns.length ≤ 63 → ∃ h', F [.scr (ns.map D.int)] [] = .ok (.bl true) h') (H : Hp) (a : Addr) (ns : List Int) (hl : ns.length ≤ 63) (hO : ∀ b u, H b = some u → ∃ o, u = .frz o (.lst (ns.map V.int))) (hS : SqL K H a (ns.map V.int)) :
    spD K 1 F [.ref a] H (fun v _ => v = .bl true) fun _ _ _ => False := by
  obtain ⟨h', e⟩ := h ns hl
  refine ⟨rfl, fun _ => none, H, [], [.scr (ns.map D.int)], ⟨fun _ _ e _ => e, fun _ _ e => .inl e, fun n a e => (by cases e), fun n m a e => (by cases e), fun n o e => (by simp at e), fun _ _ => rfl⟩, .cons (.scr hS (RepL.ints ns)) .nil, ?_⟩
  rw [e]
  intro ρ' P' H' v t s w
  cases w
  rfl
end
end Ab

namespace Ab
open PySem PySem.Spec L2
/-! ### plain data -/
mutual
def toPy0 : D → Option PyData
  | .non => some .none
  | .bl b => some (.bool b)
  | .int i => some (.int i)
  | .str x => some (.str x)
  | .tup ds => (toPyL ds).map PyData.tuple
  | .lst ds => (toPyL ds).map PyData.list
  | .scr ds => (toPyL ds).map PyData.list
  | _ => none
def toPyL : List D → Option (List PyData)
  | [] => some []
  | d :: ds => match toPy0 d, toPyL ds with
    | some p, some ps => some (p :: ps)
    | _, _ => none
end
def toPy (h : AH) (d : D) : Option PyData := match d with
  | .loc n => (match h[n]? with
    | some (.lst ds) => (toPyL ds).map PyData.list
    | _ => none)
  | d => toPy0 d
section
variable {K : PySem.W.Frag} {E : XK} {ρ ρ' ρ1 : Ro} {P H P' H' P1 H1 : Hp}
mutual
theorem dp_of0 (sub : Sub P H) : ∀ {d : D} {v : V} {p : PyData}, Rep K ρ P d v → toPy0 d = some p → Dp K H v p
  | _, _, _, .non, e => by cases e; exact .non
  | _, _, _, .bl b, e => by cases e; exact .bl b
  | _, _, _, .int i, e => by cases e; exact .int i
  | _, _, _, .str x, e => by cases e; exact .str x
  | _, _, _, .glo x, e => by cases e
  | _, _, _, .ty x, e => by cases e
  | _, _, _, .loc x, e => by cases e
  | _, _, p, .tup (ds := ds) q r, e => by
    have e : (toPyL ds).map PyData.tuple = some p := e
    cases z : toPyL ds with
    | none => rw [z] at e; cases e
    | some ps => rw [z] at e; cases e; exact .tup (sqT_tk sub q) (dp_ofL sub r z)
  | _, _, p, .lst (ds := ds) q r, e => by
    have e : (toPyL ds).map PyData.list = some p := e
    cases z : toPyL ds with
    | none => rw [z] at e; cases e
    | some ps => rw [z] at e; cases e; exact .lst (.of (sub _ _ q rfl)) (dp_ofL sub r z)
  | _, _, p, .scr (ds := ds) q r, e => by
    have e : (toPyL ds).map PyData.list = some p := e
    cases z : toPyL ds with
    | none => rw [z] at e; cases e
    | some ps => rw [z] at e; cases e; exact .lst (sqL_s sub q) (dp_ofL sub r z)
theorem dp_ofL (sub : Sub P H) : ∀ {ds : List D} {vs : List V} {ps : List PyData}, RepL K ρ P ds vs → toPyL ds = some ps → DpAll K H vs ps
  | _, _, _, .nil, e => by cases e; exact .nil
  | _, _, ps, .cons (d := d) (ds := ds) a b, e => by
    have e : (match toPy0 d, toPyL ds with
      | some p, some ps => some (p :: ps)
      | _, _ => none) = some ps := e
    cases z : toPy0 d with
    | none => rw [z] at e; cases e
    | some p =>
      cases y : toPyL ds with
      | none => rw [z, y] at e; cases e
      | some qs => rw [z, y] at e; cases e; exact .cons (dp_of0 sub a z) (dp_ofL sub b y)
end
theorem dp_of {h : AH} {d : D} {v : V} {p : PyData} (s : SR K ρ P H h) (w : Rep K ρ P d v) (e : toPy h d = some p) : Dp K H v p := by
  cases w with
  | loc e1 =>
    obtain ⟨o, eo, r⟩ := s.here e1
    simp only [toPy, eo] at e
    cases o with
    | lst ds =>
      obtain ⟨vs, ev, rv⟩ := r
      simp only at e
      cases z : toPyL ds with
      | none => rw [z] at e; cases e
      | some ps => rw [z] at e; cases e; exact .lst (.of ev) (dp_ofL s.sub rv z)
    | dct kvs => cases e
    | ins c fs => cases e
    | ndt kvs => cases e
  | non => exact dp_of0 (ρ := ρ) s.sub (.non) e
  | bl b => exact dp_of0 (ρ := ρ) s.sub (.bl b) e
  | int i => exact dp_of0 (ρ := ρ) s.sub (.int i) e
  | str x => exact dp_of0 (ρ := ρ) s.sub (.str x) e
  | glo x => exact dp_of0 (ρ := ρ) s.sub (.glo x) e
  | obj _ _ _ _ => cases e
  | dic _ _ _ _ => cases e
  | nd _ _ _ _ _ => cases e
  | ty x => exact dp_of0 (ρ := ρ) s.sub (.ty x) e
  | tup q r => exact dp_of0 (ρ := ρ) s.sub (.tup q r) e
  | lst q r => exact dp_of0 (ρ := ρ) s.sub (.lst q r) e
  | scr q r => exact dp_of0 (ρ := ρ) s.sub (.scr q r) e
/-! ### operators -/
def lstD (d : D) (h : AH) : Option (List D) := match d with
  | .lst ds => some ds
  | .loc n => match h[n]? with
    | some (.lst ds) => some ds
    | _ => none
  | _ => none
theorem lstD_ok {h : AH} {d : D} {v : V} {ds : List D} (s : SR K ρ P H h) (w : Rep K ρ P d v) (e : lstD d h = some ds) : ∃ a vs, v = .ref a ∧ H a = some (.lst vs) ∧ RepL K ρ P ds vs := by
  cases w with
  | lst p q => cases e; exact ⟨_, _, rfl, s.sub _ _ p rfl, q⟩
  | loc e1 =>
    obtain ⟨o, e2, r⟩ := s.here e1
    simp only [lstD, e2] at e
    cases o with
    | lst es => cases e; obtain ⟨vs, e3, q⟩ := r; exact ⟨_, vs, rfl, e3, q⟩
    | dct kvs => cases e
    | ins c fs => cases e
    | ndt kvs => cases e
  | _ => cases e
def rAddU (K : PySem.W.Frag) : R2 := fun x y H Q => rI0 (fun i j => .int (i + j)) x y H Q ∨ (∃ i j, x = .str i ∧ y = .str j ∧ i.length + j.length ≤ sizeLine ∧ Q (.str (i ++ j)) H) ∨ rCatA K x y H Q
theorem op_addU {X : Cx} : OpR X (binaryOp .Add) (rAddU X.K) := op_add.or (op_add_str.or op_catA)
def addD : D → D → AH → R D
  | .int i, .int j, h => .ok (.int (i + j)) h
  | .str i, .str j, h => if i.length + j.length ≤ sizeLine then .ok (.str (i ++ j)) h else .bad
  | .tup xs, .tup ys, h => if xs.length + ys.length ≤ sizeLine then .ok (.tup (xs ++ ys)) h else .bad
  | _, _, _ => .bad
theorem os_add : OpS K E (rAddU K) addD := fun ρ P H h x y dx dy s wx wy Q p => by
  cases wx with
  | int i =>
    cases wy with
    | int j => exact .inl ⟨i, j, rfl, rfl, Post.here p s (.int _)⟩
    | _ => exact p.elim
  | str i =>
    cases wy with
    | str j =>
      have p : Post K (RV K) E ρ P H Q (if i.length + j.length ≤ sizeLine then .ok (.str (i ++ j)) h else .bad) := p
      split at p
      · rename_i hl; exact .inr (.inl ⟨i, j, rfl, rfl, hl, Post.here p s (.str _)⟩)
      · exact p.elim
    | _ => exact p.elim
  | tup q r =>
    cases wy with
    | tup q' r' =>
      rename_i a xs ds b ys es
      have p : Post K (RV K) E ρ P H Q (if ds.length + es.length ≤ sizeLine then .ok (.tup (ds ++ es)) h else .bad) := p
      split at p
      · rename_i hl
        refine .inr (.inr ⟨a, b, xs, ys, rfl, rfl, sqT_tk s.sub q, sqT_tk s.sub q', by rw [r.length, r'.length]; exact hl, fun e => ?_, fun _ e => ?_, fun _ _ => p.newT s (r.append r')⟩)
        · subst e; cases r; exact Post.here p s (.tup q' r')
        · subst e; cases r'; rw [List.append_nil] at p; exact Post.here p s (.tup q r)
      · exact p.elim
    | _ => exact p.elim
  | _ => exact p.elim
/-- two lists: a new one -/
def catD : D → D → AH → R (List D) := fun a b h => match lstD a h, lstD b h with
  | some xs, some ys => if xs.length + ys.length ≤ sizeLine then .ok (xs ++ ys) h else .bad
  | _, _ => .bad
def mBinF (f : D → D → AH → R (List D)) (ma mb : M D) : M (List D) := fun env h => (ma env h).bind fun a h1 => (mb env h1).bind fun b h2 => f a b h2
/-- list * int -/
def repD : D → D → AH → R (List D) := fun a b h => match lstD a h, b with
  | some xs, .int k => if -(2 ^ 63) ≤ k ∧ k < 2 ^ 63 ∧ xs.length * k.toNat ≤ sizeLine then .ok (List.replicate k.toNat xs).flatten h else .bad
  | _, _ => .bad
theorem RepL.rep {ds : List D} {vs : List V} (r : RepL K ρ P ds vs) : ∀ k : Nat, RepL K ρ P (List.replicate k ds).flatten (List.replicate k vs).flatten
  | 0 => .nil
  | k + 1 => by
    rw [List.replicate_succ, List.replicate_succ, List.flatten_cons, List.flatten_cons]
    exact r.append (RepL.rep r k)
def subD : D → D → AH → R D
  | .int i, .int j, h => .ok (.int (i - j)) h
  | _, _, _ => .bad
theorem os_sub : OpS K E (rI0 fun i j => .int (i - j)) subD := fun ρ P H h x y dx dy s wx wy Q p => by
  cases wx with
  | int i =>
    cases wy with
    | int j => exact ⟨i, j, rfl, rfl, Post.here p s (.int _)⟩
    | _ => exact p.elim
  | _ => exact p.elim
@[irreducible] instance insCMul (i j : Int) : Decidable (CMul i j) := inferInstanceAs (Decidable ((-(2 ^ 64) < i ∧ i < 2 ^ 64) ∨ (-(2 ^ 64) < j ∧ j < 2 ^ 64)))
@[irreducible] instance insCMulW (i j : Int) : Decidable (CMulW i j) := inferInstanceAs (Decidable (_ < _))
def rMulU (K : PySem.W.Frag) : R2 := fun x y H Q => rI CMul (fun i j => .int (i * j)) x y H Q ∨ rI CMulW (fun i j => .int (i * j)) x y H Q ∨ rRepT K x y H Q
theorem op_mulU {X : Cx} : OpR X (binaryOp .Mult) (rMulU X.K) := op_mul.or (op_mulW.or op_repT)
def mulD : D → D → AH → R D
  | .int i, .int j, h => if CMul i j ∨ CMulW i j then .ok (.int (i * j)) h else .bad
  | .tup xs, .int k, h => if xs ≠ [] ∧ 2 ≤ k ∧ k ≤ 1000 ∧ xs.length ≤ 1000 then .ok (.tup (List.replicate k.toNat xs).flatten) h else .bad
  | _, _, _ => .bad
theorem os_mul : OpS K E (rMulU K) mulD := fun ρ P H h x y dx dy s wx wy Q p => by
  cases wx with
  | int i =>
    cases wy with
    | int j =>
      have p : Post K (RV K) E ρ P H Q (if CMul i j ∨ CMulW i j then .ok (.int (i * j)) h else .bad) := p
      split at p
      · rename_i hc
        rcases hc with hc | hc
        · exact .inl ⟨i, j, rfl, rfl, hc, Post.here p s (.int _)⟩
        · exact .inr (.inl ⟨i, j, rfl, rfl, hc, Post.here p s (.int _)⟩)
      · exact p.elim
    | _ => exact p.elim
  | tup q r =>
    rename_i a xs ds
    cases wy with
    | int k =>
      have p : Post K (RV K) E ρ P H Q (if ds ≠ [] ∧ 2 ≤ k ∧ k ≤ 1000 ∧ ds.length ≤ 1000 then .ok (.tup (List.replicate k.toNat ds).flatten) h else .bad) := p
      split at p
      · rename_i hc
        refine .inr (.inr ⟨a, k, xs, rfl, rfl, sqT_tk s.sub q, fun e => ?_, hc.2.1, hc.2.2.1, by rw [r.length]; exact hc.2.2.2, p.newT s (r.rep _)⟩)
        subst e; cases r; exact hc.1 rfl
      · exact p.elim
    | _ => exact p.elim
  | _ => exact p.elim
@[irreducible] instance insCDivW (i j : Int) : Decidable (CDivW i j) := inferInstanceAs (Decidable (_ ∧ _))
@[irreducible] instance insCDiv (i j : Int) : Decidable (CDiv i j) := inferInstanceAs (Decidable (_ ∧ _))
@[irreducible] instance insCPow (i j : Int) : Decidable (CPow i j) := inferInstanceAs (Decidable (_ ∧ _))
def rDivU : R2 := fun x y H Q => rI CDiv (fun i j => .int (i / j)) x y H Q ∨ rI CDivW (fun i j => .int (i / j)) x y H Q
def divD : D → D → AH → R D
  | .int i, .int j, h => if CDiv i j ∨ CDivW i j then .ok (.int (i / j)) h else .bad
  | _, _, _ => .bad
def modD : D → D → AH → R D
  | .int i, .int j, h => if 0 < j then .ok (.int (i % j)) h else .bad
  | _, _, _ => .bad
theorem os_mod : OpS K E (rI (fun _ j => 0 < j) fun i j => .int (i % j)) modD := fun ρ P H h x y dx dy s wx wy Q p => by
  cases wx with
  | int i =>
    cases wy with
    | int j =>
      have p : Post K (RV K) E ρ P H Q (if 0 < j then .ok (.int (i % j)) h else .bad) := p
      split at p
      · rename_i hc; exact ⟨i, j, rfl, rfl, hc, Post.here p s (.int _)⟩
      · exact p.elim
    | _ => exact p.elim
  | _ => exact p.elim
def powD : D → D → AH → R D
  | .int i, .int j, h => if CPow i j then .ok (.int (i ^ j.toNat)) h else .bad
  | _, _, _ => .bad
/-- comparisons of ints -/
def cmpD (f : Int → Int → Bool) : D → D → AH → R D
  | .int i, .int j, h => .ok (.bl (f i j)) h
  | _, _, _ => .bad
theorem os_cmp {f : Int → Int → Bool} : OpS K E (rI0 fun i j => .bl (f i j)) (cmpD f) := fun ρ P H h x y dx dy s wx wy Q p => by
  cases wx with
  | int i =>
    cases wy with
    | int j => exact ⟨i, j, rfl, rfl, Post.here p s (.bl _)⟩
    | _ => exact p.elim
  | _ => exact p.elim
/-- -x -/
def negD : D → AH → R D
  | .int i, h => .ok (.int (-i)) h
  | _, _ => .bad
theorem us_neg : UnS K E (rU fun i => .int (-i)) negD := fun ρ P H h x dx s wx Q p => by
  cases wx with
  | int i => exact ⟨i, rfl, Post.here p s (.int _)⟩
  | _ => exact p.elim
/-! == of data -/
def rEqU (K : PySem.W.Frag) : R2 := fun x y H Q => rEq x y H Q ∨ rEqD K x y H Q
def rNeU (K : PySem.W.Frag) : R2 := fun x y H Q => rNe x y H Q ∨ rNeD K x y H Q
theorem op_eqU {X : Cx} (hu : X.A.units + 64 < cLine) : OpR X (compareOp .Eq) (rEqU X.K) := op_eq.or (op_eqD hu)
theorem op_neU {X : Cx} (hu : X.A.units + 64 < cLine) : OpR X (compareOp .NotEq) (rNeU X.K) := op_ne.or (op_neD hu)
def eqB (a b : D) (h : AH) : Option Bool := match a, b with
  | .int i, .int j => some (decide (i = j))
  | .bl i, .bl j => some (decide (i = j))
  | .str i, .str j => some (decide (i = j))
  | a, b => match toPy h a, toPy h b with
    | some p, some q => if SeqAt.shaped p = true ∧ SeqAt.shaped q = true then some (PyData.eqv p q) else none
    | _, _ => none
theorem eqB_ok {h : AH} {a b : D} {x y : V} {k : Bool} (s : SR K ρ P H h) (wx : Rep K ρ P a x) (wy : Rep K ρ P b y) (e : eqB a b h = some k) :
    (scal x y = true ∧ decide (x = y) = k) ∨ ∃ p q, Dp K H x p ∧ Dp K H y q ∧ SeqAt.shaped p = true ∧ SeqAt.shaped q = true ∧ PyData.eqv p q = k := by
  have gen : (match toPy h a, toPy h b with
    | some p, some q => if SeqAt.shaped p = true ∧ SeqAt.shaped q = true then some (PyData.eqv p q) else none
    | _, _ => none) = some k → ∃ p q, Dp K H x p ∧ Dp K H y q ∧ SeqAt.shaped p = true ∧ SeqAt.shaped q = true ∧ PyData.eqv p q = k := fun e => by
    cases ea : toPy h a with
    | none => rw [ea] at e; cases e
    | some p =>
      cases eb : toPy h b with
      | none => rw [ea, eb] at e; cases e
      | some q =>
        rw [ea, eb] at e
        dsimp only at e
        split at e
        · rename_i hh; cases e; exact ⟨p, q, dp_of s wx ea, dp_of s wy eb, hh.1, hh.2, rfl⟩
        · cases e
  unfold eqB at e
  split at e
  · cases wx; cases wy; cases e; exact .inl ⟨rfl, by rw [dec_int]; rfl⟩
  · cases wx; cases wy; cases e; exact .inl ⟨rfl, by rw [dec_bl]; rename_i i j; cases i <;> cases j <;> rfl⟩
  · cases wx; cases wy; cases e; exact .inl ⟨rfl, by rename_i i j; by_cases z : i = j; · subst z; simp
                                                     · rw [decide_eq_false z, decide_eq_false fun q => z (V.str.inj q)]⟩
  · exact .inr (gen e)
def eqD (a b : D) (h : AH) : R D := match eqB a b h with
  | some k => .ok (.bl k) h
  | none => .bad
def neD (a b : D) (h : AH) : R D := match eqB a b h with
  | some k => .ok (.bl (!k)) h
  | none => .bad
theorem os_eq : OpS K E (rEqU K) eqD := fun ρ P H h x y dx dy s wx wy Q p => by
  unfold eqD at p
  cases e : eqB dx dy h with
  | none => rw [e] at p; exact p.elim
  | some k =>
    rw [e] at p
    have q := Post.here p s (.bl k)
    rcases eqB_ok s wx wy e with ⟨h1, h2⟩ | ⟨a, b, h1, h2, h3, h4, h5⟩
    · exact .inl ⟨h1, by rw [h2]; exact q⟩
    · exact .inr ⟨a, b, h1, h2, h3, h4, by rw [h5]; exact q⟩
theorem os_ne : OpS K E (rNeU K) neD := fun ρ P H h x y dx dy s wx wy Q p => by
  unfold neD at p
  cases e : eqB dx dy h with
  | none => rw [e] at p; exact p.elim
  | some k =>
    rw [e] at p
    have q := Post.here p s (.bl !k)
    rcases eqB_ok s wx wy e with ⟨h1, h2⟩ | ⟨a, b, h1, h2, h3, h4, h5⟩
    · exact .inl ⟨h1, by rw [h2]; exact q⟩
    · exact .inr ⟨a, b, h1, h2, h3, h4, by rw [h5]; exact q⟩
/-! in -/
def rInG (K : PySem.W.Frag) (neg : Bool) : R2 := fun x y H Q => ∃ d ds, Dp K H x d ∧ (Dp K H y (.list ds) ∨ Dp K H y (.tuple ds)) ∧ SeqAt.shaped d = true ∧ PyData.canLayAll0 ds = true ∧ Q (.bl (if neg then !ds.any (fun z => PyData.eqv z d) else ds.any fun z => PyData.eqv z d)) H
theorem room_in {X : Cx} {d : PyData} {ds : List PyData} (sd : SeqAt.shaped d = true) (hu : X.A.units + 65 < cLine) : X.A.units + 1 + min (PyData.depthAll ds) d.depth < cLine := by
  have h1 := SeqAt.depth_of_shaped sd
  have h2 : min (PyData.depthAll ds) d.depth ≤ d.depth := Nat.min_le_right _ _
  omega
theorem op_inG {X : Cx} (hu : X.A.units + 65 < cLine) : OpR X (compareOp .In) (rInG X.K false) := by
  intro pins s σ H x y v u Q I rx ry h
  obtain ⟨d, ds, hd, he, sd, se, q⟩ := h
  obtain ⟨as, r1⟩ := Dp.reads I d x v hd rx
  have hr := room_in (X := X) (ds := ds) sd hu
  rcases he with he | he
  · obtain ⟨bs, r2⟩ := Dp.reads I _ y u he ry
    exact SeqAt.in_list_reads r2 r1 se (SeqAt.canLay_of_shaped sd) hr ⟨.bl _, H, I, rfl, q⟩
  · obtain ⟨bs, r2⟩ := Dp.reads I _ y u he ry
    exact SeqAt.in_tuple_reads r2 r1 se (SeqAt.canLay_of_shaped sd) hr ⟨.bl _, H, I, rfl, q⟩
theorem op_notInG {X : Cx} (hu : X.A.units + 65 < cLine) : OpR X (compareOp .NotIn) (rInG X.K true) := by
  intro pins s σ H x y v u Q I rx ry h
  obtain ⟨d, ds, hd, he, sd, se, q⟩ := h
  obtain ⟨as, r1⟩ := Dp.reads I d x v hd rx
  have hr := room_in (X := X) (ds := ds) sd hu
  rcases he with he | he
  · obtain ⟨bs, r2⟩ := Dp.reads I _ y u he ry
    exact SeqAt.notIn_list_reads r2 r1 se (SeqAt.canLay_of_shaped sd) hr ⟨.bl _, H, I, rfl, q⟩
  · obtain ⟨bs, r2⟩ := Dp.reads I _ y u he ry
    exact SeqAt.notIn_tuple_reads r2 r1 se (SeqAt.canLay_of_shaped sd) hr ⟨.bl _, H, I, rfl, q⟩
def inB (a b : D) (h : AH) : Option Bool := match toPy h a, toPy h b with
  | some p, some (.list qs) => if SeqAt.shaped p = true ∧ PyData.canLayAll0 qs = true then some (qs.any fun z => PyData.eqv z p) else none
  | some p, some (.tuple qs) => if SeqAt.shaped p = true ∧ PyData.canLayAll0 qs = true then some (qs.any fun z => PyData.eqv z p) else none
  | _, _ => none
def inD0 (neg : Bool) (a b : D) (h : AH) : R D := match inB a b h with
  | some k => .ok (.bl (if neg then !k else k)) h
  | none => .bad
def inD (neg : Bool) (a b : D) (h : AH) : R D := match a, b with
  | .str x, .str z => (match x.cps.toList with
    | [c] => .ok (.bl (if neg then !decide (c ∈ z.cps.toList) else decide (c ∈ z.cps.toList))) h
    | _ => .bad)
  | a, b => inD0 neg a b h
theorem os_in0 {neg : Bool} : OpS K E (rInG K neg) (inD0 neg) := fun ρ P H h x y dx dy s wx wy Q p => by
  unfold inD0 at p
  cases e : inB dx dy h with
  | none => rw [e] at p; exact p.elim
  | some k =>
    rw [e] at p
    have q := Post.here p s (.bl _)
    unfold inB at e
    cases ea : toPy h dx with
    | none => rw [ea] at e; cases e
    | some a =>
      cases eb : toPy h dy with
      | none => rw [ea, eb] at e; cases e
      | some b =>
        rw [ea, eb] at e
        have hb := dp_of s wy eb
        have ha := dp_of s wx ea
        cases b with
        | list qs =>
          dsimp only at e
          split at e
          · rename_i hh; cases e; exact ⟨a, qs, ha, .inl hb, hh.1, hh.2, q⟩
          · cases e
        | tuple qs =>
          dsimp only at e
          split at e
          · rename_i hh; cases e; exact ⟨a, qs, ha, .inr hb, hh.1, hh.2, q⟩
          · cases e
        | _ => cases e
def rInS1 (neg : Bool) : R2 := fun x y H Q => ∃ (c : Nat) (z : Str), x = .str ⟨#[c]⟩ ∧ y = .str z ∧ Q (.bl (if neg then !decide (c ∈ z.cps.toList) else decide (c ∈ z.cps.toList))) H
def rInU (K : PySem.W.Frag) (neg : Bool) : R2 := fun x y H Q => rInG K neg x y H Q ∨ rInS1 neg x y H Q
theorem op_inU {X : Cx} (hu : X.A.units + 65 < cLine) : OpR X (compareOp .In) (rInU X.K false) := (op_inG hu).or op_in_sign
theorem op_notInU {X : Cx} (hu : X.A.units + 65 < cLine) : OpR X (compareOp .NotIn) (rInU X.K true) := (op_notInG hu).or op_notIn_sign
theorem os_in {neg : Bool} : OpS K E (rInU K neg) (inD neg) := fun ρ P H h x y dx dy s wx wy Q p => by
  unfold inD at p
  split at p
  · rename_i z1 z2
    cases wx
    cases wy
    split at p
    · rename_i c ec
      refine .inr ⟨c, z2, ?_, rfl, Post.here p s (.bl _)⟩
      have : z1.cps = #[c] := by
        have := congrArg List.toArray ec
        simpa using this
      cases z1
      cases this
      rfl
    · exact p.elim
  · exact .inl (os_in0 ρ P H h x y dx dy s wx wy Q p)

/-! is None -/
def isND (neg : Bool) (a b : D) (h : AH) : R D := match b with
  | .non => .ok (.bl (match a with
    | .non => !neg
    | _ => neg)) h
  | _ => .bad
theorem rep_non {d : D} {v : V} (w : Rep K ρ P d v) : decide (v = .non) = (match d with
    | .non => true
    | _ => false) := by cases w <;> simp
theorem os_isN : OpS K E (fun x y H Q => y = .non ∧ Q (.bl (decide (x = .non))) H) (isND false) := fun ρ P H h x y dx dy s wx wy Q p => by
  cases wy with
  | non =>
    refine ⟨rfl, ?_⟩
    have q := Post.here p s (.bl _)
    rw [rep_non wx]
    cases dx <;> exact q
  | _ => exact p.elim
theorem os_notN : OpS K E (fun x y H Q => y = .non ∧ Q (.bl (!decide (x = .non))) H) (isND true) := fun ρ P H h x y dx dy s wx wy Q p => by
  cases wy with
  | non =>
    refine ⟨rfl, ?_⟩
    have q := Post.here p s (.bl _)
    rw [rep_non wx]
    cases dx <;> exact q
  | _ => exact p.elim
/-! xs[i] -/
def ixD (a b : D) (h : AH) : R D := match a, b with
  | .str z, .int i => if z.length ≤ sizeLine then (match atI z.cps.toList i with
    | some c => .ok (.str ⟨#[c]⟩) h
    | none => .bad) else .bad
  | .tup ds, .int i => (match atI ds i with
    | some d => .ok d h
    | none => .bad)
  | a, .int i => (match seqD a h with
    | some ds => (match atI ds i with
      | some d => .ok d h
      | none => .bad)
    | none => .bad)
  | _, _ => .bad
theorem RepL.atI {ds : List D} {vs : List V} {i : Int} {d : D} (r : RepL K ρ P ds vs) (e : atI ds i = some d) : ∃ v, L2.atI vs i = some v ∧ Rep K ρ P d v := by
  have hl := r.length
  unfold L2.atI at e ⊢
  rw [hl]
  cases q : ixN ds.length i with
  | none => rw [q] at e; cases e
  | some j =>
    rw [q] at e
    exact r.get e
theorem os_ix : OpS K E (rIx K) ixD := fun ρ P H h x y dx dy s wx wy Q p => by
  have sq : ∀ {ds : List D} {i : Int}, dy = .int i → seqD dx h = some ds → Post K (RV K) E ρ P H Q (match atI ds i with
      | some d => .ok d h
      | none => .bad) → rIx K x y H Q := fun {ds i} ey es pp => by
    subst ey
    cases wy
    cases e : L2.atI ds i with
    | none => rw [e] at pp; exact pp.elim
    | some d =>
      rw [e] at pp
      obtain ⟨a, vs, rfl, q, r⟩ := seqD_sq s wx es
      obtain ⟨v, e2, rv⟩ := r.atI e
      exact .inl ⟨a, vs, i, v, rfl, rfl, q, e2, Post.here pp s rv⟩
  cases wy with
  | int i =>
    cases wx with
    | str z =>
      have p : Post K (RV K) E ρ P H Q (if z.length ≤ sizeLine then (match L2.atI z.cps.toList i with
        | some c => .ok (.str ⟨#[c]⟩) h
        | none => .bad) else .bad) := p
      split at p
      · rename_i hl
        cases e : L2.atI z.cps.toList i with
        | none => rw [e] at p; exact p.elim
        | some c =>
          rw [e] at p
          exact .inr (.inr ⟨z, i, c, rfl, rfl, hl, e, Post.here p s (.str _)⟩)
      · exact p.elim
    | tup q r =>
      rename_i a vs ds
      have p : Post K (RV K) E ρ P H Q (match L2.atI ds i with
        | some d => .ok d h
        | none => .bad) := p
      cases e : L2.atI ds i with
      | none => rw [e] at p; exact p.elim
      | some d =>
        rw [e] at p
        obtain ⟨v, e2, rv⟩ := r.atI e
        exact .inr (.inl ⟨a, vs, i, v, rfl, rfl, sqT_tk s.sub q, e2, Post.here p s rv⟩)
    | lst q r => exact sq rfl rfl p
    | scr q r => exact sq rfl rfl p
    | loc e =>
      rename_i n a
      have p : Post K (RV K) E ρ P H Q (match seqD (.loc n) h with
        | some ds => (match L2.atI ds i with
          | some d => .ok d h
          | none => .bad)
        | none => .bad) := p
      cases q : seqD (.loc n) h with
      | none => rw [q] at p; exact p.elim
      | some ds => rw [q] at p; exact sq rfl q p
    | _ => exact p.elim
  | _ => cases wx <;> exact p.elim
end
end Ab

namespace Ab
open PySem PySem.Spec L2
section
variable {K : PySem.W.Frag} {E : XK} {ρ ρ' ρ1 : Ro} {P H P' H' P1 H1 : Hp}
/-! ### built-in functions, by values -/
def CbS (K : PySem.W.Frag) (E : XK) (r : List V → Hp → VK → Prop) (f : List D → AH → R D) : Prop := ∀ ρ P H h vs ds, SR K ρ P H h → RepL K ρ P ds vs → ∀ Q, Post K (RV K) E ρ P H Q (f ds h) → r vs H Q
def CbF (K : PySem.W.Frag) (E : XK) (r : List V → Hp → VK → Prop) (f : List D → AH → R (List D)) : Prop := ∀ ρ P H h vs ds, SR K ρ P H h → RepL K ρ P ds vs → ∀ Q, PostF K E ρ P H Q (f ds h) → r vs H Q
def mCB (f : List D → AH → R D) (m : M (List D)) : M D := fun env h => (m env h).bind fun ds h1 => f ds h1
def mCBF (f : List D → AH → R (List D)) (m : M (List D)) : M (List D) := fun env h => (m env h).bind fun ds h1 => f ds h1
theorem sd_cb {r : List V → Hp → VK → Prop} {f : List D → AH → R D} {t : TA} {m : M (List D)} (hr : CbS K E r f) (ha : Sd K (RVs K) E t m) : Sd K (RV K) E (tCB r t) (mCB f m) := fun ρ P σ H env h s re Q p =>
  ha ρ P σ H env h s re _ (Post.bind p fun a h1 ρ1 P1 H1 v t1 s1 w1 p1 => hr _ _ _ _ _ _ s1 w1 Q p1)
theorem sf_cb {r : List V → Hp → VK → Prop} {f : List D → AH → R (List D)} {t : TA} {m : M (List D)} (hr : CbF K E r f) (ha : Sd K (RVs K) E t m) : SdF K E (tCB r t) (mCBF f m) := fun ρ P σ H env h s re Q p =>
  ha ρ P σ H env h s re _ (PostF.bind p fun a h1 ρ1 P1 H1 v t1 s1 w1 p1 => hr _ _ _ _ _ _ s1 w1 Q p1)
theorem RepL.one {d : D} {vs : List V} (r : RepL K ρ P [d] vs) : ∃ v, vs = [v] ∧ Rep K ρ P d v := by
  cases r with
  | cons a b => cases b; exact ⟨_, rfl, a⟩
theorem RepL.two {d e : D} {vs : List V} (r : RepL K ρ P [d, e] vs) : ∃ v u, vs = [v, u] ∧ Rep K ρ P d v ∧ Rep K ρ P e u := by
  cases r with
  | cons a b =>
    obtain ⟨u, rfl, w⟩ := b.one
    exact ⟨_, u, rfl, a, w⟩
def lenD : List D → AH → R D
  | [.str x], h => if x.length ≤ sizeLine then .ok (.int x.length) h else .bad
  | [.tup ds], h => .ok (.int ds.length) h
  | [d], h => (match seqD d h with
    | some ds => .ok (.int ds.length) h
    | none => .bad)
  | _, _ => .bad
theorem cb_len : CbS K E (fun xs H Q => ∃ x n, xs = [x] ∧ LenV K x H n ∧ Q (.int n) H) lenD := fun ρ P H h vs ds s w Q p => by
  unfold lenD at p
  split at p
  · obtain ⟨v, rfl, r⟩ := w.one
    cases r
    split at p
    · rename_i hl; exact ⟨_, _, rfl, ⟨hl, rfl⟩, Post.here p s (.int _)⟩
    · exact p.elim
  · obtain ⟨v, rfl, r⟩ := w.one
    cases r with
    | tup q r => exact ⟨_, _, rfl, .inr ⟨_, sqT_tk s.sub q, rfl⟩, by rw [r.length]; exact Post.here p s (.int _)⟩
  · obtain ⟨v, rfl, r⟩ := w.one
    split at p
    · rename_i e
      obtain ⟨a, us, rfl, q, r2⟩ := seqD_sq s r e
      exact ⟨_, _, rfl, .inl ⟨_, q, rfl⟩, by rw [r2.length]; exact Post.here p s (.int _)⟩
    · exact p.elim
  · exact p.elim
def absD : List D → AH → R D
  | [.int i], h => .ok (.int (if i < 0 then -i else i)) h
  | _, _ => .bad
def max2D : List D → AH → R D
  | [.int i, .int j], h => .ok (.int (if j > i then j else i)) h
  | _, _ => .bad
def min2D : List D → AH → R D
  | [.int i, .int j], h => .ok (.int (if j < i then j else i)) h
  | _, _ => .bad
def intD : List D → AH → R D
  | [.int i], h => .ok (.int i) h
  | [.bl k], h => .ok (.int (if k then 1 else 0)) h
  | _, _ => .bad
theorem cb_int : CbS K E (fun xs H Q => (∃ i, xs = [.int i] ∧ Q (.int i) H) ∨ ∃ k, xs = [.bl k] ∧ Q (.int (if k then 1 else 0)) H) intD := fun ρ P H h vs ds s w Q p => by
  unfold intD at p
  split at p
  · obtain ⟨v, rfl, r⟩ := w.one
    cases r
    exact .inl ⟨_, rfl, Post.here p s (.int _)⟩
  · obtain ⟨v, rfl, r⟩ := w.one
    cases r
    exact .inr ⟨_, rfl, Post.here p s (.int _)⟩
  · exact p.elim
def strD : List D → AH → R D
  | [.int i], h => if i.natAbs.log2 < 1920 then .ok (.str (toString i)) h else .bad
  | _, _ => .bad
theorem cb_str : CbS K E (fun xs H Q => ∃ i, xs = [.int i] ∧ i.natAbs.log2 < 1920 ∧ Q (.str (toString i)) H) strD := fun ρ P H h vs ds s w Q p => by
  unfold strD at p
  split at p
  · obtain ⟨v, rfl, r⟩ := w.one
    cases r
    split at p
    · rename_i hl; exact ⟨_, rfl, hl, Post.here p s (.str _)⟩
    · exact p.elim
  · exact p.elim
def divmodD : List D → AH → R D
  | [.int i, .int j], h => if CDiv i j then .ok (.tup [.int (i / j), .int (i % j)]) h else .bad
  | _, _ => .bad
/-- list(xs) -/
def listD : List D → AH → R (List D)
  | [.tup ds], h => .ok ds h
  | [d], h => (match seqD d h with
    | some ds => .ok ds h
    | none => .bad)
  | _, _ => .bad
theorem cb_list : CbF K E (fun xs H Q => ∃ p ys, xs = [.ref p] ∧ (SqL K H p ys ∨ SqT K H p ys) ∧ ∀ l, H l = none → Q (.ref l) (upd H l (.lst ys))) listD := fun ρ P H h vs ds s w Q p => by
  unfold listD at p
  split at p
  · obtain ⟨v, rfl, r⟩ := w.one
    cases r with
    | tup q r => exact ⟨_, _, rfl, .inr (sqT_tk s.sub q), p.newL s r⟩
  · obtain ⟨v, rfl, r⟩ := w.one
    split at p
    · rename_i e
      obtain ⟨a, us, rfl, q, r2⟩ := seqD_sq s r e
      exact ⟨_, _, rfl, .inl q, p.newL s r2⟩
    · exact p.elim
  · exact p.elim
/-- tuple(xs) -/
def tupleD : List D → AH → R D
  | [.tup ds], h => .ok (.tup ds) h
  | [d], h => (match seqD d h with
    | some ds => .ok (.tup ds) h
    | none => .bad)
  | _, _ => .bad
theorem cb_tuple : CbS K E (fun xs H Q => ∃ p ys, xs = [.ref p] ∧ ((SqL K H p ys ∧ ∀ l, H l = none → Q (.ref l) (upd H l (.tup ys))) ∨ (SqT K H p ys ∧ Q (.ref p) H))) tupleD := fun ρ P H h vs ds s w Q p => by
  unfold tupleD at p
  split at p
  · obtain ⟨v, rfl, r⟩ := w.one
    cases r with
    | tup q r => exact ⟨_, _, rfl, .inr ⟨sqT_tk s.sub q, Post.here p s (.tup q r)⟩⟩
  · obtain ⟨v, rfl, r⟩ := w.one
    split at p
    · rename_i e
      obtain ⟨a, us, rfl, q, r2⟩ := seqD_sq s r e
      exact ⟨_, _, rfl, .inl ⟨q, p.newT s r2⟩⟩
    · exact p.elim
  · exact p.elim
/-- the truth values of a list -/
def blsD : List D → Option (List Bool)
  | [] => some []
  | .bl b :: ds => (blsD ds).map (b :: ·)
  | _ => none
theorem blsD_ok : ∀ {ds : List D} {bs : List Bool}, blsD ds = some bs → ds = bs.map D.bl
  | [], _, e => by cases e; rfl
  | d :: ds, bs, e => by
    cases d with
    | bl b =>
      have e : (blsD ds).map (b :: ·) = some bs := e
      cases q : blsD ds with
      | none => rw [q] at e; cases e
      | some cs => rw [q] at e; cases e; rw [blsD_ok q]; rfl
    | _ => cases e
def allD (any : Bool) : List D → AH → R D
  | [d], h => (match seqD d h with
    | some ds => (match blsD ds with
      | some bs => .ok (.bl (if any then bs.any id else bs.all id)) h
      | none => .bad)
    | _ => .bad)
  | _, _ => .bad
theorem cb_all : CbS K E (rAll K) (allD false) := fun ρ P H h vs ds s w Q p => by
  unfold allD at p
  split at p
  · obtain ⟨v, rfl, r⟩ := w.one
    split at p
    · rename_i e
      split at p
      · rename_i bs eb
        obtain ⟨a, us, rfl, q, r2⟩ := seqD_sq s r e
        rw [blsD_ok eb] at r2
        rw [RepL.bls_iff r2] at q
        exact ⟨_, bs, rfl, q, Post.here p s (.bl _)⟩
      · exact p.elim
    · exact p.elim
  · exact p.elim
def intsD : List D → Option (List Int)
  | [] => some []
  | .int b :: ds => (intsD ds).map (b :: ·)
  | _ => none
theorem intsD_ok : ∀ {ds : List D} {bs : List Int}, intsD ds = some bs → ds = bs.map D.int
  | [], _, e => by cases e; rfl
  | d :: ds, bs, e => by
    cases d with
    | int b =>
      have e : (intsD ds).map (b :: ·) = some bs := e
      cases q : intsD ds with
      | none => rw [q] at e; cases e
      | some cs => rw [q] at e; cases e; rw [intsD_ok q]; rfl
    | _ => cases e
def sumD : List D → AH → R D
  | [d], h => (match seqD d h with
    | some ds => (match intsD ds with
      | some bs => .ok (.int bs.sum) h
      | none => .bad)
    | _ => .bad)
  | _, _ => .bad
/-- isinstance of a built-in type -/
def tyD (d : D) (h : AH) : Option String := match d with
  | .non => some "NoneType"
  | .bl _ => some "bool"
  | .int _ => some "int"
  | .str _ => some "str"
  | .tup _ => some "tuple"
  | .lst _ => some "list"
  | .scr _ => some "list"
  | .loc n => (match h[n]? with
    | some (.lst _) => some "list"
    | _ => none)
  | _ => none
theorem tyD_ok {h : AH} {d : D} {v : V} {n : String} (s : SR K ρ P H h) (w : Rep K ρ P d v) (e : tyD d h = some n) : TyX K H v (.type n) := by
  have lq : ∀ {a : Addr} {vs : List V}, SqL K H a vs → TyX K H (.ref a) (.type "list") := fun {a vs} q => by
    rcases q with (q | ⟨o, q⟩) | ⟨o, its, m, q, c, _⟩
    · exact .base (.lst q)
    · exact .base (.frz q)
    · exact .kList q c
  cases w with
  | non => cases e; exact .base .non
  | bl b => cases e; exact .base (.bl b)
  | int i => cases e; exact .base (.int i)
  | str x => cases e; exact .base (.str x)
  | glo x => cases e
  | ty x => cases e
  | tup q r =>
    cases e
    rcases sqT_tk s.sub q with (q | ⟨o, q⟩) | ⟨o, its, m, q, c, _⟩
    · exact .base (.tup q)
    · exact .fTuple q
    · exact .kTuple q c
  | lst q r => cases e; exact lq (.of (s.sub _ _ q rfl))
  | scr q r => cases e; exact lq (sqL_s s.sub q)
  | obj _ _ _ _ => cases e
  | dic _ _ _ _ => cases e
  | nd _ _ _ _ _ => cases e
  | loc e1 =>
    obtain ⟨o, eo, r⟩ := s.here e1
    simp only [tyD, eo] at e
    cases o with
    | lst ds => cases e; obtain ⟨us, ev, _⟩ := r; exact lq (.of ev)
    | dct kvs => cases e
    | ins c fs => cases e
    | ndt kvs => cases e
def isTy (a b : String) : Option Bool := if (a = "NoneType" ∨ a = "bool" ∨ a = "int" ∨ a = "str" ∨ a = "tuple" ∨ a = "list") ∧ (b = "bool" ∨ b = "int" ∨ b = "str" ∨ b = "tuple" ∨ b = "list") then some (decide (a = b) || (decide (a = "bool") && decide (b = "int"))) else none
theorem isTy_ok {a b : String} {k : Bool} (e : isTy a b = some k) : kitB a b = some k := by
  unfold isTy at e
  split at e
  · rename_i hh
    rw [← e]
    obtain ⟨ha, hb⟩ := hh
    rcases ha with rfl | rfl | rfl | rfl | rfl | rfl <;> rcases hb with rfl | rfl | rfl | rfl | rfl <;> decide +kernel
  · cases e
def isiD : List D → AH → R D
  | [d, .ty n], h => (match tyD d h with
    | some t => (match isTy t n with
      | some k => .ok (.bl k) h
      | none => .bad)
    | _ => .bad)
  | _, _ => .bad
theorem cb_isi : CbS K E (rIsi K) isiD := fun ρ P H h vs ds s w Q p => by
  unfold isiD at p
  split at p
  · obtain ⟨v, u, rfl, r1, r2⟩ := w.two
    cases r2
    split at p
    · rename_i t et
      split at p
      · rename_i k ek
        exact ⟨v, _, _, _, k, rfl, .ty _, tyD_ok s r1 et, kit_ty (isTy_ok ek), Post.here p s (.bl _)⟩
      · exact p.elim
    · exact p.elim
  · exact p.elim
end
/-! ### repr -/
mutual
/-- a bound of a repr's length that does not hang on the ints -/
def cost : PyData → Nat
  | .none => 8
  | .bool _ => 8
  | .int _ => 2000
  | .str x => (reprText x).length
  | .list ds => costL ds + 4
  | .tuple ds => costL ds + 4
  | .dict _ => 0
def costL : List PyData → Nat
  | [] => 0
  | d :: ds => cost d + 2 + costL ds
end
mutual
def noDict : PyData → Bool
  | .list ds => noDictL ds
  | .tuple ds => noDictL ds
  | .dict _ => false
  | _ => true
def noDictL : List PyData → Bool
  | [] => true
  | d :: ds => noDict d && noDictL ds
end
theorem listText_le : ∀ ts : List Str, (listText ts).length ≤ piled ts + 2
  | [] => by decide
  | t :: r => by
    have h := textFrom_length_pos r 1 ((("[" : String) : Str) ++ (if (0 : Nat) > 0 then ", " else "" : String) ++ t) (Nat.succ_pos 0)
    have e : (listText (t :: r)).length = (textFrom 1 ((("[" : String) : Str) ++ (if (0 : Nat) > 0 then ", " else "" : String) ++ t) r).length + 1 := strLen_append _ _
    have e2 : ((("[" : String) : Str) ++ (if (0 : Nat) > 0 then ", " else "" : String) ++ t).length = 1 + t.length := by rw [strLen_append, strLen_append]; rfl
    rw [e, h, e2, piled_cons]
    omega
theorem tupleText_le (ts : List Str) : (tupleText ts).length ≤ piled ts + 4 := by
  unfold tupleText
  rw [strLen_append, strLen_append]
  have e1 : ((("(" : String) : Str)).length = 1 := rfl
  have e3 : (((if ts.length == 1 then ",)" else ")" : String) : Str)).length ≤ 2 := by split <;> decide
  rw [e1]
  by_cases z : ts = []
  · subst z
    have e0 : (Str.join ((", " : String) : Str) []).length = 0 := rfl
    rw [e0]
    omega
  · have := join_length_add ts z
    omega
mutual
theorem shown_le : ∀ d : PyData, d.showable = true → noDict d = true → d.shown.length ≤ cost d
  | .none, _, _ => by decide
  | .bool b, _, _ => by cases b <;> decide
  | .int i, h, _ => by
    have h1 : i.natAbs.log2 < 1920 := of_decide_eq_true h
    have h2 := int_text_length_le (k := 1920) (by decide) h1
    show (Str.ofString (toString i)).length ≤ 2000
    have h3 : (Str.ofString (toString i)).length = (toString i).length := by
      rw [Str.ofString_eq_toList]
      show ((toString i).toList.map Char.toNat).toArray.size = _
      rw [List.size_toArray, List.length_map]
      exact String.length_toList
    omega
  | .str x, _, _ => Nat.le_refl _
  | .list ds, h, n => by
    have h1 := shownL_le ds (by simpa only [PyData.showable] using h) (by simpa only [noDict] using n)
    have h2 := listText_le (PyData.shownAll ds)
    show (PyData.shown (.list ds)).length ≤ costL ds + 4
    rw [PyData.shown]
    omega
  | .tuple ds, h, n => by
    have h1 := shownL_le ds (by simpa only [PyData.showable] using h) (by simpa only [noDict] using n)
    have h2 := tupleText_le (PyData.shownAll ds)
    show (PyData.shown (.tuple ds)).length ≤ costL ds + 4
    rw [PyData.shown]
    omega
  | .dict _, _, n => by simp [noDict] at n
theorem shownL_le : ∀ ds : List PyData, PyData.showableAll ds = true → noDictL ds = true → piled (PyData.shownAll ds) ≤ costL ds
  | [], _, _ => by decide
  | d :: ds, h, n => by
    have h' : d.showable = true ∧ PyData.showableAll ds = true := by simpa only [PyData.showableAll, Bool.and_eq_true] using h
    have n' : noDict d = true ∧ noDictL ds = true := by simpa only [noDictL, Bool.and_eq_true] using n
    have h1 := shown_le d h'.1 n'.1
    have h2 := shownL_le ds h'.2 n'.2
    show piled (PyData.shown d :: PyData.shownAll ds) ≤ cost d + 2 + costL ds
    rw [piled_cons]
    omega
end
mutual
theorem noDict_has : ∀ d : PyData, noDict d = true → d.hasDict = false
  | .none, _ => by simp only [PyData.hasDict]
  | .bool _, _ => by simp only [PyData.hasDict]
  | .int _, _ => by simp only [PyData.hasDict]
  | .str _, _ => by simp only [PyData.hasDict]
  | .list ds, h => by simp only [PyData.hasDict]; exact noDictL_has ds (by simpa only [noDict] using h)
  | .tuple ds, h => by simp only [PyData.hasDict]; exact noDictL_has ds (by simpa only [noDict] using h)
  | .dict _, n => by simp [noDict] at n
theorem noDictL_has : ∀ ds : List PyData, noDictL ds = true → PyData.hasDictAll ds = false
  | [], _ => by simp only [PyData.hasDictAll]
  | d :: ds, n => by
    have n' : noDict d = true ∧ noDictL ds = true := by simpa only [noDictL, Bool.and_eq_true] using n
    simp only [PyData.hasDictAll, noDict_has d n'.1, noDictL_has ds n'.2, Bool.or_self]
end
def reprOk (d : PyData) : Bool := d.showable && (noDict d && (decide (cost d ≤ sizeLine) && decide (d.depth ≤ 64)))
def rReprU (K : PySem.W.Frag) : List V → Hp → VK → Prop := fun xs H Q => ∃ x d, xs = [x] ∧ Dp K H x d ∧ reprOk d = true ∧ Q (.str d.shown) H
section
variable {K : PySem.W.Frag} {E : XK} {ρ ρ' ρ1 : Ro} {P H P' H' P1 H1 : Hp}
def reprD : List D → AH → R D
  | [d], h => (match toPy h d with
    | some p => if reprOk p = true then .ok (.str p.shown) h else .bad
    | none => .bad)
  | _, _ => .bad
/-! ### slices -/
def cutL {α : Type} (xs : List α) (lo hi : Option Int) : List α := (xs.drop (HT.sIx xs.length 0 lo)).take (HT.sIx xs.length xs.length hi - HT.sIx xs.length 0 lo)
theorem RepL.cutL {ds : List D} {vs : List V} (r : RepL K ρ P ds vs) (lo hi : Option Int) : RepL K ρ P (Ab.cutL ds lo hi) (cutV vs lo hi) := by
  unfold Ab.cutL cutV
  rw [r.length]
  exact (r.drop _).take _
def mNoPart : M (Option Int) := fun _ h => .ok none h
def mPart (m : M D) : M (Option Int) := fun env h => (m env h).bind fun d h1 => match d with
  | .int i => .ok (some i) h1
  | _ => .bad
theorem sd_noPart : Sd K (RQ (Option Int)) E tNoPart mNoPart := fun ρ P σ H env h s re Q p => Post.here p s rfl
theorem sd_part {t : TE} {m : M D} (ha : Sd K (RV K) E t m) : Sd K (RQ (Option Int)) E (tPart t) (mPart m) := fun ρ P σ H env h s re Q p =>
  ha ρ P σ H env h s re _ (Post.bind p fun a h1 ρ1 P1 H1 v t1 s1 w1 p1 => by
    cases w1 with
    | int i => exact ⟨i, rfl, Post.here p1 s1 rfl⟩
    | _ => exact p1.elim)
def mSlL (m : M D) (lo hi : M (Option Int)) : M (List D) := fun env h => (m env h).bind fun d h1 => (lo env h1).bind fun l h2 => (hi env h2).bind fun u h3 => match seqD d h3 with
  | some ds => .ok (cutL ds l u) h3
  | none => .bad
theorem sf_slL {te : TE} {tl th : TO} {m : M D} {lo hi : M (Option Int)} (ha : Sd K (RV K) E te m) (hl : Sd K (RQ (Option Int)) E tl lo) (hh : Sd K (RQ (Option Int)) E th hi) : SdF K E (tSl (rSlL K) te tl th) (mSlL m lo hi) := fun ρ P σ H env h s re Q p =>
  ha ρ P σ H env h s re _ (PostF.bind p fun a h1 ρ1 P1 H1 v t1 s1 w1 p1 => hl _ _ _ _ _ _ s1 (re.step t1) _ (PostF.bind p1 fun b h2 ρ2 P2 H2 u t2 s2 w2 p2 =>
    hh _ _ _ _ _ _ s2 ((re.step t1).step t2) _ (PostF.bind p2 fun c h3 ρ3 P3 H3 x t3 s3 w3 p3 => by
      cases w2; cases w3
      split at p3
      · rename_i ds e
        obtain ⟨q, us, rfl, sq, r⟩ := seqD_sq s3 ((w1.step t2).step t3) e
        exact ⟨q, us, rfl, sq, p3.newL s3 (r.cutL _ _)⟩
      · exact p3.elim)))
def mSlT (m : M D) (lo hi : M (Option Int)) : M D := fun env h => (m env h).bind fun d h1 => (lo env h1).bind fun l h2 => (hi env h2).bind fun u h3 => match d with
  | .tup ds => .ok (.tup (cutL ds l u)) h3
  | _ => .bad
theorem cutL_whole {α : Type} {xs : List α} {lo hi : Option Int} (h : HT.sIx xs.length 0 lo = 0 ∧ HT.sIx xs.length xs.length hi = xs.length) : cutL xs lo hi = xs := by
  unfold cutL
  rw [h.1, h.2]
  simp
/-! ### xs[i] = v, xs.append(v) .. -/
def mgSub (mo mi : M D) : MG := fun d env h => (mo env h).bind fun o h1 => (mi env h1).bind fun i h2 => match o, i with
  | .loc n, .int k => (match h2[n]? with
    | some (.lst ds) => (match ixN ds.length k with
      | some j => .ok env (h2.set n (.lst (ds.set j d)))
      | none => .bad)
    | _ => .bad)
  | _, _ => .bad
def mMeth (f : D → List D → AH → R D) (mo : M D) (ma : M (List D)) : M D := fun env h => (mo env h).bind fun o h1 => (ma env h1).bind fun ds h2 => f o ds h2
def MtS (K : PySem.W.Frag) (E : XK) (T : String) (r : V → List V → Hp → VK → Prop) (ok : D → AH → Bool) (f : D → List D → AH → R D) : Prop :=
  (∀ ρ P H h x d, SR K ρ P H h → Rep K ρ P d x → ok d h = true → tyV K T x H) ∧
  ∀ ρ P H h x vs d ds, SR K ρ P H h → Rep K ρ P d x → RepL K ρ P ds vs → ∀ Q, Post K (RV K) E ρ P H Q (f d ds h) → r x vs H Q
def mMethT (ok : D → AH → Bool) (f : D → List D → AH → R D) (mo : M D) (ma : M (List D)) : M D := fun env h => (mo env h).bind fun o h1 => if ok o h1 = true then (ma env h1).bind fun ds h2 => f o ds h2 else .bad
theorem sd_meth {T : String} {r : V → List V → Hp → VK → Prop} {ok : D → AH → Bool} {f : D → List D → AH → R D} {to : TE} {ta : TA} {mo : M D} {ma : M (List D)} (hm : MtS K E T r ok f) (ho : Sd K (RV K) E to mo) (ha : Sd K (RVs K) E ta ma) :
    Sd K (RV K) E (tBM K T r to ta) (mMethT ok f mo ma) := fun ρ P σ H env h s re Q p =>
  ho ρ P σ H env h s re _ (Post.bind p fun a h1 ρ1 P1 H1 x t1 s1 w1 p1 => by
    split at p1
    · rename_i hk
      exact ⟨hm.1 _ _ _ _ _ _ s1 w1 hk, ha _ _ _ _ _ _ s1 (re.step t1) _ (Post.bind p1 fun b h2 ρ2 P2 H2 y t2 s2 w2 p2 => hm.2 _ _ _ _ _ _ _ _ s2 (w1.step t2) w2 Q p2)⟩
    · exact p1.elim)
def mMethT0 (ok : D → AH → Bool) (f : D → List D → AH → R D) (mo : M D) : M D := fun env h => (mo env h).bind fun o h1 => if ok o h1 = true then f o [] h1 else .bad
theorem sd_meth0 {T : String} {r : V → List V → Hp → VK → Prop} {ok : D → AH → Bool} {f : D → List D → AH → R D} {to : TE} {mo : M D} (hm : MtS K E T r ok f) (ho : Sd K (RV K) E to mo) :
    Sd K (RV K) E (tBM0 K T r to) (mMethT0 ok f mo) := fun ρ P σ H env h s re Q p =>
  ho ρ P σ H env h s re _ (Post.bind p fun a h1 ρ1 P1 H1 x t1 s1 w1 p1 => by
    split at p1
    · rename_i hk
      exact ⟨hm.1 _ _ _ _ _ _ s1 w1 hk, hm.2 _ _ _ _ _ _ _ _ s1 w1 .nil Q p1⟩
    · exact p1.elim)
def isLoc (d : D) (h : AH) : Bool := match d with
  | .loc n => (match h[n]? with
    | some (.lst _) => true
    | _ => false)
  | _ => false
theorem isLoc_ty : ∀ ρ P H h x d, SR K ρ P H h → Rep K ρ P d x → isLoc d h = true → tyV K "list" x H := fun ρ P H h x d s w e => by
  cases w with
  | loc e1 =>
    obtain ⟨o, eo, r⟩ := s.here e1
    cases o with
    | lst ds => obtain ⟨us, ev, _⟩ := r; exact .inl ⟨rfl, _, .of ev⟩
    | dct kvs => simp [isLoc, eo] at e
    | ins c fs => simp [isLoc, eo] at e
    | ndt kvs => simp [isLoc, eo] at e
  | _ => cases e
def appendD : D → List D → AH → R D
  | .loc n, [d], h => (match h[n]? with
    | some (.lst ds) => if ds.length < sizeLine then .ok .non (h.set n (.lst (ds ++ [d]))) else .bad
    | _ => .bad)
  | _, _, _ => .bad
theorem mt_appendU : MtS K E "list" rAppend isLoc appendD := by
  refine ⟨isLoc_ty, fun ρ P H h x vs d ds s w ws Q p => ?_⟩
  unfold appendD at p
  split at p
  · obtain ⟨v, rfl, r⟩ := ws.one
    cases w with
    | loc e =>
      obtain ⟨o, eo, q⟩ := s.here e
      cases o with
      | lst es =>
        obtain ⟨us, ev, rv⟩ := q
        simp only [eo] at p
        split at p
        · rename_i hl
          obtain ⟨s3, t3⟩ := s.put (u := .lst (us ++ [v])) (o := .lst (es ++ [_])) e ⟨_, upd_same, rv.append (.cons r .nil)⟩
          exact ⟨_, us, v, rfl, rfl, ev, by rw [rv.length]; exact hl, p _ _ _ _ t3 s3 .non⟩
        · exact p.elim
      | dct kvs => simp only [eo] at p; exact p.elim
      | ins c fs => simp only [eo] at p; exact p.elim
      | ndt kvs => simp only [eo] at p; exact p.elim
  · exact p.elim
def popD : D → List D → AH → R D
  | .loc n, [], h => (match h[n]? with
    | some (.lst ds) => (match ds[ds.length - 1]? with
      | some d => .ok d (h.set n (.lst ds.dropLast))
      | none => .bad)
    | _ => .bad)
  | _, _, _ => .bad
theorem RepL.dropLast {ds : List D} {vs : List V} (r : RepL K ρ P ds vs) : RepL K ρ P ds.dropLast vs.dropLast := by
  rw [List.dropLast_eq_take, List.dropLast_eq_take, r.length]
  exact r.take _
theorem mt_popU : MtS K E "list" rPop isLoc popD := by
  refine ⟨isLoc_ty, fun ρ P H h x vs d ds s w ws Q p => ?_⟩
  unfold popD at p
  split at p
  · cases ws
    cases w with
    | loc e =>
      obtain ⟨o, eo, q⟩ := s.here e
      cases o with
      | lst es =>
        obtain ⟨us, ev, rv⟩ := q
        simp only [eo] at p
        cases q2 : es[es.length - 1]? with
        | none => simp only [q2] at p; exact p.elim
        | some d =>
          simp only [q2] at p
          obtain ⟨v, ev2, rd⟩ := rv.get q2
          obtain ⟨s3, t3⟩ := s.put (u := .lst us.dropLast) (o := .lst es.dropLast) e ⟨_, upd_same, rv.dropLast⟩
          exact ⟨_, us, v, rfl, rfl, ev, by rw [rv.length]; exact ev2, p _ _ _ _ t3 s3 rd⟩
      | dct kvs => simp only [eo] at p; exact p.elim
      | ins c fs => simp only [eo] at p; exact p.elim
      | ndt kvs => simp only [eo] at p; exact p.elim
  · exact p.elim
def popAtD : D → List D → AH → R D
  | .loc n, [.int i], h => if -(2 ^ 63) ≤ i ∧ i < 2 ^ 63 then (match h[n]? with
    | some (.lst ds) => (match seqIndex? i ds.length with
      | some k => (match ds[k]? with
        | some d => .ok d (h.set n (.lst (ds.eraseIdx k)))
        | none => .bad)
      | none => .bad)
    | _ => .bad) else .bad
  | _, _, _ => .bad
end
end Ab

namespace Ab
open PySem PySem.Spec L2
/-! ### the text, its reading, its computation -/
structure JE (K : PySem.W.Frag) (E : XK) (X : Cx) (e : Expr) (t : TE) (m : M D) : Prop where
  k : X.K = K
  p : PE X e t
  s : Sd K (RV K) E t m
structure JF (K : PySem.W.Frag) (E : XK) (X : Cx) (e : Expr) (t : TE) (m : M (List D)) : Prop where
  k : X.K = K
  p : PE X e t
  s : SdF K E t m
structure JT (K : PySem.W.Frag) (E : XK) (X : Cx) (e : Expr) (t : TT) (m : M Bool) : Prop where
  k : X.K = K
  p : PT X e t
  s : Sd K (RQ Bool) E t m
structure JTs (K : PySem.W.Frag) (E : XK) (X : Cx) (e : List Expr) (t : TT) (m : M Bool) : Prop where
  k : X.K = K
  p : PTs X e t
  s : Sd K (RQ Bool) E t m
structure JW (K : PySem.W.Frag) (E : XK) (X : Cx) (e : Expr) (t : TT) (m : M Bool) : Prop where
  k : X.K = K
  p : PW X e t
  s : Sd K (RQ Bool) E t m
structure JA (K : PySem.W.Frag) (E : XK) (X : Cx) (e : List Expr) (t : TA) (m : M (List D)) : Prop where
  k : X.K = K
  p : PA X e t
  s : Sd K (RVs K) E t m
structure JK (K : PySem.W.Frag) (E : XK) (X : Cx) (e : List Keyword) (t : TA) (m : M (List D)) : Prop where
  k : X.K = K
  p : PK X e t
  s : Sd K (RVs K) E t m
structure JO (K : PySem.W.Frag) (E : XK) (X : Cx) (e : Option Expr) (t : TO) (m : M (Option Int)) : Prop where
  k : X.K = K
  p : PO X e t
  s : Sd K (RQ (Option Int)) E t m
structure JI (K : PySem.W.Frag) (E : XK) (X : Cx) (tg e : Expr) (t : TI) (m : MI) : Prop where
  k : X.K = K
  p : PI X tg e t
  s : SdI K E t m
structure JG (K : PySem.W.Frag) (E : XK) (X : Cx) (e : Expr) (t : TG) (m : MG) : Prop where
  k : X.K = K
  p : PG X e t
  s : SdG K E t m
structure JGs (K : PySem.W.Frag) (E : XK) (X : Cx) (e : List Expr) (t : TGs) (m : List D → En → AH → R En) : Prop where
  k : X.K = K
  p : PGs X e t
  s : SdGs K E t m
structure JS (K : PySem.W.Frag) (E : XK) (X : Cx) (e : Stmt) (t : TS) (m : MS) : Prop where
  k : X.K = K
  p : PS X e t
  s : SdS K E t m
structure JSs (K : PySem.W.Frag) (E : XK) (X : Cx) (e : List Stmt) (t : TS) (m : MS) : Prop where
  k : X.K = K
  p : PSs X e t
  s : SdS K E t m
theorem JSs.b {K : PySem.W.Frag} {E : XK} {X : Cx} {e : List Stmt} {t : TS} {m : MS} (h : JSs K E X e t m) : JB X E e m := ⟨t, h.p, by rw [h.k]; exact h.s⟩
section
variable {K : PySem.W.Frag} {E : XK} {X : Cx} {e a b c : Expr} {es : List Expr} {ta tb tc : TE} {t : TA} {ma mb mc : M D} {m : M (List D)} {pos pos' : Pos}
/-! names, constants -/
theorem je_v (i : Nat) {x : Str} (hK : X.K = K := by rfl) (hN : X.N[i]? = some x := by rfl) (hv : Vis X.env.scope x := by first | exact Or.inl rfl | exact Or.inr (Or.inl rfl) | exact Or.inr (Or.inr rfl)) (hd : (x == ("__debug__" : Str)) = false := by decide)
    (hcd : (x == ("__classdict__" : Str)) = false := by decide) : JE K E X (.Name x pos) (tVar i) (mVar i) := ⟨hK, pe_var hN hv hd hcd, sd_var⟩
theorem je_int {i : Int} {j} (hK : X.K = K := by rfl) : JE K E X (.Constant (.int i) j pos) (tC (.int i)) (mC (.int i)) := ⟨hK, pe_int, sd_c fun _ _ => .int _⟩
theorem je_bl {i : Bool} {j} (hK : X.K = K := by rfl) : JE K E X (.Constant (.bool i) j pos) (tC (.bl i)) (mC (.bl i)) := ⟨hK, pe_bl, sd_c fun _ _ => .bl _⟩
theorem je_str {i : Str} {j} (hK : X.K = K := by rfl) : JE K E X (.Constant (.str i) j pos) (tC (.str i)) (mC (.str i)) := ⟨hK, pe_str, sd_c fun _ _ => .str _⟩
theorem je_non {j} (hK : X.K = K := by rfl) : JE K E X (.Constant .none j pos) (tC .non) (mC .non) := ⟨hK, pe_non, sd_c fun _ _ => .non⟩
/-- a module's int, text -/
theorem je_gint {x : Str} {i : Int} (hm : ∃ t, X.mg x = some (.int i t)) (hg : Gl X x := by rfl) (hd : (x == ("__debug__" : Str)) = false := by decide) (hK : X.K = K := by rfl) : JE K E X (.Name x pos) (tC (.int i)) (mC (.int i)) := by
  obtain ⟨t, hm⟩ := hm
  exact ⟨hK, pe_glob hg hm ⟨t, rfl⟩ hd, sd_c fun _ _ => .int _⟩
theorem je_gstr {x : Str} {i : Str} (hm : ∃ t, X.mg x = some (.str i t)) (hg : Gl X x := by rfl) (hd : (x == ("__debug__" : Str)) = false := by decide) (hK : X.K = K := by rfl) : JE K E X (.Name x pos) (tC (.str i)) (mC (.str i)) := by
  obtain ⟨t, hm⟩ := hm
  exact ⟨hK, pe_glob hg hm ⟨t, rfl⟩ hd, sd_c fun _ _ => .str _⟩
/-- a built-in type as a value -/
theorem je_ty {x : Str} {n : String} (hm : X.mg x = none) (hv : bootBuiltins x = some (.type n) := by decide +kernel) (hg : Gl X x := by rfl) (hn : x ≠ "__name__" := by decide) (hd : (x == ("__debug__" : Str)) = false := by decide) (hK : X.K = K := by rfl) :
    JE K E X (.Name x pos) (tC (.ty n)) (mC (.ty n)) := ⟨hK, pe_bltn hg hm hv rfl hn hd, sd_c fun _ _ => .ty _⟩
/-! operators -/
theorem je_bin {op : Operator} {r : R2} {f : D → D → AH → R D} (ho : OpR X (binaryOp op) r) (hs : OpS K E r f) (ha : JE K E X a ta ma) (hb : JE K E X b tb mb) : JE K E X (.BinOp a op b pos) (tOp r ta tb) (mBin f ma mb) := ⟨ha.k, pe_op ho ha.p hb.p, sd_op ha.s hb.s hs⟩
theorem je_sub (ha : JE K E X a ta ma) (hb : JE K E X b tb mb) : JE K E X (.BinOp a .Sub b pos) (tOp (rI0 fun i j => .int (i - j)) ta tb) (mBin subD ma mb) := je_bin op_sub os_sub ha hb
theorem je_mod (ha : JE K E X a ta ma) (hb : JE K E X b tb mb) : JE K E X (.BinOp a .Mod b pos) (tOp (rI (fun _ j => 0 < j) fun i j => .int (i % j)) ta tb) (mBin modD ma mb) := je_bin op_mod os_mod ha hb
theorem je_neg (ha : JE K E X a ta ma) : JE K E X (.UnaryOp .USub a pos) (tUn (rU fun i => .int (-i)) ta) (mUn negD ma) := ⟨ha.k, pe_un un_neg ha.p, sd_un ha.s us_neg⟩
/-! comparisons -/
/-- what a comparison does -/
structure JC (K : PySem.W.Frag) (E : XK) (X : Cx) (op : CmpOp) (r : R2) (f : D → D → AH → R D) : Prop where
  o : OpR X (compareOp op) r
  s : OpS K E r f
theorem jc_lt : JC K E X .Lt (rI0 fun i j => .bl (decide (i < j))) (cmpD fun i j => decide (i < j)) := ⟨op_lt, os_cmp⟩
theorem jc_le : JC K E X .LtE (rI0 fun i j => .bl (decide (i ≤ j))) (cmpD fun i j => decide (i ≤ j)) := ⟨op_le, os_cmp⟩
theorem jc_gt : JC K E X .Gt (rI0 fun i j => .bl (decide (j < i))) (cmpD fun i j => decide (j < i)) := ⟨op_gt, os_cmp⟩
theorem jc_eq {k : Nat} (hr : Room k X.A) (hK : X.K = K := by rfl) : JC K E X .Eq (rEqU K) eqD := by subst hK; exact ⟨op_eqU hr.units, os_eq⟩
theorem jc_ne {k : Nat} (hr : Room k X.A) (hK : X.K = K := by rfl) : JC K E X .NotEq (rNeU K) neD := by subst hK; exact ⟨op_neU hr.units, os_ne⟩
theorem jc_isN : JC K E X .Is (fun x y H Q => y = .non ∧ Q (.bl (decide (x = .non))) H) (isND false) := ⟨op_isN, os_isN⟩
theorem jc_notN : JC K E X .IsNot (fun x y H Q => y = .non ∧ Q (.bl (!decide (x = .non))) H) (isND true) := ⟨op_notN, os_notN⟩
theorem je_cmp {op : CmpOp} {r : R2} {f : D → D → AH → R D} (hc : JC K E X op r f) (ha : JE K E X a ta ma) (hb : JE K E X b tb mb) (hm : behindInMarks op b = false := by first | exact nomark _ | rfl) : JE K E X (.Compare a [op] [b] pos) (tOp r ta tb) (mBin f ma mb) :=
  ⟨ha.k, pe_cmpR hc.o ha.p hb.p hm, sd_op ha.s hb.s hc.s⟩
theorem jt_cmp {op : CmpOp} {r : R2} {f : D → D → AH → R D} (hc : JC K E X op r f) (ha : JE K E X a ta ma) (hb : JE K E X b tb mb) (hm : behindInMarks op b = false := by first | exact nomark _ | rfl) : JT K E X (.Compare a [op] [b] pos) (tTest (tOp r ta tb)) (mBl (mBin f ma mb)) :=
  ⟨ha.k, pt_cmpR hc.o ha.p hb.p hm, sd_test (sd_op ha.s hb.s hc.s)⟩
def mChain (f g : D → D → AH → R D) (ma mb mc : M D) : M D := fun env h => (ma env h).bind fun a h1 => (mb env h1).bind fun b h2 => (f a b h2).bind fun k h3 => match k with
  | .bl true => (mc env h3).bind fun c h4 => g b c h4
  | .bl false => .ok (.bl false) h3
  | _ => .bad
theorem sd_chain {r r' : R2} {f g : D → D → AH → R D} (hf : OpS K E r f) (hg : OpS K E r' g) (ha : Sd K (RV K) E ta ma) (hb : Sd K (RV K) E tb mb) (hc : Sd K (RV K) E tc mc) : Sd K (RV K) E (tChain r r' ta tb tc) (mChain f g ma mb mc) := fun ρ P σ H env h s re Q p =>
  ha ρ P σ H env h s re _ (Post.bind p fun a h1 ρ1 P1 H1 v t1 s1 w1 p1 => hb _ _ _ _ _ _ s1 (re.step t1) _ (Post.bind p1 fun b h2 ρ2 P2 H2 u t2 s2 w2 p2 =>
    hf _ _ _ _ _ _ _ _ s2 (w1.step t2) w2 _ (Post.bind p2 fun k h3 ρ3 P3 H3 x t3 s3 w3 p3 => by
      cases w3 with
      | bl k =>
        refine ⟨k, rfl, ?_⟩
        cases k with
        | true => exact hc _ _ _ _ _ _ s3 (((re.step t1).step t2).step t3) _ (Post.bind p3 fun c h4 ρ4 P4 H4 y t4 s4 w4 p4 => hg _ _ _ _ _ _ _ _ s4 ((w2.step t3).step t4) w4 Q p4)
        | false => exact Post.here p3 s3 (.bl _)
      | _ => exact p3.elim)))
theorem je_chain {op op' : CmpOp} {r r' : R2} {f g : D → D → AH → R D} (h1 : JC K E X op r f) (h2 : JC K E X op' r' g) (ha : JE K E X a ta ma) (hb : JE K E X b tb mb) (hc : JE K E X c tc mc) (hm : lastMarks [op, op'] [b, c] = false := by with_unfolding_all rfl) :
    JE K E X (.Compare a [op, op'] [b, c] pos) (tChain r r' ta tb tc) (mChain f g ma mb mc) := ⟨ha.k, pe_chain h1.o h2.o ha.p hb.p hc.p hm, sd_chain h1.s h2.s ha.s hb.s hc.s⟩
theorem jt_chain {op op' : CmpOp} {r r' : R2} {f g : D → D → AH → R D} (h1 : JC K E X op r f) (h2 : JC K E X op' r' g) (ha : JE K E X a ta ma) (hb : JE K E X b tb mb) (hc : JE K E X c tc mc) (hm : lastMarks [op, op'] [b, c] = false := by with_unfolding_all rfl) :
    JT K E X (.Compare a [op, op'] [b, c] pos) (tTest (tChain r r' ta tb tc)) (mBl (mChain f g ma mb mc)) := ⟨ha.k, pt_chain h1.o h2.o ha.p hb.p hc.p hm, sd_test (sd_chain h1.s h2.s ha.s hb.s hc.s)⟩
/-! truth -/
def tTruU (K : PySem.W.Frag) (ta : TE) : TT := fun σ H Q => ta σ H fun x H' => ∃ k, TruV K x H' k ∧ Q k H'
theorem jt_tru (ha : JE K E X a ta ma) (he : ∀ whole, isTrue a X.env whole = (do let v ← whole; standAt a.pos; holding [v] (truthy v)) := by intro _; rfl) : JT K E X a (tTruU K ta) (mTru ma) := by
  obtain ⟨hK, hp, hs⟩ := ha
  subst hK
  exact ⟨rfl, pt_truth hp he, sd_tru hs⟩
variable {tt tu : TT} {mt mu : M Bool} {rest : List Expr}
theorem jt_not (ha : JT K E X a tt mt) : JT K E X (.UnaryOp .Not a pos) (tNot tt) (mNotT mt) := ⟨ha.k, pt_not ha.p, sd_notT ha.s⟩
theorem jw_and1 (ha : JT K E X a tt mt) : JW K E X (.BoolOp .And [a] pos) tt mt := ⟨ha.k, pw_and1 ha.p, ha.s⟩
theorem jw_or1 (ha : JT K E X a tt mt) : JW K E X (.BoolOp .Or [a] pos) tt mt := ⟨ha.k, pw_or1 ha.p, ha.s⟩
theorem jw_and (ha : JT K E X a tt mt) (hb : JW K E X (.BoolOp .And (b :: rest) pos) tu mu) : JW K E X (.BoolOp .And (a :: b :: rest) pos) (tAnd tt tu) (mAndT mt mu) := ⟨ha.k, pw_and ha.p hb.p, sd_andT ha.s hb.s⟩
theorem jw_or (ha : JT K E X a tt mt) (hb : JW K E X (.BoolOp .Or (b :: rest) pos) tu mu) : JW K E X (.BoolOp .Or (a :: b :: rest) pos) (tOr tt tu) (mOrT mt mu) := ⟨ha.k, pw_or ha.p hb.p, sd_orT ha.s hb.s⟩
theorem JW.jt (h : JW K E X a tt mt) : JT K E X a tt mt := ⟨h.k, h.p.pt, h.s⟩
theorem je_not (ha : JE K E X a ta ma) : JE K E X (.UnaryOp .Not a pos) (tNotT K ta) (mNot ma) := by
  obtain ⟨hK, hp, hs⟩ := ha
  subst hK
  exact ⟨rfl, pe_notT hp, sd_not hs⟩
theorem je_one {op} (ha : JE K E X a ta ma) : JE K E X (.BoolOp op [a] pos) ta ma := ⟨ha.k, pe_one ha.p, ha.s⟩
theorem je_and (ha : JE K E X a ta ma) (hb : JE K E X (.BoolOp .And (b :: rest) pos) tb mb) : JE K E X (.BoolOp .And (a :: b :: rest) pos) (tAndT K ta tb) (mAnd ma mb) := by
  obtain ⟨hK, hp, hs⟩ := ha
  subst hK
  exact ⟨rfl, pe_andT hp hb.p, sd_and hs hb.s⟩
theorem je_if (hc : JT K E X c tt mt) (ha : JE K E X a ta ma) (hb : JE K E X b tb mb) : JE K E X (.IfExp c a b pos) (tIf tt ta tb) (mIf mt ma mb) := ⟨ha.k, pe_ifExp hc.p ha.p hb.p, sd_if hc.s ha.s hb.s⟩
/-! arguments, displays -/
theorem ja_nil (hK : X.K = K := by rfl) : JA K E X [] tNil mNil := ⟨hK, pa_nil, sd_nil⟩
theorem ja_cons (ha : JE K E X e ta ma) (hr : JA K E X es t m) (hs : starEach (e :: es) X.env = (false, eval e X.env) :: starEach es X.env := by rfl) : JA K E X (e :: es) (tCons ta t) (mCons ma m) := ⟨ha.k, pa_cons ha.p hr.p hs, sd_cons ha.s hr.s⟩
theorem je_tup {x1} (h : JA K E X es t m) : JE K E X (.Tuple es x1 pos) (tTup t) (mTup m) := ⟨h.k, pe_tup h.p, sd_tup h.s⟩
theorem jf_lst (h : JA K E X es t m) : JF K E X (.List es pos) (tLst t) (mLst m) := ⟨h.k, pe_lst h.p, sf_lst h.s⟩
theorem JF.f {mf : M (List D)} (h : JF K E X e ta mf) : JE K E X e ta (mFrz mf) := ⟨h.k, h.p, sd_frz h.s⟩
theorem JF.o {mf : M (List D)} (h : JF K E X e ta mf) : JE K E X e ta (mOwn mf) := ⟨h.k, h.p, sd_own h.s⟩
/-! subscripts -/
variable {lo hi : Option Expr} {tl th : TO} {ml mh : M (Option Int)} {p2 : Pos}
theorem jo_none (hK : X.K = K := by rfl) : JO K E X none tNoPart mNoPart := ⟨hK, po_none, sd_noPart⟩
theorem jo_some (ha : JE K E X a ta ma) : JO K E X (some a) (tPart ta) (mPart ma) := ⟨ha.k, po_some ha.p, sd_part ha.s⟩
theorem jf_sl (ha : JE K E X a ta ma) (hl : JO K E X lo tl ml) (hh : JO K E X hi th mh) : JF K E X (.Subscript a (.Slice lo hi none p2) pos) (tSl (rSlL K) ta tl th) (mSlL ma ml mh) := by
  obtain ⟨hK, hp, hq⟩ := ha
  subst hK
  exact ⟨rfl, pe_slice sl_list hp hl.p hh.p, sf_slL hq hl.s hh.s⟩
/-! built-ins -/
variable {x : Str} {pn : Pos}
theorem je_bf {id : String} {r : List V → Hp → VK → Prop} {f : List D → AH → R D} (hr : CallR X (.builtin id) r) (hs : CbS K E r f) (hm : X.mg x = none) (ha : JA K E X (e :: es) t m) (hv : bootBuiltins x = some (.builtin id) := by decide +kernel) (hg : Gl X x := by rfl)
    (hn : x ≠ "__name__" := by decide) (hd : (x == ("__debug__" : Str)) = false := by decide) (he : starEach (e :: es) X.env = (false, eval e X.env) :: starEach es X.env := by rfl) (hpl : (backTo pos (starEach es X.env)).any (·.1) = false := by rfl) :
    JE K E X (.Call (.Name x pn) (e :: es) [] pos) (tCB r t) (mCB f m) := ⟨ha.k, pe_callB hr hg hm hv ha.p hn hd he hpl, sd_cb hs ha.s⟩
theorem je_bt {id : String} {r : List V → Hp → VK → Prop} {f : List D → AH → R D} (hr : CallR X (.type id) r) (hs : CbS K E r f) (hm : X.mg x = none) (ha : JA K E X (e :: es) t m) (hv : bootBuiltins x = some (.type id) := by decide +kernel) (hg : Gl X x := by rfl)
    (hn : x ≠ "__name__" := by decide) (hd : (x == ("__debug__" : Str)) = false := by decide) (he : starEach (e :: es) X.env = (false, eval e X.env) :: starEach es X.env := by rfl) (hpl : (backTo pos (starEach es X.env)).any (·.1) = false := by rfl) :
    JE K E X (.Call (.Name x pn) (e :: es) [] pos) (tCB r t) (mCB f m) := ⟨ha.k, pe_callTy hr hg hm hv ha.p hn hd he hpl, sd_cb hs ha.s⟩
theorem jf_bt {id : String} {r : List V → Hp → VK → Prop} {f : List D → AH → R (List D)} (hr : CallR X (.type id) r) (hs : CbF K E r f) (hm : X.mg x = none) (ha : JA K E X (e :: es) t m) (hv : bootBuiltins x = some (.type id) := by decide +kernel) (hg : Gl X x := by rfl)
    (hn : x ≠ "__name__" := by decide) (hd : (x == ("__debug__" : Str)) = false := by decide) (he : starEach (e :: es) X.env = (false, eval e X.env) :: starEach es X.env := by rfl) (hpl : (backTo pos (starEach es X.env)).any (·.1) = false := by rfl) :
    JF K E X (.Call (.Name x pn) (e :: es) [] pos) (tCB r t) (mCBF f m) := ⟨ha.k, pe_callTy hr hg hm hv ha.p hn hd he hpl, sf_cb hs ha.s⟩
/-- what a built-in function does -/
structure JBf (K : PySem.W.Frag) (E : XK) (X : Cx) (v : Value) (r : List V → Hp → VK → Prop) (f : List D → AH → R D) : Prop where
  o : CallR X v r
  s : CbS K E r f
structure JBl (K : PySem.W.Frag) (E : XK) (X : Cx) (v : Value) (r : List V → Hp → VK → Prop) (f : List D → AH → R (List D)) : Prop where
  o : CallR X v r
  s : CbF K E r f
theorem jb_str : JBf K E X (.type "str") (fun xs H Q => ∃ i, xs = [.int i] ∧ i.natAbs.log2 < 1920 ∧ Q (.str (toString i)) H) strD := ⟨call_str_int, cb_str⟩
theorem jb_tuple (hK : X.K = K := by rfl) : JBf K E X (.type "tuple") (fun xs H Q => ∃ p ys, xs = [.ref p] ∧ ((SqL K H p ys ∧ ∀ l, H l = none → Q (.ref l) (upd H l (.tup ys))) ∨ (SqT K H p ys ∧ Q (.ref p) H))) tupleD := by subst hK; exact ⟨call_tuple_of, cb_tuple⟩
theorem jb_all (hc : X.calm = true := by rfl) (hK : X.K = K := by rfl) : JBf K E X (.builtin "all") (rAll K) (allD false) := by subst hK; exact ⟨cr_all hc, cb_all⟩
theorem jb_isi (hK : X.K = K := by rfl) : JBf K E X (.builtin "isinstance") (rIsi K) isiD := by subst hK; exact ⟨call_isi, cb_isi⟩
theorem je_b {id : String} {r : List V → Hp → VK → Prop} {f : List D → AH → R D} (h : JBf K E X (.builtin id) r f) (hm : X.mg x = none) (ha : JA K E X (e :: es) t m) (hv : bootBuiltins x = some (.builtin id) := by decide +kernel) (hg : Gl X x := by rfl)
    (hn : x ≠ "__name__" := by decide) (hd : (x == ("__debug__" : Str)) = false := by decide) (he : starEach (e :: es) X.env = (false, eval e X.env) :: starEach es X.env := by rfl) (hpl : (backTo pos (starEach es X.env)).any (·.1) = false := by rfl) :
    JE K E X (.Call (.Name x pn) (e :: es) [] pos) (tCB r t) (mCB f m) := je_bf h.o h.s hm ha hv hg hn hd he hpl
theorem je_t {id : String} {r : List V → Hp → VK → Prop} {f : List D → AH → R D} (h : JBf K E X (.type id) r f) (hm : X.mg x = none) (ha : JA K E X (e :: es) t m) (hv : bootBuiltins x = some (.type id) := by decide +kernel) (hg : Gl X x := by rfl)
    (hn : x ≠ "__name__" := by decide) (hd : (x == ("__debug__" : Str)) = false := by decide) (he : starEach (e :: es) X.env = (false, eval e X.env) :: starEach es X.env := by rfl) (hpl : (backTo pos (starEach es X.env)).any (·.1) = false := by rfl) :
    JE K E X (.Call (.Name x pn) (e :: es) [] pos) (tCB r t) (mCB f m) := je_bt h.o h.s hm ha hv hg hn hd he hpl
theorem jf_t {id : String} {r : List V → Hp → VK → Prop} {f : List D → AH → R (List D)} (h : JBl K E X (.type id) r f) (hm : X.mg x = none) (ha : JA K E X (e :: es) t m) (hv : bootBuiltins x = some (.type id) := by decide +kernel) (hg : Gl X x := by rfl)
    (hn : x ≠ "__name__" := by decide) (hd : (x == ("__debug__" : Str)) = false := by decide) (he : starEach (e :: es) X.env = (false, eval e X.env) :: starEach es X.env := by rfl) (hpl : (backTo pos (starEach es X.env)).any (·.1) = false := by rfl) :
    JF K E X (.Call (.Name x pn) (e :: es) [] pos) (tCB r t) (mCBF f m) := jf_bt h.o h.s hm ha hv hg hn hd he hpl
/-! methods of lists -/
variable {name : Str} {apos : Pos}
structure JM (K : PySem.W.Frag) (E : XK) (X : Cx) (T id : String) (r : V → List V → Hp → VK → Prop) (ok : D → AH → Bool) (f : D → List D → AH → R D) : Prop where
  o : MtR X id r
  s : MtS K E T r ok f
theorem jm_append : JM K E X "list" "list.append" rAppend isLoc appendD := ⟨mt_append, mt_appendU⟩
theorem jm_pop : JM K E X "list" "list.pop" rPop isLoc popD := ⟨mt_pop, mt_popU⟩
theorem je_m {T id : String} {r : V → List V → Hp → VK → Prop} {ok : D → AH → Bool} {f : D → List D → AH → R D} (pa : PlainAttrs T) (slot : Slot T name id) (hty : typeOf (.builtin id) = pure (.type "method_descriptor")) (h : JM K E X T id r ok f) (ho : JE K E X a ta ma) (hA : JA K E X (e :: es) t m)
    (hbase : attributeBase a name X.env (eval a X.env) = eval a X.env := by rfl)
    (hfew : ((backTo pos (starEach (e :: es) X.env)).all (fun x => !x.1) && (backToKw pos (keywordEach [] X.env)).all (fun x => x.1.isSome) && decide ((e :: es).length + ([] : List Keyword).length + (if ([] : List Keyword).isEmpty then 0 else 1) < 30)) = true := by rfl)
    (hline : (apos.endLine == pos.line) = true := by rfl) (hs : starEach (e :: es) X.env = (false, eval e X.env) :: starEach es X.env := by rfl) (hplain : (backTo pos (starEach es X.env)).any (·.1) = false := by rfl) :
    JE K E X (.Call (.Attribute a name apos) (e :: es) [] pos) (tBM K T r ta t) (mMethT ok f ma m) := by
  obtain ⟨hK, hp, hq⟩ := ho
  subst hK
  exact ⟨rfl, pe_bm pa slot hty h.o hp hA.p hbase hfew hline hs hplain, sd_meth h.s hq hA.s⟩
theorem je_m0 {T id : String} {r : V → List V → Hp → VK → Prop} {ok : D → AH → Bool} {f : D → List D → AH → R D} (pa : PlainAttrs T) (slot : Slot T name id) (hty : typeOf (.builtin id) = pure (.type "method_descriptor")) (h : JM K E X T id r ok f) (ho : JE K E X a ta ma)
    (hbase : attributeBase a name X.env (eval a X.env) = eval a X.env := by rfl) (hline : (apos.endLine == pos.line) = true := by rfl) : JE K E X (.Call (.Attribute a name apos) [] [] pos) (tBM0 K T r ta) (mMethT0 ok f ma) := by
  obtain ⟨hK, hp, hq⟩ := ho
  subst hK
  exact ⟨rfl, pe_bm0 pa slot hty h.o hp hbase hline, sd_meth0 h.s hq⟩
/-! own defs -/
/-- a def of the text as a caller wants it -/
structure Cal (P : Program) (w : World) (K : PySem.W.Frag) (mg : Str → Option Value) (base : Heap) (k : Nat) (x : Str) (ps : List Str) (F : Fn) (st : Stmt) : Prop where
  ex : ∃ f fd, FnG P w K mg base CX0 k f fd ps (spD K ps.length F) ∧ mg x = some (.ref f) ∧ PySem.W.keepIn K (.ref f) = true ∧ Binds K fd ps [] ∧ ∃ q, FunD K q q (defArgs st) (defBody st) (defScope st) [] [] f fd
variable {k : Nat} {ps : List Str} {F : Fn} {st : Stmt}
/-- keywords put into the parameters' order: the places among positional values, then keywords -/
def permL {α : Type} (n m : Nat) (ix : List Nat) (d : α) (us ws : List α) : List α := if us.length = n ∧ ws.length = m then ix.map (fun i => (us ++ ws).getD i d) else []
variable {kws : List Keyword} {tk : TA} {mk : M (List D)} {nm : Option Str} {kpos : Pos}
/-! what is walked -/
variable {tg : Expr}
def miRng1 (m : M (List D)) : MI := fun env h => (m env h).bind fun ds h1 => match ds with
    | [.int j] => if InW j then .ok (.items (rngD 0 j)) h1 else .bad
    | _ => .bad
def miRng2 (m : M (List D)) : MI := fun env h => (m env h).bind fun ds h1 => match ds with
    | [.int i, .int j] => if InW i ∧ InW j then .ok (.items (rngD i j)) h1 else .bad
    | _ => .bad
theorem ji_rng1 (hm : X.mg "range" = none) (ha : JA K E X [a] t m) (hg : Gl X "range" := by rfl) (hs : starEach [a] X.env = [(false, eval a X.env)] := by rfl) : JI K E X tg (.Call (.Name "range" pn) [a] [] pos) (iRng1 t) (miRng1 m) := ⟨ha.k, pi_range1 hg hm ha.p hs, si_rng1 ha.s⟩
theorem ji_rng2 (hm : X.mg "range" = none) (ha : JA K E X [a, b] t m) (hg : Gl X "range" := by rfl) (hs : starEach [a, b] X.env = [(false, eval a X.env), (false, eval b X.env)] := by rfl) (hs2 : starEach [b] X.env = [(false, eval b X.env)] := by rfl) :
    JI K E X tg (.Call (.Name "range" pn) [a, b] [] pos) (iRng2 t) (miRng2 m) := ⟨ha.k, pi_range2 hg hm ha.p hs hs2, si_rng2 ha.s⟩
/-! targets -/
theorem jg_n (i : Nat) {x : Str} (hN : X.N.Nodup) (hi : X.N[i]? = some x := by rfl) (hx : Loc X.env.scope x := by first | exact Or.inl rfl | exact Or.inr rfl) (hf : X.fn x = true ∨ X.env.scope.names.lookup x = some .local := by first | exact .inl rfl | exact .inr rfl) (hK : X.K = K := by rfl) :
    JG K E X (.Name x pos) (gName i) (mgName i) := ⟨hK, pg_name hN hi hx hf, sg_name⟩
variable {g : TG} {gs : TGs} {mg : MG} {mgs : List D → En → AH → R En}
theorem jgs_nil (hK : X.K = K := by rfl) : JGs K E X [] gNil mgNil := ⟨hK, pgs_nil, sg_nil⟩
theorem jgs_cons (ha : JG K E X e g mg) (hr : JGs K E X es gs mgs) (hs : (assignEach (e :: es) X.env).map (·.2) = assign e X.env :: (assignEach es X.env).map (·.2) := by rfl) : JGs K E X (e :: es) (gCons g gs) (mgCons mg mgs) := ⟨ha.k, pgs_cons ha.p hr.p hs, sg_cons ha.s hr.s⟩
/-! statements -/
variable {sts sts2 : List Stmt} {s0 : Stmt} {ts tu2 : TS} {ms mu2 : MS}
theorem jss_nil (hK : X.K = K := by rfl) : JSs K E X [] tNext mNext := ⟨hK, pss_nil, ss_next⟩
theorem jss_one (h : JS K E X s0 ts ms) : JSs K E X [s0] ts ms := ⟨h.k, pss_one h.p, h.s⟩
theorem jss_cons (h : JS K E X s0 ts ms) (hr : JSs K E X sts tu2 mu2) : JSs K E X (s0 :: sts) (tSeq ts tu2) (mSeq ms mu2) := ⟨h.k, pss_cons h.p hr.p, ss_seq h.s hr.s⟩
theorem js_expr (h : JE K E X e ta ma) (hs : swapsWith e none pos.line X.env = pure false := by rfl) : JS K E X (.Expr e pos) (tDrop ta) (mDrop ma) := ⟨h.k, ps_expr h.p hs, ss_drop h.s⟩
theorem js_ret (h : JE K E X e ta ma) : JS K E X (.Return (some e) pos) (tRet ta) (mRet ma) := ⟨h.k, ps_ret h.p, ss_ret h.s⟩
theorem js_if (hc : JT K E X c tt mt) (ha : JSs K E X sts ts ms) (hb : JSs K E X sts2 tu2 mu2) : JS K E X (.If c sts sts2 pos) (tIfS tt ts tu2) (mIfS mt ms mu2) := ⟨hc.k, ps_if hc.p ha.p hb.p, ss_if hc.s ha.s hb.s⟩
theorem js_never (hK : X.K = K := by rfl) : JS K E X s0 tNever (fun _ _ => .bad) := ⟨hK, ps_never, ss_never⟩
theorem js_set (i : Nat) {x : Str} (hN : X.N.Nodup) (he : JE K E X e ta ma) (hi : X.N[i]? = some x := by rfl) (hx : Loc X.env.scope x := by first | exact Or.inl rfl | exact Or.inr rfl) (hs : swapsWith e (some (.Name x pos')) pos.line X.env = pure false := by rfl)
    (hf : X.fn x = true ∨ X.env.scope.names.lookup x = some .local := by first | exact .inl rfl | exact .inr rfl) : JS K E X (.Assign [.Name x pos'] e pos) (tAsg ta (gName i)) (mAsg ma (mgName i)) := ⟨he.k, ps_set hN hi hx he.p hs hf, ss_asg he.s sg_name⟩
theorem js_asg (he : JE K E X e ta ma) (hg : JG K E X tg g mg) (hs : swapsWithSole [tg] e pos.line X.env = pure false := by rfl) (hw : swappedStores [tg] e X.env = pure none := by rfl) (h1 : (assignEach [tg] X.env).map (·.2) = [assign tg X.env] := by rfl) :
    JS K E X (.Assign [tg] e pos) (tAsg ta g) (mAsg ma mg) := ⟨he.k, ps_asg he.p hg.p hs hw h1, ss_asg he.s hg.s⟩
theorem js_par (i j : Nat) {x y : Str} {px py pt pt2 : Pos} {kt k2 : Nat} (hN : X.N.Nodup) (ha : JA K E X [a, b] t m) (hi : X.N[i]? = some x := by rfl) (hj : X.N[j]? = some y := by rfl) (hij : i ≠ j := by decide) (hx : X.env.scope.names.lookup x = some .local := by rfl) (hy : X.env.scope.names.lookup y = some .local := by rfl)
    (hc : X.calm = true := by rfl) (hw : swappedStores [.Tuple [.Name x px, .Name y py] kt pt] (.Tuple [a, b] k2 pt2) X.env = pure (some [x, y]) := by rfl) (hs : swapsWithSole [.Tuple [.Name x px, .Name y py] kt pt] (.Tuple [a, b] k2 pt2) pos.line X.env = pure false := by rfl) :
    JS K E X (.Assign [.Tuple [.Name x px, .Name y py] kt pt] (.Tuple [a, b] k2 pt2) pos) (tPar i j t) (mPar i j m) := ⟨ha.k, ps_par hc hN hi hj hij hx hy ha.p hw hs, ss_par ha.s⟩
theorem js_aug (i : Nat) {x : Str} {op : Operator} {r : TIp} {f : D → D → AH → R D} (hN : X.N.Nodup) (ho : PIp X op r) (hs : OpS K E r f) (he : JE K E X e ta ma) (hi : X.N[i]? = some x := by rfl) (hx : Loc X.env.scope x := by first | exact Or.inl rfl | exact Or.inr rfl)
    (hf : X.fn x = true ∨ X.env.scope.names.lookup x = some .local := by first | exact .inl rfl | exact .inr rfl) : JS K E X (.AugAssign (.Name x pos') op e pos) (tAug i ta r) (mAug i f ma) := ⟨he.k, ps_aug hN hi hx he.p ho hf, ss_aug he.s hs⟩
def addI : D → D → AH → R D
  | .int i, .int j, h => .ok (.int (i + j)) h
  | _, _, _ => .bad
theorem os_addI : OpS K E (ipI fun i j => i + j) addI := fun ρ P H h x y dx dy s wx wy Q p => by
  cases wx with
  | int i =>
    cases wy with
    | int j => exact ⟨i, j, rfl, rfl, Post.here p s (.int _)⟩
    | _ => exact p.elim
  | _ => exact p.elim
theorem js_augAdd (i : Nat) {x : Str} (hN : X.N.Nodup) (he : JE K E X e ta ma) (hi : X.N[i]? = some x := by rfl) (hx : Loc X.env.scope x := by first | exact Or.inl rfl | exact Or.inr rfl)
    (hf : X.fn x = true ∨ X.env.scope.names.lookup x = some .local := by first | exact .inl rfl | exact .inr rfl) : JS K E X (.AugAssign (.Name x pos') .Add e pos) (tAug i ta (ipI fun i j => i + j)) (mAug i addI ma) := js_aug i hN ip_add os_addI he hi hx hf
theorem js_while (n : Nat) (hc : JT K E X c tt mt) (hb : JSs K E X sts ts ms) (hp : PassesOwn (model X.prog X.w) X.A X.env X.xe := by exact PassesOwn.never) : JS K E X (.While c sts [] pos) (tWhile tt ts) (mWhile mt ms n) := ⟨hc.k, ps_while hp hc.p hb.p, ss_while hc.s hb.s n⟩
variable {w : TI} {mi : MI}
theorem js_for (hi : JI K E X tg e w mi) (hg : JG K E X tg g mg) (hb : JSs K E X sts ts ms) (hc : X.calm = true := by rfl) (hp : PassesOwn (model X.prog X.w) X.A X.env X.xe := by exact PassesOwn.never) (hs : ∀ x, foldedSetIterable e X.env x = pure x := by intro _; rfl) :
    JS K E X (.For tg e sts [] pos) (tFor w g ts) (mFor mi mg ms) := ⟨hi.k, ps_for hp hc hi.p hg.p hb.p hs, ss_for hi.s hg.s hb.s⟩
/-! comprehensions -/
theorem jts_nil (hK : X.K = K := by rfl) : JTs K E X [] tYes (fun _ h => .ok true h) := ⟨hK, pts_nil, sd_yes⟩
theorem jts_one (h : JT K E X c tt mt) : JTs K E X [c] tt mt := ⟨h.k, pts_one h.p, h.s⟩
variable {elt iter : Expr} {ifs : List Expr} {scope : Scope} {own : List (Str × Nat)} {te : TE} {me : M D}
theorem jf_lc (hN : X.N.Nodup) (hi : JI K E X tg iter w mi) (ok : BlkOk X.N X.env.scope scope own) (hv : GW (own.map (·.2)) g)
    (hg : ∀ (s : Shared) (H : Hp) (C : Addr) (cl : List (Str × Addr)) (fp : List Addr), JG K E (X.blk s H scope (compEnvC scope cl C X.env) fp) tg g mg) (ht : ∀ (s : Shared) (H : Hp) (C : Addr) (cl : List (Str × Addr)) (fp : List Addr), JTs K E (X.blk s H scope (compEnvC scope cl C X.env) fp) ifs tt mt)
    (he : ∀ (s : Shared) (H : Hp) (C : Addr) (cl : List (Str × Addr)) (fp : List Addr), JE K E (X.blk s H scope (compEnvC scope cl C X.env) fp) elt te me) (hc : X.calm = true := by rfl) (hs : ∀ x, foldedSetIterable iter X.env x = pure x := by intro _; rfl) :
    JF K E X (.ListComp elt [⟨tg, iter, ifs, 0⟩] scope pos) (tLc w g tt te (own.map (·.2))) (mLc mi mg mt me (own.map (·.2))) := by
  have hg0 := hg X.s_0 X.H_0 default [] []
  have ht0 := ht X.s_0 X.H_0 default [] []
  have he0 := he X.s_0 X.H_0 default [] []
  exact ⟨hi.k, pe_lc hc hN hi.p ok (fun s H C cl fp => (hg s H C cl fp).p) (fun s H C cl fp => (ht s H C cl fp).p) (fun s H C cl fp => (he s H C cl fp).p) hs, sf_lc hi.s hg0.s hv ht0.s he0.s⟩
theorem js_setLc (i : Nat) {y : Str} {py spos : Pos} (hN : X.N.Nodup) (hi : JI K E X tg iter w mi) (ok : BlkOk X.N X.env.scope scope own) (hv : GW (own.map (·.2)) g)
    (hg : ∀ (s : Shared) (H : Hp) (C : Addr) (cl : List (Str × Addr)) (fp : List Addr), JG K E (X.blk s H scope (compEnvC scope cl C X.env) fp) tg g mg) (ht : ∀ (s : Shared) (H : Hp) (C : Addr) (cl : List (Str × Addr)) (fp : List Addr), JTs K E (X.blk s H scope (compEnvC scope cl C X.env) fp) ifs tt mt)
    (he : ∀ (s : Shared) (H : Hp) (C : Addr) (cl : List (Str × Addr)) (fp : List Addr), JE K E (X.blk s H scope (compEnvC scope cl C X.env) fp) elt te me)
    (hsw : swapsWith (.ListComp elt [⟨tg, iter, ifs, 0⟩] scope pos) (some (.Name y py)) spos.line X.env = pure true) (hy : X.N[i]? = some y := by rfl) (hyl : X.env.scope.names.lookup y = some .local := by rfl) (hc : X.calm = true := by rfl) (hs : ∀ x, foldedSetIterable iter X.env x = pure x := by intro _; rfl) :
    JS K E X (.Assign [.Name y py] (.ListComp elt [⟨tg, iter, ifs, 0⟩] scope pos) spos) (tAsg (tLc w g tt te (own.map (·.2))) (gName i)) (mAsg (mFrz (mLc mi mg mt me (own.map (·.2)))) (mgName i)) := by
  have h := jf_lc (pos := pos) hN hi ok hv hg ht he hc hs
  exact ⟨hi.k, ps_setLc hc hN hy hyl hsw hi.p ok (fun s H C cl fp => (hg s H C cl fp).p) (fun s H C cl fp => (ht s H C cl fp).p) (fun s H C cl fp => (he s H C cl fp).p) hs, ss_asg h.f.s sg_name⟩
end
end Ab

/-! Calls whose values hold nothing mutable: computed over the empty heap, the caller's heap stays. -/
namespace Ab
open PySem PySem.Spec L2
section
variable {K : PySem.W.Frag} {E : XK} {ρ ρ' ρ1 : Ro} {P H P' H' P1 H1 : Hp}
/-- what a def computes over nothing, told over h -/
def overD (h : AH) : R D → R D
  | .ok d _ => if below 0 d = true then .ok d h else .bad
  | .exc x fs _ => if belowL 0 (fs.map (·.2)) = true then .exc x fs h else .bad
  | .bad => .bad
def callP (n : Nat) (F : Fn) (ds : List D) (h : AH) : R D := if ds.length = n ∧ belowL 0 ds = true then overD h (F ds []) else .bad
def mCallP (n : Nat) (F : Fn) (m : M (List D)) : M D := fun env h => (m env h).bind (callP n F)
def mCallKP (n : Nat) (F : Fn) (g : List D → List D → List D) (m mk : M (List D)) : M D := fun env h => (m env h).bind fun ds h1 => (mk env h1).bind fun es h2 => callP n F (g ds es) h2
theorem step_over {h h' : AH} (s : SR K ρ P H h) (t : Step (cutR 0 ρ) P H ρ' P' H') (s' : SR K ρ' P' H' h') : Step ρ P H ρ P' H' ∧ SR K ρ P' H' h := by
  have n0 : ∀ a, NoR (cutR 0 ρ) a := fun a n e => by
    have e : (if n < 0 then ρ n else none) = some a := e
    rw [if_neg (Nat.not_lt_zero n)] at e
    cases e
  have newp : ∀ a, P a = none → ((∃ n, ρ n = some a) ∨ ∃ u, H a = some u ∧ noTup u = true) → P' a = none := fun a e z => t.newp a e (.inr (by
    rcases z with ⟨n, en⟩ | z
    · obtain ⟨o, _, r⟩ := s.here en
      exact r.own
    · exact z))
  have st : Step ρ P H ρ P' H' := ⟨fun _ _ e => e, t.pure, fun n a e e' => (by rw [e] at e'; cases e'), newp, fun a o e _ w => t.keep a o e (n0 a) w, t.there⟩
  refine ⟨st, s'.sub, s'.subD, fun n a e => ?_, s.inj, fun n o e => ?_, s.dom⟩
  · exact st.noP (s.apart n a e) (.inl ⟨n, e⟩)
  · obtain ⟨a, e1, r⟩ := s.obj n o e
    exact ⟨a, e1, r.up (fun _ _ e => e) t.pure fun o e => t.keep a o e (n0 a) (.inl (s.apart n a e1))⟩
theorem none_up : ∀ n a, cutR 0 ρ' n = some a → ρ n = some a := fun n a e => by
  have e : (if n < 0 then ρ' n else none) = some a := e
  rw [if_neg (Nat.not_lt_zero n)] at e
  cases e
theorem post_over {h : AH} (s : SR K ρ P H h) {Q : VK} : ∀ {r : R D}, Post K (RV K) E ρ P H Q (overD h r) → Post K (RV K) E (cutR 0 ρ) P H Q r
  | .bad, p => p
  | .exc x fs h', p => by
    intro ρ' P' H' dd t s' rx
    have p : Post K (RV K) E ρ P H Q (if belowL 0 (fs.map (·.2)) = true then .exc x fs h else .bad) := p
    split at p
    · rename_i hb
      obtain ⟨st, sr⟩ := step_over s t s'
      refine p _ P' H' dd st sr ?_
      rcases rx with z | ⟨da, fvs, e1, e2, e3, r⟩
      · exact .inl z
      · exact .inr ⟨da, fvs, e1, e2, e3, (r.cut hb).up none_up (fun _ _ e => e)⟩
    · exact p.elim
  | .ok d h', p => by
    intro ρ' P' H' v t s' w
    have p : Post K (RV K) E ρ P H Q (if below 0 d = true then .ok d h else .bad) := p
    split at p
    · rename_i hd
      obtain ⟨st, sr⟩ := step_over s t s'
      exact p _ P' H' v st sr ((w.cut hd).up none_up (fun _ _ e => e))
    · exact p.elim
theorem sp_over {n : Nat} {F : Fn} {ds : List D} {vs : List V} {h : AH} (s : SR K ρ P H h) (w : RepL K ρ P ds vs) {Q : VK} (p : Post K (RV K) E ρ P H Q (callP n F ds h)) : spD K n F vs H Q E := by
  unfold callP at p
  split at p
  · rename_i hl
    have sc := s.cut (h' := h) (n := 0) (by simp)
    exact ⟨by rw [w.length]; exact hl.1, cutR 0 ρ, P, [], ds, sc, w.cut hl.2, post_over s p⟩
  · exact p.elim
theorem sd_callP {n : Nat} {F : Fn} {t : TA} {m : M (List D)} (ha : Sd K (RVs K) E t m) : Sd K (RV K) E (tCall (spD K n F) [] E t) (mCallP n F m) := fun ρ P σ H env h s re Q p =>
  ha ρ P σ H env h s re _ (Post.bind p fun a h1 ρ1 P1 H1 v t1 s1 w1 p1 => by
    show spD K n F (v ++ []) H1 Q E
    rw [List.append_nil]
    exact sp_over s1 w1 p1)
variable {X : Cx} {k : Nat} {x : Str} {ps ks : List Str} {F : Fn} {st : Stmt} {e : Expr} {es : List Expr} {t tk : TA} {m mk : M (List D)} {pn pos : Pos} {kws : List Keyword} {l n N : Nat}
theorem je_callP (G : Cal X.prog X.w K X.mg X.base k x ps F st) (hr : Room k X.A) (hgu : X.A.guards = some []) (ha : JA K E X (e :: es) t m) (hn : ps.length = n := by rfl) (hx : Passes CX0 X E := by exact pass0) (hg : Gl X x := by rfl)
    (hdb : (x == ("__debug__" : Str)) = false := by decide) (he : starEach (e :: es) X.env = (false, eval e X.env) :: starEach es X.env := by rfl) (hpl : (backTo pos (starEach es X.env)).any (·.1) = false := by rfl) :
    JE K E X (.Call (.Name x pn) (e :: es) [] pos) (tCall (spD K n F) [] E t) (mCallP n F m) := by
  obtain ⟨hK, hp, hq⟩ := ha
  subst hK
  subst hn
  obtain ⟨f, fd, G, hm, hk, hb, _⟩ := G.ex
  exact ⟨rfl, pe_callG G hr hgu hg hm hk hb hx hp hdb he hpl, sd_callP hq⟩
end
end Ab

/-! Dicts whose keys are flat tuples. -/
namespace Ab
open PySem PySem.Spec L2
section
variable {K : PySem.W.Frag} {E : XK} {ρ ρ' ρ1 : Ro} {P H P' H' P1 H1 : Hp}
def keyD : D → Option Key
  | .int i => some (.inl i)
  | .str x => some (.inr x)
  | _ => none
def keyL : List D → Option (List Key)
  | [] => some []
  | d :: ds => match keyD d, keyL ds with
    | some k, some ks => some (k :: ks)
    | _, _ => none
theorem keyD_ok {d : D} {v : V} {k : Key} (r : Rep K ρ P d v) (e : keyD d = some k) : v = kV k := by
  cases r <;> simp [keyD] at e
  · subst e; rfl
  · subst e; rfl
theorem keyL_ok : ∀ {ds : List D} {vs : List V} {ks : List Key}, RepL K ρ P ds vs → keyL ds = some ks → vs = ks.map kV
  | [], _, ks, r, e => by cases r; simp [keyL] at e; subst e; rfl
  | d :: ds, _, ks, r, e => by
    cases r with
    | cons a b =>
      unfold keyL at e
      cases q : keyD d with
      | none => rw [q] at e; cases e
      | some k =>
        cases q2 : keyL ds with
        | none => rw [q, q2] at e; cases e
        | some ks2 =>
          rw [q, q2] at e
          cases e
          rw [keyD_ok a q, keyL_ok b q2]; rfl
def keyT (d : D) : Option (List Key) := match d with
  | .tup ds => keyL ds
  | _ => none
theorem keyT_ok {h : AH} {d : D} {v : V} {ks : List Key} (s : SR K ρ P H h) (r : Rep K ρ P d v) (e : keyT d = some ks) : ∃ b, v = .ref b ∧ H b = some (.tup (ks.map kV)) := by
  cases r with
  | tup q w => exact ⟨_, rfl, by rw [← keyL_ok w e]; exact s.sub _ _ q rfl⟩
  | _ => cases e
def keyEq1 : Key → Key → Bool
  | .inl (.ofNat a), .inl (.ofNat b) => Nat.beq a b
  | .inl (.negSucc a), .inl (.negSucc b) => Nat.beq a b
  | .inr a, .inr b => decide (a = b)
  | _, _ => false
def keyEq : List Key → List Key → Bool
  | [], [] => true
  | a :: r, b :: s => match keyEq1 a b with
    | true => keyEq r s
    | false => false
  | _, _ => false
theorem keyEq1_is (a b : Key) : keyEq1 a b = decide (a = b) := by
  cases a with
  | inl a =>
    cases b with
    | inl b =>
      cases a with
      | ofNat a => cases b with
        | ofNat b => by_cases z : a = b
                     · subst z; simp [keyEq1]
                     · have : Nat.beq a b = false := by rw [Bool.eq_false_iff]; exact fun y => z (Nat.eq_of_beq_eq_true y)
                       simp only [keyEq1, this]
                       exact (decide_eq_false fun y => z (by cases y; rfl)).symm
        | negSucc b => simp [keyEq1]
      | negSucc a => cases b with
        | ofNat b => simp [keyEq1]
        | negSucc b => by_cases z : a = b
                       · subst z; simp [keyEq1]
                       · have : Nat.beq a b = false := by rw [Bool.eq_false_iff]; exact fun y => z (Nat.eq_of_beq_eq_true y)
                         simp only [keyEq1, this]
                         exact (decide_eq_false fun y => z (by cases y; rfl)).symm
    | inr b => cases a <;> simp [keyEq1]
  | inr a =>
    cases b with
    | inl b => cases b <;> simp [keyEq1]
    | inr b => simp [keyEq1]
theorem keyEq_is : ∀ a b : List Key, keyEq a b = decide (a = b)
  | [], [] => by simp [keyEq]
  | [], _ :: _ => by simp [keyEq]
  | _ :: _, [] => by simp [keyEq]
  | a :: r, b :: s => by
    have ih := keyEq_is r s
    simp only [keyEq, keyEq1_is]
    by_cases z : a = b
    · subst z; simp [ih]
    · simp [z]
def fGet (kvs : List (List Key × D)) (k : List Key) : Option D := (kvs.find? fun kv => keyEq kv.1 k).map (·.2)
def fPut (kvs : List (List Key × D)) (k : List Key) (v : D) : List (List Key × D) :=
  if (kvs.any fun kv => keyEq kv.1 k) = true then kvs.map (fun kv => match keyEq kv.1 k with
    | true => (kv.1, v)
    | false => kv) else kvs ++ [(k, v)]
theorem fGet_is {kvs : List (List Key × D)} {k : List Key} : fGet kvs k = (kvs.find? fun kv => decide (kv.1 = k)).map (·.2) := by
  unfold fGet
  simp only [keyEq_is]
theorem fPut_is {kvs : List (List Key × D)} {k : List Key} {v : D} : fPut kvs k v = if (kvs.any fun kv => decide (kv.1 = k)) = true then kvs.map (fun kv => if kv.1 = k then (kv.1, v) else kv) else kvs ++ [(k, v)] := by
  have e : (fun kv : List Key × D => match keyEq kv.1 k with
    | true => (kv.1, v)
    | false => kv) = (fun kv => if kv.1 = k then (kv.1, v) else kv) := by
    funext kv
    rw [keyEq_is]
    by_cases z : kv.1 = k
    · rw [decide_eq_true z, if_pos z]
    · rw [decide_eq_false z, if_neg z]
  unfold fPut
  rw [e]
  simp only [keyEq_is]
theorem get_rel {k : List Key} : ∀ {kvs : List (List Key × D)} {kws : List (List Key × V)}, kws.map (·.1) = kvs.map (·.1) → RepL K ρ P (kvs.map (·.2)) (kws.map (·.2)) →
    (fGet kvs k = none ∧ valV kws k = none) ∨ ∃ d v, fGet kvs k = some d ∧ valV kws k = some v ∧ Rep K ρ P d v
  | [], [], _, _ => .inl ⟨rfl, rfl⟩
  | [], _ :: _, e, _ => by cases e
  | _ :: _, [], e, _ => by cases e
  | p :: kvs, q :: kws, e, r => by
    simp only [List.map_cons, List.cons.injEq] at e
    simp only [List.map_cons] at r
    cases r with
    | cons a b =>
      by_cases z : p.1 = k
      · have z2 : q.1 = k := by rw [e.1]; exact z
        exact .inr ⟨p.2, q.2, by simp [fGet_is, z], by simp [valV, z2], a⟩
      · have z2 : ¬ q.1 = k := by rw [e.1]; exact z
        rcases get_rel (k := k) e.2 b with ⟨h1, h2⟩ | ⟨d, v, h1, h2, h3⟩
        · refine .inl ⟨?_, ?_⟩
          · simpa [fGet_is, z] using h1
          · simpa [valV, z2] using h2
        · refine .inr ⟨d, v, ?_, ?_, h3⟩
          · simpa [fGet_is, z] using h1
          · simpa [valV, z2] using h2
theorem any_rel {k : List Key} {kvs : List (List Key × D)} {kws : List (List Key × V)} (e : kws.map (·.1) = kvs.map (·.1)) : (kws.any fun kv => decide (kv.1 = k)) = (kvs.any fun kv => decide (kv.1 = k)) := by
  have h1 : (kws.any fun kv => decide (kv.1 = k)) = ((kws.map (·.1)).any fun x => decide (x = k)) := by rw [List.any_map]; rfl
  have h2 : (kvs.any fun kv => decide (kv.1 = k)) = ((kvs.map (·.1)).any fun x => decide (x = k)) := by rw [List.any_map]; rfl
  rw [h1, h2, e]
theorem repl_rel {k : List Key} {d : D} {v : V} (rd : Rep K ρ P d v) : ∀ {kvs : List (List Key × D)} {kws : List (List Key × V)}, kws.map (·.1) = kvs.map (·.1) → RepL K ρ P (kvs.map (·.2)) (kws.map (·.2)) →
    (kws.map fun kv => if kv.1 = k then (kv.1, v) else kv).map (·.1) = (kvs.map fun kv => if kv.1 = k then (kv.1, d) else kv).map (·.1) ∧ RepL K ρ P ((kvs.map fun kv => if kv.1 = k then (kv.1, d) else kv).map (·.2)) ((kws.map fun kv => if kv.1 = k then (kv.1, v) else kv).map (·.2))
  | [], [], _, _ => ⟨rfl, .nil⟩
  | [], _ :: _, e, _ => by cases e
  | _ :: _, [], e, _ => by cases e
  | p :: kvs, q :: kws, e, r => by
    simp only [List.map_cons, List.cons.injEq] at e
    simp only [List.map_cons] at r
    cases r with
    | cons a b =>
      obtain ⟨h1, h2⟩ := repl_rel (k := k) rd e.2 b
      by_cases z : p.1 = k
      · have z2 : q.1 = k := by rw [e.1]; exact z
        simp only [List.map_cons, z, z2, if_true]
        exact ⟨by rw [h1], .cons rd h2⟩
      · have z2 : ¬ q.1 = k := by rw [e.1]; exact z
        simp only [List.map_cons, z, z2, if_false]
        exact ⟨by rw [h1, e.1], .cons a h2⟩
theorem put_rel {k : List Key} {d : D} {v : V} (rd : Rep K ρ P d v) {kvs : List (List Key × D)} {kws : List (List Key × V)} (e : kws.map (·.1) = kvs.map (·.1)) (r : RepL K ρ P (kvs.map (·.2)) (kws.map (·.2))) :
    (putK kws k v).map (·.1) = (fPut kvs k d).map (·.1) ∧ RepL K ρ P ((fPut kvs k d).map (·.2)) ((putK kws k v).map (·.2)) := by
  rw [fPut_is]
  unfold putK
  rw [any_rel e]
  split
  · exact repl_rel rd e r
  · simp only [List.map_append, List.map_cons, List.map_nil]
    exact ⟨by rw [e], r.append (.cons rd .nil)⟩
/-! {} -/
def mDNew : M D := fun _ h => .ok (.loc h.length) (h ++ [.dct []])
theorem sd_dnew : Sd K (RV K) E tDNewT mDNew := fun ρ P σ H env h s re Q p => by
  intro a hp
  obtain ⟨s1, t⟩ := s.own hp (.dT [])
  have np : P a = none := s.noP hp
  have nr : NoR ρ a := s.noR hp
  refine p (fun n => if n = h.length then some a else ρ n) P _ _ ⟨fun n b eb => ?_, t.pure, fun n b e0 eb => ?_, t.newp, t.keep, t.there⟩ (s1.number np nr ⟨[], upd_same, rfl, .nil⟩) (.loc (by simp))
  · have z : n ≠ h.length := fun z => by rw [z, s.dom _ (Nat.le_refl _)] at eb; cases eb
    show (if n = h.length then some a else ρ n) = some b
    rw [if_neg z]; exact eb
  · have eb : (if n = h.length then some a else ρ n) = some b := eb
    split at eb
    · cases eb; exact hp
    · rw [e0] at eb; cases eb
/-! x in d, d[x] -/
def dctD (d : D) (h : AH) : Option (List (List Key × D)) := match d with
  | .loc n => (match h[n]? with
    | some (.dct kvs) => some kvs
    | _ => none)
  | .dic ks ds => some (ks.zip ds)
  | _ => none
theorem dctD_ok {h : AH} {d : D} {v : V} {kvs : List (List Key × D)} (s : SR K ρ P H h) (r : Rep K ρ P d v) (e : dctD d h = some kvs) : ∃ a kws, v = .ref a ∧ Rd H a (.dT kws) ∧ kws.map (·.1) = kvs.map (·.1) ∧ RepL K ρ P (kvs.map (·.2)) (kws.map (·.2)) := by
  cases r with
  | loc e1 =>
    obtain ⟨o, eo, x⟩ := s.here e1
    simp only [dctD, eo] at e
    cases o with
    | lst ds => cases e
    | dct kvs2 =>
      cases e
      obtain ⟨kws, e3, e4, q⟩ := x
      exact ⟨_, kws, rfl, .inl e3, e4, q⟩
    | ins c fs => cases e
    | ndt kvs => cases e
  | dic p ez l q =>
    cases e
    have l2 := q.length
    refine ⟨_, _, rfl, s.subD _ _ p, ?_, ?_⟩
    · rw [ez, List.map_fst_zip (by omega), List.map_fst_zip (by omega)]
    · rw [ez, List.map_snd_zip (by omega), List.map_snd_zip (by omega)]; exact q
  | _ => cases e
theorem dget_rd {H : Hp} {a b : Addr} {kvs : List (List Key × V)} {k : List Key} (e : Rd H a (.dT kvs)) (eb : H b = some (.tup (k.map kV))) : DGet H a (.ref b) (valV kvs k) := .inr ⟨kvs, k, b, e, rfl, eb, rfl⟩
def dInD (neg : Bool) (y d : D) (h : AH) : R D := match keyT y, dctD d h with
  | some k, some kvs => .ok (.bl (if neg then !(fGet kvs k).isSome else (fGet kvs k).isSome)) h
  | _, _ => .bad
def dGetD (d y : D) (h : AH) : R D := match keyT y, dctD d h with
  | some k, some kvs => (match fGet kvs k with
    | some v => .ok v h
    | none => .bad)
  | _, _ => .bad
/-! d[x] = v -/
def dPutD (v d y : D) (h : AH) : R Unit := match d, keyT y, dctD d h with
  | .loc n, some k, some kvs => if kvs.length < sizeLine then .ok () (h.set n (.dct (fPut kvs k v))) else .bad
  | _, _, _ => .bad
def mDPut (mv md my : M D) : MS := fun env h => (mv env h).then fun v h1 => (md env h1).then fun d h2 => (my env h2).then fun y h3 => (dPutD v d y h3).then fun _ h4 => .nx env h4
variable {X : Cx} {a b : Expr} {ta tb tc : TE} {ma mb mc : M D} {pos pos' : Pos} {c : Expr} {k : Nat}
theorem je_dnew (hK : X.K = K := by rfl) : JE K E X (.Dict [] [] pos) tDNewT mDNew := ⟨hK, pe_dnewT, sd_dnew⟩
/-! three at once -/
def mPar3 (i j l : Nat) (m : M (List D)) : MS := fun env h => (m env h).then fun ds h1 => match ds with
  | [a, b, c] => .nx (((env.set i (some a)).set j (some b)).set l (some c)) h1
  | _ => .bad
end
end Ab

/-! Texts taken apart, ranges as lists and tuples, two sequences side by side. -/
namespace Ab
open PySem PySem.Spec L2
section
variable {K : PySem.W.Frag} {E : XK} {ρ ρ' ρ1 : Ro} {P H P' H' P1 H1 : Hp}
/-! list(range(..)), tuple(range(..)) -/
structure JR (K : PySem.W.Frag) (E : XK) (X : Cx) (e : Expr) (t : L2.St → Hp → (Int → Int → Hp → Prop) → Prop) (m : M (Int × Int)) : Prop where
  k : X.K = K
  p : PRg X e t
  s : ∀ ρ P σ H env h, SR K ρ P H h → RE K ρ P env σ → ∀ Q : Int → Int → Hp → Prop, Post K (RQ (Int × Int)) E ρ P H (fun ab H => Q ab.1 ab.2 H) (m env h) → t σ H Q
def mRg1 (ma : M D) : M (Int × Int) := fun env h => (ma env h).bind fun a h1 => match a with
  | .int n => .ok (0, n) h1
  | _ => .bad
def mRg2 (ma mb : M D) : M (Int × Int) := fun env h => (ma env h).bind fun a h1 => (mb env h1).bind fun b h2 => match a, b with
  | .int i, .int j => .ok (i, j) h2
  | _, _ => .bad
variable {X : Cx} {a b : Expr} {ta tb : TE} {ma mb : M D} {pos pn : Pos} {tr : L2.St → Hp → (Int → Int → Hp → Prop) → Prop} {mr : M (Int × Int)} {e : Expr}
theorem jr_1 (hm : X.mg "range" = none) (ha : JE K E X a ta ma) (hg : Gl X "range" := by rfl) (na : starEach [a] X.env = (false, eval a X.env) :: starEach [] X.env := by rfl) : JR K E X (.Call (.Name "range" pn) [a] [] pos) (tRg1 ta) (mRg1 ma) :=
  ⟨ha.k, prg_1 hg hm ha.p na, fun ρ P σ H env h s re Q p => ha.s ρ P σ H env h s re _ (Post.bind p fun d h1 ρ1 P1 H1 v t1 s1 w1 p1 => by
    cases w1 with
    | int n => exact ⟨n, rfl, Post.here (L := RQ (Int × Int)) p1 s1 rfl⟩
    | _ => exact p1.elim)⟩
instance insRg (a b : Int) : Decidable (RgOk a b) := inferInstanceAs (Decidable (_ ∧ _))
theorem rg_rep {i j : Int} : RepL K ρ P (rngD i j) (rgV i j) := by
  have : ∀ (l : List Nat), RepL K ρ P (l.map fun k : Nat => D.int (i + (k : Nat))) (l.map fun k : Nat => V.int (i + (k : Nat))) := by
    intro l
    induction l with
    | nil => exact .nil
    | cons k l ih => exact .cons (.int _) ih
  exact this _
def mLstRg (m : M (Int × Int)) : M (List D) := fun env h => (m env h).bind fun ab h1 => if InW ab.1 ∧ InW ab.2 ∧ (ab.2 - ab.1).toNat ≤ 2 ^ 24 then .ok (rngD ab.1 ab.2) h1 else .bad
def mTupRg (m : M (Int × Int)) : M D := fun env h => (m env h).bind fun ab h1 => if InW ab.1 ∧ InW ab.2 ∧ (ab.2 - ab.1).toNat ≤ 2 ^ 24 then .ok (.tup (rngD ab.1 ab.2)) h1 else .bad
theorem je_tupRg (hm : X.mg "tuple" = none) (hr : JR K E X e tr mr) (hc : X.calm = true := by rfl) (hg : Gl X "tuple" := by rfl) (na : starEach [e] X.env = (false, eval e X.env) :: starEach [] X.env := by rfl) : JE K E X (.Call (.Name "tuple" pn) [e] [] pos) (tTupRg tr) (mTupRg mr) :=
  ⟨hr.k, pe_tupRg hc hg hm hr.p na, fun ρ P σ H env h s re Q p => hr.s ρ P σ H env h s re _ (Post.bind p fun d h1 ρ1 P1 H1 v t1 s1 w1 p1 => by
    obtain rfl : d = v := w1
    split at p1
    · rename_i hh
      exact ⟨⟨hh.1.1, hh.1.2, hh.2.1.1, hh.2.1.2, hh.2.2⟩, p1.newT s1 rg_rep⟩
    · exact p1.elim)⟩
theorem jf_lstRg (hm : X.mg "list" = none) (hr : JR K E X e tr mr) (hc : X.calm = true := by rfl) (hg : Gl X "list" := by rfl) (na : starEach [e] X.env = (false, eval e X.env) :: starEach [] X.env := by rfl) : JF K E X (.Call (.Name "list" pn) [e] [] pos) (tLstRg tr) (mLstRg mr) :=
  ⟨hr.k, pe_listRg hc hg hm hr.p na, fun ρ P σ H env h s re Q p => hr.s ρ P σ H env h s re _ (PostF.bind p fun d h1 ρ1 P1 H1 v t1 s1 w1 p1 => by
    obtain rfl : d = v := w1
    split at p1
    · rename_i hh
      exact ⟨⟨hh.1.1, hh.1.2, hh.2.1.1, hh.2.1.2, hh.2.2⟩, p1.newL s1 rg_rep⟩
    · exact p1.elim)⟩
/-! s.split(sep) -/
def mSplit (mo me : M D) : M (List D) := fun env h => (mo env h).bind fun a h1 => match a with
  | .str x => (me env h1).bind fun b h2 => (match b with
    | .str y => if (y.length == 0) = false ∧ x.length + 2 ≤ sizeLine then .ok ((Txt.split x y).map D.str) h2 else .bad
    | _ => .bad)
  | _ => .bad
theorem strs_rep : ∀ l : List Str, RepL K ρ P (l.map D.str) (l.map V.str)
  | [] => .nil
  | x :: l => .cons (.str x) (strs_rep l)
theorem jf_split {apos : Pos} (ho : JE K E X a ta ma) (he : JE K E X b tb mb) (hs : starEach [b] X.env = [(false, eval b X.env)] := by rfl) (hbase : attributeBase a "split" X.env (eval a X.env) = eval a X.env := by rfl) (hline : (apos.endLine == pos.line) = true := by rfl) :
    JF K E X (.Call (.Attribute a "split" apos) [b] [] pos) (tM1 (fun x xs H Q => ∃ a b, x = .str a ∧ xs = [.str b] ∧ (b.length == 0) = false ∧ a.length + 2 ≤ sizeLine ∧ rNewStrs (Txt.split a b) H Q) ta tb) (mSplit ma mb) :=
  ⟨ho.k, pe_split ho.p he.p hs hbase hline, fun ρ P σ H env h s re Q p => ho.s ρ P σ H env h s re _ (PostF.bind p fun d h1 ρ1 P1 H1 v t1 s1 w1 p1 => by
    cases w1 with
    | str x =>
      refine ⟨⟨x, rfl⟩, he.s _ _ _ _ _ _ s1 (re.step t1) _ (PostF.bind p1 fun d2 h2 ρ2 P2 H2 v2 t2 s2 w2 p2 => ?_)⟩
      cases w2 with
      | str y =>
        have p2 : PostF K E ρ2 P2 H2 Q (if (y.length == 0) = false ∧ x.length + 2 ≤ sizeLine then .ok ((Txt.split x y).map D.str) h2 else .bad) := p2
        split at p2
        · rename_i hh
          exact ⟨x, y, rfl, rfl, hh.1, hh.2, p2.newL s2 (strs_rep _)⟩
        · exact p2.elim
      | _ => exact p2.elim
    | _ => exact p1.elim)⟩
/-! int(text) -/
def intSD : List D → AH → R D
  | [.str x], h => (match PySem.intText? x with
    | some n => if x.length ≤ 640 then .ok (.int n) h else .bad
    | none => .bad)
  | _, _ => .bad
theorem cb_intS : CbS K E (fun xs H Q => ∃ a n, xs = [.str a] ∧ PySem.intText? a = some n ∧ a.length ≤ 640 ∧ Q (.int n) H) intSD := fun ρ P H h vs ds s w Q p => by
  unfold intSD at p
  split at p
  · obtain ⟨v, rfl, r⟩ := w.one
    cases r
    split at p
    · rename_i n en
      split at p
      · rename_i hl; exact ⟨_, n, rfl, en, hl, Post.here p s (.int _)⟩
      · exact p.elim
    · exact p.elim
  · exact p.elim
end
end Ab

/-! Two sequences side by side. -/
namespace Ab
open PySem PySem.Spec L2
section
variable {K : PySem.W.Frag} {E : XK} {ρ ρ' ρ1 : Ro} {P H P' H' P1 H1 : Hp}
def zipD (xs ys : List D) : List D := List.zipWith (fun x y => D.tup [x, y]) xs ys
/-- a new pair, which nobody changes -/
theorem pair_new {h : AH} {T : Addr} {x y : V} {d e : D} (s : SR K ρ P H h) (hT : H T = none) (rx : Rep K ρ P d x) (ry : Rep K ρ P e y) : ∃ P2, Step ρ P H ρ P2 (upd H T (.tup [x, y])) ∧ SR K ρ P2 (upd H T (.tup [x, y])) h ∧ Rep K ρ P2 (.tup [d, e]) (.ref T) := by
  obtain ⟨s', t⟩ := s.pure hT (.tup [x, y])
  exact ⟨_, t, s', .tup upd_same (.cons (rx.step t) (.cons (ry.step t) .nil))⟩
theorem zip_get {xs ys : List D} {i : Nat} {d : D} (e : (zipD xs ys)[i]? = some d) : ∃ x y, xs[i]? = some x ∧ ys[i]? = some y ∧ d = .tup [x, y] := by
  unfold zipD at e
  rw [List.getElem?_zipWith] at e
  cases q1 : xs[i]? with
  | none => rw [q1] at e; cases e
  | some x =>
    cases q2 : ys[i]? with
    | none => rw [q1, q2] at e; cases e
    | some y => rw [q1, q2] at e; cases e; exact ⟨x, y, rfl, rfl, rfl⟩
theorem zip_end {xs ys : List D} {i : Nat} (e : (zipD xs ys)[i]? = none) : xs.length ≤ i ∨ ys.length ≤ i := by
  unfold zipD at e
  rw [List.getElem?_eq_none_iff, List.length_zipWith] at e
  omega
theorem itOk_Z {h : AH} {a b : Addr} {vs us : List V} {xs ys : List D} (q1 : SqL K P a vs) (q2 : SqL K P b us) (r1 : RepL K ρ P xs vs) (r2 : RepL K ρ P ys us) : ItOk K ρ P H (.items (zipD xs ys)) (Itz K a b) := fun ρ' P' H' tm tp _ h' s i => by
  have q1' : SqL K H' a vs := sqL_s s.sub (sqL_sub tp q1)
  have q2' : SqL K H' b us := sqL_s s.sub (sqL_sub tp q2)
  have r1' := r1.up tm tp
  have r2' := r2.up tm tp
  refine ⟨fun d e => ?_, fun e => ⟨vs, us, q1', q2', by rw [r1'.length, r2'.length]; exact zip_end e⟩⟩
  obtain ⟨x, y, e1, e2, rfl⟩ := zip_get e
  obtain ⟨v, ev, rv⟩ := r1'.get e1
  obtain ⟨u, eu, ru⟩ := r2'.get e2
  refine ⟨⟨vs, us, v, u, q1', q2', ev, eu⟩, fun z H2 yy => ?_⟩
  obtain ⟨T, x', y', rfl, hT, rfl, z1, z2⟩ := yy
  have z1 := z1 vs q1'
  have z2 := z2 us q2'
  rw [ev] at z1
  rw [eu] at z2
  cases z1
  cases z2
  exact pair_new s hT rv ru
theorem itOk_ZT {h : AH} {a b : Addr} {vs us : List V} {xs ys : List D} (q1 : SqT K P a vs) (q2 : SqT K P b us) (r1 : RepL K ρ P xs vs) (r2 : RepL K ρ P ys us) : ItOk K ρ P H (.items (zipD xs ys)) (RZ.ItzT K a b) := fun ρ' P' H' tm tp _ h' s i => by
  have q1' : SqT K H' a vs := sqT_s s.sub (sqT_sub tp q1)
  have q2' : SqT K H' b us := sqT_s s.sub (sqT_sub tp q2)
  have r1' := r1.up tm tp
  have r2' := r2.up tm tp
  refine ⟨fun d e => ?_, fun e => ⟨vs, us, q1', q2', by rw [r1'.length, r2'.length]; exact zip_end e⟩⟩
  obtain ⟨x, y, e1, e2, rfl⟩ := zip_get e
  obtain ⟨v, ev, rv⟩ := r1'.get e1
  obtain ⟨u, eu, ru⟩ := r2'.get e2
  refine ⟨⟨vs, us, v, u, q1', q2', ev, eu⟩, fun z H2 yy => ?_⟩
  obtain ⟨T, x', y', rfl, hT, rfl, z1, z2⟩ := yy
  have z1 := z1 vs q1'
  have z2 := z2 us q2'
  rw [ev] at z1
  rw [eu] at z2
  cases z1
  cases z2
  exact pair_new s hT rv ru
def zipA : List D → Option (List D)
  | [.lst xs, .lst ys] => some (zipD xs ys)
  | [.tup xs, .tup ys] => some (zipD xs ys)
  | _ => none
theorem zipA_ok {h : AH} {ds : List D} {vs : List V} {l : List D} (s1 : SR K ρ P H h) (w : RepL K ρ P ds vs) (e : zipA ds = some l) : ∃ a b xs ys, vs = [.ref a, .ref b] ∧ ((SqL K H a xs ∧ SqL K H b ys ∧ ItOk K ρ P H (.items l) (Itz K a b)) ∨ (SqT K H a xs ∧ SqT K H b ys ∧ ItOk K ρ P H (.items l) (RZ.ItzT K a b))) := by
  unfold zipA at e
  split at e
  · cases e
    obtain ⟨v, u, rfl, r1, r2⟩ := w.two
    cases r1 with
    | lst q1 r1 =>
      cases r2 with
      | lst q2 r2 => exact ⟨_, _, _, _, rfl, .inl ⟨.of (s1.sub _ _ q1 rfl), .of (s1.sub _ _ q2 rfl), itOk_Z (h := h) (.of q1) (.of q2) r1 r2⟩⟩
  · cases e
    obtain ⟨v, u, rfl, r1, r2⟩ := w.two
    cases r1 with
    | tup q1 r1 =>
      cases r2 with
      | tup q2 r2 => exact ⟨_, _, _, _, rfl, .inr ⟨.of (s1.sub _ _ q1 rfl), .of (s1.sub _ _ q2 rfl), itOk_ZT (h := h) (.of q1) (.of q2) r1 r2⟩⟩
  · cases e
def miZip (m : M (List D)) : MI := fun env h => (m env h).bind fun ds h1 => match zipA ds with
  | some l => .ok (.items l) h1
  | none => .bad
theorem si_zip {t : TA} {m : M (List D)} (ha : Sd K (RVs K) E t m) : SdI K E (RZ.iZipA K t) (miZip m) := fun ρ P σ H env h s re Q p =>
  ha ρ P σ H env h s re _ (Post.bindI p fun ds h1 ρ1 P1 H1 v t1 s1 w1 p1 => by
    cases e : zipA ds with
    | none => simp only [e] at p1
    | some l =>
      simp only [e] at p1
      obtain ⟨a, b, xs, ys, rfl, q⟩ := zipA_ok s1 w1 e
      rcases q with ⟨q1, q2, ok⟩ | ⟨q1, q2, ok⟩
      · exact ⟨a, b, xs, ys, rfl, .inl ⟨q1, q2, p1 ρ1 P1 H1 _ (Step.refl ..) s1 ok⟩⟩
      · exact ⟨a, b, xs, ys, rfl, .inr ⟨q1, q2, p1 ρ1 P1 H1 _ (Step.refl ..) s1 ok⟩⟩)
variable {X : Cx} {e e2 : Expr} {t : TA} {m : M (List D)} {pos pn tpos : Pos} {elts : List Expr} {kk : Nat}
theorem ji_zip (hm : X.mg "zip" = none) (ha : JA K E X [e, e2] t m) (hg : Gl X "zip" := by rfl) (hs : starEach [e, e2] X.env = (false, eval e X.env) :: starEach [e2] X.env := by rfl) (hpl : (backTo pos (starEach [e2] X.env)).any (·.1) = false := by rfl) :
    JI K E X (.Tuple elts kk tpos) (.Call (.Name "zip" pn) [e, e2] [] pos) (RZ.iZipA K t) (miZip m) := by
  obtain ⟨hK, hp, hq⟩ := ha
  subst hK
  exact ⟨rfl, RZ.pi_zipA hg hm hp hs hpl, si_zip hq⟩
end
end Ab

/-! Objects that never change: their attributes. -/
namespace Ab
open PySem PySem.Spec L2
section
variable {K : PySem.W.Frag} {E : XK} {ρ ρ' ρ1 : Ro} {P H P' H' P1 H1 : Hp}
theorem look_rel {f : Str} {d : D} : ∀ {ns : List Str} {ds : List D} {vs : List V}, RepL K ρ P ds vs → (ns.zip ds).lookup f = some d → ∃ v, (ns.zip vs).lookup f = some v ∧ Rep K ρ P d v
  | [], _, _, _, e => by simp at e
  | n :: ns, _, _, .nil, e => by simp at e
  | n :: ns, _, _, .cons (v := v) (vs := vs) a b, e => by
    simp only [List.zip_cons_cons, List.lookup_cons] at e ⊢
    by_cases z : f == n
    · simp only [z] at e ⊢
      cases e
      exact ⟨v, rfl, a⟩
    · have z : (f == n) = false := by simpa using z
      simp only [z] at e ⊢
      exact look_rel b e
def fldD (c f : Str) (d : D) (h : AH) : R D := match d with
  | .obj c' ns ds => if c' = c then (match (ns.zip ds).lookup f with
    | some v => .ok v h
    | none => .bad) else .bad
  | _ => .bad
variable {X : Cx} {a : Expr} {ta : TE} {ma : M D} {pos : Pos} {f c : Str}
end
end Ab

/-! Comprehensions with two loops. -/
namespace Ab
open PySem PySem.Spec L2
section
variable {K : PySem.W.Frag} {E : XK} {ρ ρ' ρ1 : Ro} {P H P' H' P1 H1 : Hp}
/-- one turn of a loop that appends to the list at D0 -/
theorem lc_turn {g : TG} {tt : TT} {te : TE} {vs : List Nat} {mg : MG} {mc : M Bool} {me : M D} (hg : SdG K E g mg) (hv : GW vs g) (hc : Sd K (RQ Bool) E tt mc) (he : Sd K (RV K) E te me) {ρ0 : Ro} {P0 H0 : Hp} {D0 : Addr} (hD : H0 D0 = none)
    {Q : VK} {env : En} {σ : L2.St} {h : AH} {acc : List D} {d : D} {v : V} {rest : AH → R (List D)} {Nx : Hp → Prop} (x : LcS K ρ0 P0 H0 D0 ρ P H h acc) (hl : acc.length < sizeLine) (re' : RE K ρ P (wipeE env vs) (wipe σ vs)) (rd : Rep K ρ P d v)
    (pp : PostF K E ρ0 P0 H0 Q (((mg d (wipeE env vs) h).bind fun env1 h1 => (mc env1 h1).bind fun b h2 => if b = true then (me env1 h2).bind fun y h3 => (rest h3).bind fun r h4 => .ok (y :: r) h4 else rest h2).bind fun r h => .ok (acc ++ r) h))
    (nx : ∀ ρ' P' H' h' acc', LcS K ρ0 P0 H0 D0 ρ' P' H' h' acc' → (∀ n a, ρ n = some a → ρ' n = some a) → (∀ a o, P a = some o → P' a = some o) → Frz H H' → acc'.length ≤ acc.length + 1 → PostF K E ρ0 P0 H0 Q ((rest h').bind fun r h => .ok (acc' ++ r) h) → Nx H') :
    g v (wipe σ vs) H fun σ2 H2 => wipe σ2 vs = wipe σ vs ∧ tt σ2 H2 fun b H3 => if b = true then te σ2 H3 fun y H4 => ∃ acc, H4 D0 = some (.lst acc) ∧ acc.length < sizeLine ∧ Nx (upd H4 D0 (.lst (acc ++ [y]))) else Nx H3 := by
  rw [R.bind_bind] at pp
  have gg := hg ρ P (wipe σ vs) H (wipeE env vs) h d v x.s re' rd (fun σ2 H2 => tt σ2 H2 fun b H3 => if b = true then te σ2 H3 fun y H4 => ∃ acc, H4 D0 = some (.lst acc) ∧ acc.length < sizeLine ∧ Nx (upd H4 D0 (.lst (acc ++ [y]))) else Nx H3)
    (PostF.bindA pp x.t fun env1 h1 ρ1 P1 H1 σ1 t1 s1 r1 p1 => by
      rw [R.bind_bind] at p1
      have x1 := x.step t1 s1
      refine hc ρ1 P1 σ1 H1 env1 h1 s1 r1 _ (PostF.bindA p1 x1.t fun b h2 ρ2 P2 H2 b' t2 s2 eb p2 => ?_)
      cases eb
      have x2 := x1.step t2 s2
      cases b with
      | false =>
        rw [if_neg Bool.false_ne_true] at p2 ⊢
        exact nx ρ2 P2 H2 h2 acc x2 (fun n a e => t2.mono n a (t1.mono n a e)) (fun a o e => t2.pure a o (t1.pure a o e)) ((t1.frz x.s).trans (t2.frz x1.s)) (Nat.le_succ _) p2
      | true =>
        rw [if_pos rfl] at p2 ⊢
        rw [R.bind_bind] at p2
        refine he ρ2 P2 σ1 H2 env1 h2 s2 (r1.step t2) _ (PostF.bindA p2 x2.t fun y h3 ρ3 P3 H3 yv t3 s3 ry p3 => ?_)
        obtain ⟨ws, e1, e2, x3⟩ := (x2.step t3 s3).app hD ry
        refine ⟨ws, e1, by rw [e2]; exact hl, nx _ _ _ _ _ x3 (fun n a e => t3.mono n a (t2.mono n a (t1.mono n a e))) (fun a o e => t3.pure a o (t2.pure a o (t1.pure a o e))) (fun a r u e => by
          have e4 := ((t1.frz x.s).trans ((t2.frz x1.s).trans (t3.frz x2.s))) a r u e
          have ne : a ≠ D0 := fun z => by rw [z, e1] at e4; cases e4
          rw [upd_ne ne]; exact e4) (by simp) ?_⟩
        rw [R.bind_bind] at p3
        have e : (fun (a : List D) (h : AH) => R.bind (R.ok (y :: a) h) fun r h => R.ok (acc ++ r) h) = fun r h => R.ok (acc ++ [y] ++ r) h := by funext a h; show R.ok (acc ++ (y :: a)) h = _; simp
        have p4 : PostF K E ρ0 P0 H0 Q ((rest h3).bind fun (a : List D) (h : AH) => R.bind (R.ok (y :: a) h) fun r h => R.ok (acc ++ r) h) := p3
        rw [e] at p4
        exact p4)
  have g2 := hv _ _ _ _ gg
  rw [wipe_wipe fun i hi => hi] at g2
  exact g2
def lc2Items (g : MG) (c : M Bool) (w1 : MI) (g1 : MG) (c1 : M Bool) (e : M D) (vs1 : List Nat) (env : En) : List D → AH → R (List D)
  | [], h => .ok [] h
  | d :: ds, h => (g d env h).bind fun env1 h1 => (c env1 h1).bind fun b h2 => if b = true then (w1 env1 h2).bind fun a h3 => (match a with
      | .items es => if es.length ≤ 1000 then (lcItems g1 c1 e (wipeE env1 vs1) es h3).bind fun ys h4 => (lc2Items g c w1 g1 c1 e vs1 env ds h4).bind fun r h5 => .ok (ys ++ r) h5 else .bad
      | .at_ _ => .bad) else lc2Items g c w1 g1 c1 e vs1 env ds h2
def mLc2 (w : MI) (g : MG) (c : M Bool) (w1 : MI) (g1 : MG) (c1 : M Bool) (e : M D) (vs vs1 : List Nat) : M (List D) := fun env h => (w env h).bind fun a h1 => match a with
  | .items ds => if ds.length ≤ 16000 then lc2Items g c w1 g1 c1 e vs1 (wipeE env vs) ds h1 else .bad
  | .at_ _ => .bad
theorem sf_lc2 {w w1 : TI} {g g1 : TG} {tt tt1 : TT} {te : TE} {vs vs1 : List Nat} {mw mw1 : MI} {mg mg1 : MG} {mc mc1 : M Bool} {me : M D} (hw : SdI K E w mw) (hg : SdG K E g mg) (hv : GW vs g) (hc : Sd K (RQ Bool) E tt mc) (hw1 : SdI K E w1 mw1) (hg1 : SdG K E g1 mg1) (hv1 : GW vs1 g1) (hc1 : Sd K (RQ Bool) E tt1 mc1) (he : Sd K (RV K) E te me) :
    SdF K E (tLc2 w g tt w1 g1 tt1 te vs vs1) (mLc2 mw mg mc mw1 mg1 mc1 me vs vs1) := fun ρ P σ H env h s re Q p => by
  refine hw ρ P σ H env h s re _ ?_
  have p : PostF K E ρ P H Q ((mw env h).bind fun a h1 => match a with
    | .items ds => if ds.length ≤ 16000 then lc2Items mg mc mw1 mg1 mc1 me vs1 (wipeE env vs) ds h1 else .bad
    | .at_ _ => .bad) := p
  cases q : mw env h with
  | bad => rw [q] at p; exact p
  | exc x fs h => rw [q] at p; exact p
  | ok a h1 =>
    rw [q] at p
    refine fun ρ0 P0 H0 J t0 s0 j0 D0 hD => ?_
    have p := PostF.mono p t0
    have re := (re.step t0).wipe vs
    obtain ⟨sD, tD⟩ := s0.own hD (.lst [])
    have x0 : LcS K ρ0 P0 H0 D0 ρ0 P0 (upd H0 D0 (.lst [])) h1 [] := ⟨tD, sD, s0.noP hD, s0.noR hD, [], upd_same, .nil⟩
    cases a with
    | at_ n => exact p.elim
    | items ds =>
      have p : PostF K E ρ0 P0 H0 Q (if ds.length ≤ 16000 then lc2Items mg mc mw1 mg1 mc1 me vs1 (wipeE env vs) ds h1 else .bad) := p
      by_cases hs : ds.length ≤ 16000
      · rw [if_pos hs] at p
        refine ⟨fun i m H => m = ds.length - i ∧ i ≤ ds.length ∧ ∃ ρ P h acc, LcS K ρ0 P0 H0 D0 ρ P H h acc ∧ acc.length ≤ i * 1000 ∧ PostF K E ρ0 P0 H0 Q ((lc2Items mg mc mw1 mg1 mc1 me vs1 (wipeE env vs) (ds.drop i) h).bind fun r h => .ok (acc ++ r) h), ⟨ds.length, rfl, Nat.zero_le _, ρ0, P0, h1, [], x0, Nat.le_refl _, ?_⟩, ?_⟩
        · have e : (fun (r : List D) (h : AH) => R.ok ([] ++ r) h) = fun r h => R.ok r h := rfl
          rw [e, R.bind_ok]
          exact p
        · rintro i m H ⟨rfl, hi, ρ, P, h, acc, x, ha, p⟩
          have t' : Step ρ0 P0 H0 ρ P H := x.t
          have jj := j0 ρ P H t'.mono t'.pure (t'.frz s0) h x.s i
          by_cases hlt : i < ds.length
          · have e : ds.drop i = ds[i] :: ds.drop (i + 1) := by rw [List.drop_eq_getElem_cons hlt]
            rw [e] at p
            obtain ⟨go, yl⟩ := jj.1 ds[i] (List.getElem?_eq_getElem hlt)
            refine .inr ⟨go, fun H' => ∃ ρ P h acc, LcS K ρ0 P0 H0 D0 ρ P H' h acc ∧ acc.length ≤ (i + 1) * 1000 ∧ PostF K E ρ0 P0 H0 Q ((lc2Items mg mc mw1 mg1 mc1 me vs1 (wipeE env vs) (ds.drop (i + 1)) h).bind fun r h => .ok (acc ++ r) h), fun H' z => ⟨ds.length - (i + 1), by omega, rfl, hlt, z⟩, fun v H' y => ?_⟩
            obtain ⟨P2, tx, sx, rx⟩ := yl v H' y
            have x := x.step tx sx
            have re' : RE K ρ P2 (wipeE env vs) (wipe σ vs) := ⟨re.1, fun i d e => let ⟨v, h1, h2⟩ := re.2 i d e; ⟨v, h1, h2.up x.t.mono x.t.pure⟩⟩
            generalize ds.drop (i + 1) = rest at p ⊢
            have pp : PostF K E ρ0 P0 H0 Q (((mg ds[i] (wipeE env vs) h).bind fun env1 h1 => (mc env1 h1).bind fun b h2 => if b = true then (mw1 env1 h2).bind fun a h3 => (match a with
              | .items es => if es.length ≤ 1000 then (lcItems mg1 mc1 me (wipeE env1 vs1) es h3).bind fun ys h4 => (lc2Items mg mc mw1 mg1 mc1 me vs1 (wipeE env vs) rest h4).bind fun r h5 => .ok (ys ++ r) h5 else .bad
              | .at_ _ => .bad) else lc2Items mg mc mw1 mg1 mc1 me vs1 (wipeE env vs) rest h2).bind fun r h => .ok (acc ++ r) h) := p
            rw [R.bind_bind] at pp
            have gg := hg ρ P2 (wipe σ vs) H' (wipeE env vs) h ds[i] v x.s re' rx _ (PostF.bindA (Q' := fun σ2 H2 => tt σ2 H2 fun b H3 =>
                if b = true then w1 σ2 H3 fun J1 H4 => ∃ W1 : Nat → Nat → Hp → Prop, (∃ m, W1 0 m H4) ∧ ∀ j k H, W1 j k H →
                  (J1.stop j H ∧ (∃ ρ P h acc, LcS K ρ0 P0 H0 D0 ρ P H h acc ∧ acc.length ≤ (i + 1) * 1000 ∧ PostF K E ρ0 P0 H0 Q ((lc2Items mg mc mw1 mg1 mc1 me vs1 (wipeE env vs) rest h).bind fun r h => .ok (acc ++ r) h))) ∨ (J1.go j H ∧ ∃ Nx1 : Hp → Prop, (∀ H', Nx1 H' → ∃ k', k' < k ∧ W1 (j + 1) k' H') ∧ ∀ x H', J1.yld j H x H' → g1 x (wipe σ2 vs1) H' fun σ3 H5 => wipe σ3 vs1 = wipe σ2 vs1 ∧ tt1 σ3 H5 fun b H6 =>
                    if b = true then te σ3 H6 fun y H7 => ∃ acc, H7 D0 = some (.lst acc) ∧ acc.length < sizeLine ∧ Nx1 (upd H7 D0 (.lst (acc ++ [y]))) else Nx1 H6)
                else (∃ ρ P h acc, LcS K ρ0 P0 H0 D0 ρ P H3 h acc ∧ acc.length ≤ (i + 1) * 1000 ∧ PostF K E ρ0 P0 H0 Q ((lc2Items mg mc mw1 mg1 mc1 me vs1 (wipeE env vs) rest h).bind fun r h => .ok (acc ++ r) h))) pp x.t fun env1 h1 ρ1 P1 H1 σ1 t1 s1 r1 p1 => by
              rw [R.bind_bind] at p1
              have x1 := x.step t1 s1
              refine hc ρ1 P1 σ1 H1 env1 h1 s1 r1 _ (PostF.bindA p1 x1.t fun b h2 ρ2 P2 H2 b' t2 s2 eb p2 => ?_)
              cases eb
              have x2 := x1.step t2 s2
              have r2 := r1.step t2
              cases b with
              | false =>
                rw [if_neg Bool.false_ne_true] at p2 ⊢
                exact ⟨ρ2, P2, h2, acc, x2, by omega, p2⟩
              | true =>
                rw [if_pos rfl] at p2 ⊢
                rw [R.bind_bind] at p2
                refine hw1 ρ2 P2 σ1 H2 env1 h2 s2 r2 _ ?_
                cases q1 : mw1 env1 h2 with
                | bad => rw [q1] at p2; exact p2
                | exc xx fs hh =>
                  rw [q1] at p2
                  exact fun ρ' P' H' dd t s' rx' => p2 ρ' P' H' dd (x2.t.trans t) s' rx'
                | ok a h3 =>
                  rw [q1] at p2
                  cases a with
                  | at_ n => exact p2.elim
                  | items es =>
                    intro ρ3 P3 H3 J1 t3 s3 j1
                    have p2 : PostF K E ρ0 P0 H0 Q ((if es.length ≤ 1000 then (lcItems mg1 mc1 me (wipeE env1 vs1) es h3).bind fun ys h4 => (lc2Items mg mc mw1 mg1 mc1 me vs1 (wipeE env vs) rest h4).bind fun r h5 => .ok (ys ++ r) h5 else .bad).bind fun r h => .ok (acc ++ r) h) := p2
                    by_cases hes : es.length ≤ 1000
                    · rw [if_pos hes] at p2
                      have x3 := x2.step t3 s3
                      have r3 := (r2.step t3).wipe vs1
                      refine ⟨fun j k H => k = es.length - j ∧ j ≤ es.length ∧ ∃ ρ P h acc', LcS K ρ0 P0 H0 D0 ρ P H h acc' ∧ (∀ n a, ρ3 n = some a → ρ n = some a) ∧ (∀ a o, P3 a = some o → P a = some o) ∧ Frz H3 H ∧ acc'.length ≤ i * 1000 + j ∧ PostF K E ρ0 P0 H0 Q (((lcItems mg1 mc1 me (wipeE env1 vs1) (es.drop j) h).bind fun ys h4 => (lc2Items mg mc mw1 mg1 mc1 me vs1 (wipeE env vs) rest h4).bind fun r h5 => .ok (ys ++ r) h5).bind fun r h => .ok (acc' ++ r) h),
                        ⟨es.length, rfl, Nat.zero_le _, ρ3, P3, h3, acc, x3, fun _ _ e => e, fun _ _ e => e, Frz.refl _, by omega, p2⟩, ?_⟩
                      rintro j k H ⟨rfl, hj, ρ, P, h, acc', x, um, up, uf, ha', p⟩
                      have jj1 := j1 ρ P H um up uf h x.s j
                      by_cases hjl : j < es.length
                      · have e : es.drop j = es[j] :: es.drop (j + 1) := by rw [List.drop_eq_getElem_cons hjl]
                        rw [e] at p
                        obtain ⟨go1, yl1⟩ := jj1.1 es[j] (List.getElem?_eq_getElem hjl)
                        refine .inr ⟨go1, fun H' => ∃ ρ P h acc', LcS K ρ0 P0 H0 D0 ρ P H' h acc' ∧ (∀ n a, ρ3 n = some a → ρ n = some a) ∧ (∀ a o, P3 a = some o → P a = some o) ∧ Frz H3 H' ∧ acc'.length ≤ i * 1000 + (j + 1) ∧ PostF K E ρ0 P0 H0 Q (((lcItems mg1 mc1 me (wipeE env1 vs1) (es.drop (j + 1)) h).bind fun ys h4 => (lc2Items mg mc mw1 mg1 mc1 me vs1 (wipeE env vs) rest h4).bind fun r h5 => .ok (ys ++ r) h5).bind fun r h => .ok (acc' ++ r) h), fun H' z => ⟨es.length - (j + 1), by omega, rfl, hjl, z⟩, fun v1 H' y1 => ?_⟩
                        obtain ⟨P4, tx1, sx1, rx1⟩ := yl1 v1 H' y1
                        have fx := tx1.frz x.s
                        have x := x.step tx1 sx1
                        have re1 : RE K ρ P4 (wipeE env1 vs1) (wipe σ1 vs1) := ⟨r3.1, fun i d e => let ⟨v, h1, h2⟩ := r3.2 i d e; ⟨v, h1, h2.up um (fun a o e => tx1.pure a o (up a o e))⟩⟩
                        refine lc_turn (rest := fun h => (lcItems mg1 mc1 me (wipeE env1 vs1) (es.drop (j + 1)) h).bind fun ys h4 => (lc2Items mg mc mw1 mg1 mc1 me vs1 (wipeE env vs) rest h4).bind fun r h5 => .ok (ys ++ r) h5) hg1 hv1 hc1 he hD x (Nat.lt_of_le_of_lt ha' (Nat.lt_of_lt_of_le (show i * 1000 + j < 16777216 by omega) (by decide))) re1 rx1 ?_ fun ρ' P' H' h' acc2 x' m1 m2 m3 hl' p' => ⟨ρ', P', h', acc2, x', fun n a e => m1 n a (um n a e), fun a o e => m2 a o (tx1.pure a o (up a o e)), uf.trans (fx.trans m3), by omega, p'⟩
                        have ee : ∀ h : AH, ((lcItems mg1 mc1 me (wipeE env1 vs1) (es[j] :: es.drop (j + 1)) h).bind fun ys h4 => (lc2Items mg mc mw1 mg1 mc1 me vs1 (wipeE env vs) rest h4).bind fun r h5 => R.ok (ys ++ r) h5) = ((mg1 es[j] (wipeE env1 vs1) h).bind fun env1' h1 => (mc1 env1' h1).bind fun b h2 => if b = true then (me env1' h2).bind fun y h3 => ((lcItems mg1 mc1 me (wipeE env1 vs1) (es.drop (j + 1)) h3).bind fun ys h4 => (lc2Items mg mc mw1 mg1 mc1 me vs1 (wipeE env vs) rest h4).bind fun r h5 => R.ok (ys ++ r) h5).bind fun r h4 => .ok (y :: r) h4 else (lcItems mg1 mc1 me (wipeE env1 vs1) (es.drop (j + 1)) h2).bind fun ys h4 => (lc2Items mg mc mw1 mg1 mc1 me vs1 (wipeE env vs) rest h4).bind fun r h5 => R.ok (ys ++ r) h5) := by
                          intro h
                          show R.bind (R.bind _ _) _ = _
                          rw [R.bind_bind]
                          congr 1
                          funext env1' h1
                          rw [R.bind_bind]
                          congr 1
                          funext b h2
                          cases b with
                          | false => rfl
                          | true =>
                            rw [if_pos rfl, if_pos rfl, R.bind_bind]
                            congr 1
                            funext y h3
                            rw [R.bind_bind, R.bind_bind]
                            congr 1
                            funext ys h4
                            show R.bind _ _ = R.bind _ _
                            rw [R.bind_bind]
                            rfl
                        rw [ee] at p
                        exact p
                      · have e : j = es.length := by omega
                        subst e
                        rw [List.drop_length] at p
                        refine .inl ⟨jj1.2 (by simp), ρ, P, h, acc', x, by omega, ?_⟩
                        have e0 : (R.bind (R.ok ([] : List D) h) fun ys h4 => (lc2Items mg mc mw1 mg1 mc1 me vs1 (wipeE env vs) rest h4).bind fun r h5 => R.ok (ys ++ r) h5) = lc2Items mg mc mw1 mg1 mc1 me vs1 (wipeE env vs) rest h := R.bind_ok _
                        have p : PostF K E ρ0 P0 H0 Q ((R.bind (R.ok ([] : List D) h) fun ys h4 => (lc2Items mg mc mw1 mg1 mc1 me vs1 (wipeE env vs) rest h4).bind fun r h5 => R.ok (ys ++ r) h5).bind fun r h => .ok (acc' ++ r) h) := p
                        rw [e0] at p
                        exact p
                    · rw [if_neg hes] at p2; exact p2.elim)
            have g2 := hv _ _ _ _ gg
            rw [wipe_wipe fun i hi => hi] at g2
            exact g2
          · have e : i = ds.length := by omega
            subst e
            rw [List.drop_length] at p
            refine .inl ⟨jj.2 (by simp), x.fin (E := E) hD ?_⟩
            have p : PostF K E ρ0 P0 H0 Q (.ok (acc ++ []) h) := p
            rw [List.append_nil] at p
            exact p
      · rw [if_neg hs] at p; exact p.elim
variable {X : Cx} {tg tg1 elt iter iter1 : Expr} {ifs ifs1 : List Expr} {scope : Scope} {own : List (Str × Nat)} {te : TE} {me : M D} {w w1 : TI} {g g1 : TG} {tt tt1 : TT} {mi mi1 : MI} {mg mg1 : MG} {mt mt1 : M Bool} {pos spos : Pos} {vs1 : List Nat}
theorem jf_lc2 (hN : X.N.Nodup) (hi : JI K E X tg iter w mi) (ok : BlkOk X.N X.env.scope scope own) (hv : GW (own.map (·.2)) g) (hv1 : GW vs1 g1) (hvs : ∀ i ∈ vs1, i ∈ own.map (·.2))
    (hg : ∀ (s : Shared) (H : Hp) (C : Addr) (cl : List (Str × Addr)) (fp : List Addr), JG K E (X.blk s H scope (compEnvC scope cl C X.env) fp) tg g mg) (ht : ∀ (s : Shared) (H : Hp) (C : Addr) (cl : List (Str × Addr)) (fp : List Addr), JTs K E (X.blk s H scope (compEnvC scope cl C X.env) fp) ifs tt mt)
    (hi1 : ∀ (s : Shared) (H : Hp) (C : Addr) (cl : List (Str × Addr)) (fp : List Addr), JI K E (X.blk s H scope (compEnvC scope cl C X.env) fp) tg1 iter1 w1 mi1) (hg1 : ∀ (s : Shared) (H : Hp) (C : Addr) (cl : List (Str × Addr)) (fp : List Addr), JG K E (X.blk s H scope (compEnvC scope cl C X.env) fp) tg1 g1 mg1)
    (ht1 : ∀ (s : Shared) (H : Hp) (C : Addr) (cl : List (Str × Addr)) (fp : List Addr), JTs K E (X.blk s H scope (compEnvC scope cl C X.env) fp) ifs1 tt1 mt1) (he : ∀ (s : Shared) (H : Hp) (C : Addr) (cl : List (Str × Addr)) (fp : List Addr), JE K E (X.blk s H scope (compEnvC scope cl C X.env) fp) elt te me) (hc : X.calm = true := by rfl) (hs : ∀ x, foldedSetIterable iter X.env x = pure x := by intro _; rfl) (hs1 : ∀ env x, foldedSetIterable iter1 env x = pure x := by intro _ _; rfl) :
    JF K E X (.ListComp elt [⟨tg, iter, ifs, 0⟩, ⟨tg1, iter1, ifs1, 0⟩] scope pos) (tLc2 w g tt w1 g1 tt1 te (own.map (·.2)) vs1) (mLc2 mi mg mt mi1 mg1 mt1 me (own.map (·.2)) vs1) := by
  have hg0 := hg X.s_0 X.H_0 default [] []
  have ht0 := ht X.s_0 X.H_0 default [] []
  have hi0 := hi1 X.s_0 X.H_0 default [] []
  have hg10 := hg1 X.s_0 X.H_0 default [] []
  have ht10 := ht1 X.s_0 X.H_0 default [] []
  have he0 := he X.s_0 X.H_0 default [] []
  exact ⟨hi.k, pe_lc2 hc hN hi.p ok hvs (fun s H C cl fp => (hg s H C cl fp).p) (fun s H C cl fp => (ht s H C cl fp).p) (fun s H C cl fp => (hi1 s H C cl fp).p) (fun s H C cl fp => (hg1 s H C cl fp).p) (fun s H C cl fp => (ht1 s H C cl fp).p) (fun s H C cl fp => (he s H C cl fp).p) hs hs1, sf_lc2 hi.s hg0.s hv ht0.s hi0.s hg10.s hv1 ht10.s he0.s⟩
theorem js_setLc2 (i : Nat) {y : Str} {py : Pos} (hN : X.N.Nodup) (hi : JI K E X tg iter w mi) (ok : BlkOk X.N X.env.scope scope own) (hv : GW (own.map (·.2)) g) (hv1 : GW vs1 g1) (hvs : ∀ i ∈ vs1, i ∈ own.map (·.2))
    (hg : ∀ (s : Shared) (H : Hp) (C : Addr) (cl : List (Str × Addr)) (fp : List Addr), JG K E (X.blk s H scope (compEnvC scope cl C X.env) fp) tg g mg) (ht : ∀ (s : Shared) (H : Hp) (C : Addr) (cl : List (Str × Addr)) (fp : List Addr), JTs K E (X.blk s H scope (compEnvC scope cl C X.env) fp) ifs tt mt)
    (hi1 : ∀ (s : Shared) (H : Hp) (C : Addr) (cl : List (Str × Addr)) (fp : List Addr), JI K E (X.blk s H scope (compEnvC scope cl C X.env) fp) tg1 iter1 w1 mi1) (hg1 : ∀ (s : Shared) (H : Hp) (C : Addr) (cl : List (Str × Addr)) (fp : List Addr), JG K E (X.blk s H scope (compEnvC scope cl C X.env) fp) tg1 g1 mg1)
    (ht1 : ∀ (s : Shared) (H : Hp) (C : Addr) (cl : List (Str × Addr)) (fp : List Addr), JTs K E (X.blk s H scope (compEnvC scope cl C X.env) fp) ifs1 tt1 mt1) (he : ∀ (s : Shared) (H : Hp) (C : Addr) (cl : List (Str × Addr)) (fp : List Addr), JE K E (X.blk s H scope (compEnvC scope cl C X.env) fp) elt te me)
    (hsw : swapsWith (.ListComp elt [⟨tg, iter, ifs, 0⟩, ⟨tg1, iter1, ifs1, 0⟩] scope pos) (some (.Name y py)) spos.line X.env = pure true) (hy : X.N[i]? = some y := by rfl) (hyl : X.env.scope.names.lookup y = some .local := by rfl)
    (hc : X.calm = true := by rfl) (hs : ∀ x, foldedSetIterable iter X.env x = pure x := by intro _; rfl) (hs1 : ∀ env x, foldedSetIterable iter1 env x = pure x := by intro _ _; rfl) :
    JS K E X (.Assign [.Name y py] (.ListComp elt [⟨tg, iter, ifs, 0⟩, ⟨tg1, iter1, ifs1, 0⟩] scope pos) spos) (tAsg (tLc2 w g tt w1 g1 tt1 te (own.map (·.2)) vs1) (gName i)) (mAsg (mFrz (mLc2 mi mg mt mi1 mg1 mt1 me (own.map (·.2)) vs1)) (mgName i)) := by
  have h := jf_lc2 (pos := pos) hN hi ok hv hv1 hvs hg ht hi1 hg1 ht1 he hc hs hs1
  exact ⟨hi.k, ps_setLc2 hc hN hy hyl hsw hi.p ok hvs (fun s H C cl fp => (hg s H C cl fp).p) (fun s H C cl fp => (ht s H C cl fp).p) (fun s H C cl fp => (hi1 s H C cl fp).p) (fun s H C cl fp => (hg1 s H C cl fp).p) (fun s H C cl fp => (ht1 s H C cl fp).p) (fun s H C cl fp => (he s H C cl fp).p) hs hs1, ss_asg h.f.s sg_name⟩
end
end Ab

/-! join; sorted whole numbers. -/
namespace Ab
open PySem PySem.Spec L2
section
variable {K : PySem.W.Frag} {E : XK} {ρ ρ' ρ1 : Ro} {P H P' H' P1 H1 : Hp}
def strsD : List D → Option (List Str)
  | [] => some []
  | .str x :: ds => (strsD ds).map (x :: ·)
  | _ => none
/-- a list or a tuple of texts -/
def textsD (d : D) (h : AH) : Option (List Str) := match d with
  | .tup ds => strsD ds
  | d => (seqD d h).bind strsD
def joinD (a b : D) (h : AH) : R D := match a, textsD b h with
  | .str x, some ys => if (ys.map (·.length)).sum + ys.length * x.length ≤ 16777216 then .ok (.str (Txt.join x ys)) h else .bad
  | _, _ => .bad
def mJoin (mo me : M D) : M D := fun env h => (mo env h).bind fun a h1 => match a with
  | .str x => (me env h1).bind fun b h2 => joinD (.str x) b h2
  | _ => .bad
variable {X : Cx} {a b : Expr} {ta tb : TE} {ma mb : M D} {pos apos : Pos}
/-! sorted(ints) -/
def insI (x : Int) : List Int → List Int
  | [] => [x]
  | y :: l => if x ≤ y then x :: y :: l else y :: insI x l
def sortI : List Int → List Int
  | [] => []
  | x :: l => insI x (sortI l)
theorem insI_perm (x : Int) : ∀ l : List Int, (insI x l).Perm (x :: l)
  | [] => .refl _
  | y :: l => by
    unfold insI
    split
    · exact .refl _
    · exact ((insI_perm x l).cons y).trans (.swap x y l)
theorem sortI_perm : ∀ l : List Int, (sortI l).Perm l
  | [] => .refl _
  | x :: l => (insI_perm x (sortI l)).trans ((sortI_perm l).cons x)
theorem insI_up (x : Int) : ∀ {l : List Int}, l.Pairwise (· ≤ ·) → (insI x l).Pairwise (· ≤ ·)
  | [], _ => by simp [insI]
  | y :: l, h => by
    unfold insI
    rw [List.pairwise_cons] at h
    split
    · rename_i z
      refine List.pairwise_cons.mpr ⟨fun a ha => ?_, List.pairwise_cons.mpr h⟩
      rcases List.mem_cons.mp ha with rfl | ha
      · exact z
      · exact Int.le_trans z (h.1 a ha)
    · rename_i z
      refine List.pairwise_cons.mpr ⟨fun a ha => ?_, insI_up x h.2⟩
      rcases List.mem_cons.mp ((insI_perm x l).mem_iff.mp ha) with rfl | ha
      · omega
      · exact h.1 a ha
theorem sortI_up : ∀ l : List Int, (sortI l).Pairwise (· ≤ ·)
  | [] => .nil
  | x :: l => insI_up x (sortI_up l)
theorem sortI_only {l m : List Int} (p : m.Perm l) (u : m.Pairwise (· ≤ ·)) : m = sortI l :=
  List.Perm.eq_of_pairwise (le := fun a b : Int => a ≤ b) (fun a b _ _ h1 h2 => Int.le_antisymm h1 h2) u (sortI_up l) (p.trans (sortI_perm l).symm)
def sortedD (ds : List D) (h : AH) : R (List D) := match ds with
  | [d] => (match (seqD d h).bind intsD with
    | some ns => .ok ((sortI ns).map D.int) h
    | none => .bad)
  | _ => .bad
theorem cb_sorted : CbF K E (rSortedI K) sortedD := fun ρ P H h vs ds s w Q p => by
  unfold sortedD at p
  split at p
  · rename_i d
    obtain ⟨v, rfl, r⟩ := w.one
    split at p
    · rename_i ns e
      cases q : seqD d h with
      | none => rw [q] at e; cases e
      | some es =>
        rw [q] at e
        have e : intsD es = some ns := e
        obtain ⟨a, us, rfl, sq, rr⟩ := seqD_sq s r q
        have ee := intsD_ok e
        subst ee
        have eu := rr.ints_iff
        subst eu
        refine ⟨a, ns, rfl, sq, fun ns' b pm up hb => ?_⟩
        rw [sortI_only pm up]
        exact p.newL s (RepL.ints _) b hb
    · exact p.elim
  · exact p.elim
variable {x : Str} {pn : Pos} {e : Expr} {es : List Expr} {t : TA} {m : M (List D)}
theorem jf_b {id : String} {r : List V → Hp → VK → Prop} {f : List D → AH → R (List D)} (h : JBl K E X (.builtin id) r f) (hm : X.mg x = none) (ha : JA K E X (e :: es) t m) (hv : bootBuiltins x = some (.builtin id) := by decide +kernel) (hg : Gl X x := by rfl)
    (hn : x ≠ "__name__" := by decide) (hd : (x == ("__debug__" : Str)) = false := by decide) (he : starEach (e :: es) X.env = (false, eval e X.env) :: starEach es X.env := by rfl) (hpl : (backTo pos (starEach es X.env)).any (·.1) = false := by rfl) :
    JF K E X (.Call (.Name x pn) (e :: es) [] pos) (tCB r t) (mCBF f m) := ⟨ha.k, pe_callB h.o hg hm hv ha.p hn hd he hpl, sf_cb h.s ha.s⟩
end
end Ab

/-! Starred parts of displays and of argument lists. -/
namespace Ab
open PySem PySem.Spec L2
section
variable {K : PySem.W.Frag} {E : XK} {ρ ρ' ρ1 : Ro} {P H P' H' P1 H1 : Hp}
/-- what a star spreads: a list or a tuple -/
def spreadD (d : D) (h : AH) : Option (List D) := match d with
  | .tup ds => some ds
  | d => seqD d h
theorem spreadD_ok {h : AH} {d : D} {v : V} {ds : List D} (s : SR K ρ P H h) (w : Rep K ρ P d v) (e : spreadD d h = some ds) : ∃ p vs, v = .ref p ∧ (SqL K H p vs ∨ SqT K H p vs) ∧ RepL K ρ P ds vs := by
  by_cases z : ∃ ds, d = .tup ds
  · obtain ⟨es, rfl⟩ := z
    cases w with
    | tup q r =>
      have e : some es = some ds := e
      cases e
      exact ⟨_, _, rfl, .inr (.of (s.sub _ _ q rfl)), r⟩
  · have e : seqD d h = some ds := by
      cases d with
      | tup ds => exact absurd ⟨ds, rfl⟩ z
      | _ => exact e
    obtain ⟨a, vs, rfl, sq, r⟩ := seqD_sq s w e
    exact ⟨a, vs, rfl, .inl sq, r⟩
def mStar (ma : M D) (mr : M (List D)) : M (List D) := fun env h => (ma env h).bind fun a h1 => match spreadD a h1 with
  | some ds => (mr env h1).bind fun r h2 => .ok (ds ++ r) h2
  | none => .bad
theorem sd_star {ta : TE} {t : TA} {ma : M D} {mr : M (List D)} (ha : Sd K (RV K) E ta ma) (hr : Sd K (RVs K) E t mr) : Sd K (RVs K) E (StX.tStar K ta t) (mStar ma mr) := fun ρ P σ H env h s re Q p =>
  ha ρ P σ H env h s re _ (Post.bind p fun d h1 ρ1 P1 H1 v t1 s1 w1 p1 => by
    cases e : spreadD d h1 with
    | none => simp only [e] at p1; exact p1.elim
    | some ds =>
      simp only [e] at p1
      obtain ⟨q, vs, rfl, hq, r⟩ := spreadD_ok s1 w1 e
      exact ⟨q, vs, rfl, hq.symm, hr _ _ _ _ _ _ s1 (re.step t1) _ (Post.bind p1 fun es h2 ρ2 P2 H2 us t2 s2 w2 p2 => Post.here (L := RVs K) p2 s2 ((r.step t2).append w2))⟩)
variable {X : Cx} {e : Expr} {es : List Expr} {te : TE} {t : TA} {me : M D} {m : M (List D)} {sp : Pos}
theorem ja_star (ha : JE K E X e te me) (hr : JA K E X es t m) (hs : starEach (.Starred e sp :: es) X.env = (true, eval e X.env) :: starEach es X.env := by rfl) : JA K E X (.Starred e sp :: es) (StX.tStar K te t) (mStar me m) := by
  obtain ⟨hK, hp, hq⟩ := ha
  subst hK
  exact ⟨rfl, StX.pa_star hp hr.p hs, sd_star hq hr.s⟩
end
end Ab

/-! enumerate of a tuple: how the thing is made (the turns are still to be done). -/
namespace Ab
open PySem PySem.Spec PyProof.Rows L2
/-- the tuple's own iterator, then the enumerate over it -/
abbrev tupIt (l : Addr) : Obj := { cls := .type "tuple_iterator", data := .fields #[.ref l, .int 0 0] }
abbrev enumOver (it : Addr) : Obj := { cls := .type "enumerate", data := .fields #[.none, .bool false, .ref it, rawInt 0, .none, .none] }
theorem meets_enum_tup (l : Addr) (items : Array Value) (n : Nat) (dct : Option Addr) (sl : Array (Option Value)) :
    Meets (Builtin.«enumerate.__new__» ⟨[.type "enumerate", .ref l], []⟩) (fun _ R s0 => s0.heap.get? l = some { cls := .type "tuple", dict := dct, data := .seq items n, slots := sl } ∧
      R (.ok (.ret (.ref (s0.heap.push (tupIt l)).objs.size))) { s0 with heap := (s0.heap.push (tupIt l)).push (enumOver s0.heap.objs.size) }) :=
  .of_wp fun prog w A R s0 hyp => by
    obtain ⟨hp, gs, dr, tk, os⟩ := s0
    obtain ⟨there, go⟩ := hyp
    have hsub := sub_enumerate
    have isT : hp.IsTuple l items := ⟨_, there, rfl, n, rfl⟩
    wp_walk
    refine wpAny_stack_any fun frames => wpAny_pure ?_
    split
    · rename_i c0 _ _ _ _ _
      cases (c0 == Value.type "enumerate")
      · wp_walk using wpAny_loadPart' there, wpAny_pyIter_tuple isT
        exact ⟨_, rfl, go⟩
      · wp_walk using wpAny_loadPart' there, wpAny_pyIter_tuple isT
        exact ⟨_, rfl, go⟩
    · wp_walk using wpAny_loadPart' there, wpAny_pyIter_tuple isT
      exact ⟨_, rfl, go⟩
theorem call_enum_tup {prog : Program} {w : World} {A : Around} {E : Value → Shared → Prop} {s : Shared} {l : Addr} {items : Array Value} {Q : Value → Shared → Prop} (isT : s.heap.IsTuple l items)
    (go : ∀ h2, IsEnum h2 (s.heap.objs.size + 1) s.heap.objs.size 0 .none → h2.IsTupleIter s.heap.objs.size l 0 → h2.objs.size = s.heap.objs.size + 2 → (∀ b o, s.heap.get? b = some o → h2.get? b = some o) → Q (.ref (s.heap.objs.size + 1)) { s with heap := h2 }) :
    wpAny (model prog w) A (call (.type "enumerate") [.ref l]) Q E s := by
  obtain ⟨⟨c0, dct, dt, sl⟩, there, ec, n, ed⟩ := isT
  replace ec : c0 = .type "tuple" := ec
  replace ed : dt = .seq items n := ed
  subst ec ed
  refine callType_new F.called_enumerate (by decide) (F.typeCall_enumerate_1 _) (F.newCall_enumerate_1 _) (fun o => F.args_object_init_2 o _) F.entry_enumerate_new (meets_enum_tup l items n dct sl) ⟨there, ?_⟩
  have sz : (s.heap.push (tupIt l)).objs.size = s.heap.objs.size + 1 := Heap.size_push ..
  show _ ∧ _
  rw [sz]
  have at1 : IsEnum ((s.heap.push (tupIt l)).push (enumOver s.heap.objs.size)) (s.heap.objs.size + 1) s.heap.objs.size 0 .none := by
    have q := Heap.get?_push_size (s.heap.push (tupIt l)) (o := enumOver s.heap.objs.size) rfl
    rw [sz] at q
    exact q
  exact ⟨⟨_, at1, rfl⟩, go _ at1 ⟨_, Heap.get?_push_of_some _ (Heap.get?_push_size _ rfl), rfl, rfl⟩ (by rw [Heap.size_push, sz]) fun b o z => Heap.get?_push_of_some _ (Heap.get?_push_of_some _ z)⟩
/-- the tuple at a, each item in a new pair -/
def IteT (K : PySem.W.Frag) (a : Addr) : It :=
  ⟨fun i H => ∃ (xs : List V) (x : V), SqT K H a xs ∧ xs[i]? = some x, fun i H v H2 => ∃ T x, v = .ref T ∧ H T = none ∧ H2 = upd H T (.tup [.int (i : Nat), x]) ∧ ∀ xs, SqT K H a xs → xs[i]? = some x, fun i H => ∃ xs : List V, SqT K H a xs ∧ xs.length ≤ i⟩
theorem turn_enumT {P : Program} {w : World} {K : PySem.W.Frag} {elts : List Expr} {kk : Nat} {tpos : Pos} (a e it : Addr) :
    Turn P w K (.Tuple elts kk tpos) (IteT K a) [e, it] e (fun i h => (∃ old, IsEnum h e it ((i : Nat) : Int) old) ∧ h.IsTupleIter it a i ∧ e ≠ it) where
  mem := by simp
  obj := fun i h st b hb => by
    obtain ⟨⟨old, he⟩, ⟨o, ho, hc, hd⟩, _⟩ := st
    rcases (show b = e ∨ b = it by simpa using hb) with rfl | rfl
    · exact ⟨_, he, fun v q => nomatch q⟩
    · exact ⟨o, ho, fun v q => by rw [hd] at q; cases q⟩
  keep := fun i h h' st k => let ⟨⟨old, he⟩, hi, hne⟩ := st; ⟨⟨old, k e (by simp) _ he⟩, hi.at fun o q => k it (by simp) o q, hne⟩
  item := by
    intro X hP hw hK hc i pins s σ H E I hf st hg
    subst hP hw hK
    obtain ⟨⟨old, he⟩, hit, hne⟩ := st
    obtain ⟨xs, x, hq, hx⟩ := hg
    obtain ⟨its, rv, p, hz⟩ := I.tuple hq
    obtain ⟨u, hu, ru⟩ := rv.get hx
    have isT : s.heap.IsTuple a its.toArray := p
    have hel : e < s.heap.objs.size := Heap.lt_size he
    have hil : it < s.heap.objs.size := by obtain ⟨_, q, _⟩ := hit; exact Heap.lt_size q
    have ai : a ≠ it := fun z => by
      subst z
      obtain ⟨o1, g1, c1, _⟩ := hit
      obtain ⟨o2, g2, c2, _⟩ := isT
      rw [g1] at g2
      cases g2
      rw [c1] at c2
      injection c2 with z
      exact absurd z (by decide)
    have ae : e ∉ [it, a] := fun z => by
      rcases (show e = it ∨ e = a by simpa using z) with z | z
      · exact hne z
      · subst z
        obtain ⟨o2, g2, c2, _⟩ := isT
        rw [he] at g2
        cases g2
        injection c2 with z
        exact absurd z (by decide)
    have lt : i < its.toArray.size := by
      have := (List.getElem?_eq_some_iff.mp hu).1
      rw [List.size_toArray]; exact this
    refine wpAny_pyNext_enum_itemD (Draws.tuple (prog := X.prog) (w := X.w) (A := X.A.in1) (show X.A.in1.handled = none from I.ok.hd hc) it a ai its.toArray) he ⟨hit, isT⟩ lt hne ae fun y h2 tk hy ho st2 hT hsz hk => ?_
    have ey : y = u := by
      have hy : its.toArray[i]? = some y := hy
      rw [List.getElem?_toArray, hu] at hy
      exact (Option.some.inj hy).symm
    subst ey
    refine ⟨_, rfl, wpAny_letOwnedTupleGo_enum (s := { s with heap := h2, toks := tk + 1 }) ho fun h3 he3 sb => ?_⟩
    have hT3 : h3.get? s.heap.objs.size = some { cls := .type "tuple", data := .seq #[.int i tk, y] } := (sb.2 _ (Nat.ne_of_gt hel)).trans hT
    have new : ObjOk X.prog X.w (upd H s.heap.objs.size (.tup [.int (i : Nat), x])) h3 s.heap.objs.size (.tup [.int (i : Nat), x]) :=
      ⟨by show 2 ≤ sizeLine; decide, [.int i tk, y], .cons ⟨_, rfl⟩ (.cons ru .nil), ⟨_, hT3, rfl, _, rfl⟩⟩
    have I1 : Inv X pins σ (upd H s.heap.objs.size (.tup [.int (i : Nat), x])) { s with heap := h3, toks := tk + 1 } :=
      I.turnedNew (ch := [e, it]) (fun b ob hb q => (sb.2 b (fun z => hb (by simp [z]))).trans (hk b ob (fun z => hb (by simp [z])) (fun z => hb (by simp [z])) q)) hf (Nat.le_refl _) new
    refine ⟨.ref s.heap.objs.size, _, I1, rfl, ⟨_, x, rfl, I.hok.fresh (Nat.le_refl _), rfl, fun ys hy => ?_⟩, ⟨⟨y, ?_⟩, st2.1.at fun o q => (sb.2 it (Ne.symm hne)).trans q, hne⟩, fun b hb => ?_⟩
    · rw [I.tuple_inj hy hq]; exact hx
    · have e1 : ((i + 1 : Nat) : Int) = (i : Int) + 1 := by omega
      rw [e1]; exact he3
    · have hb2 : b < s.heap.objs.size := by
        rcases (show b = e ∨ b = it by simpa using hb) with z | z
        · rw [z]; exact hel
        · rw [z]; exact hil
      rw [upd_ne (Nat.ne_of_lt hb2)]
      exact (hf b hb).1
  done := by
    intro X hP hw hK hc i pins s σ H E I hf st hg
    subst hP hw hK
    obtain ⟨⟨old, he⟩, hit, hne⟩ := st
    obtain ⟨xs, hq, hx⟩ := hg
    obtain ⟨its, rv, p, hz⟩ := I.tuple hq
    obtain ⟨f0, f1, f2, f3, f4, f5⟩ := hf it (by simp)
    have hl := rv.length
    have isT : s.heap.IsTuple a its.toArray := p
    have D : Draws X.prog X.w X.A.in1 it [it, a] i (fun _ _ => True) (fun j h => j = i ∧ h.IsTupleIter it a i ∧ h.IsTuple a its.toArray) :=
      { live := fun _ _ st => let ⟨o, ho, _⟩ := st.2.1; ⟨o, ho⟩
        frame := fun _ _ _ st hk => ⟨st.1, st.2.1.at fun o e => hk it (by simp) o e, st.2.2.at fun o e => hk a (by simp) o e⟩
        item := fun j s Q E hj st _ => absurd st.1 (Nat.ne_of_lt hj)
        done := fun s Q E st hE => wpAny_nextOf_tuple_end (show X.A.in1.handled = none from I.ok.hd hc) st.2.1 st.2.2 (by simp; omega) hE }
    exact wpAny_pyNext_enum_endD D he ⟨rfl, hit, isT⟩ fun h2 eb => ⟨rfl, I.turned (t' := s.toks) (fun b o hb q => eb b o hb q) f0 f1 f3 f4 f5⟩
  self := fun A i s Q E st h => let ⟨⟨_, he⟩, _⟩ := st; wpAny_pyIter_enum he h
def iEnumA (K : PySem.W.Frag) (ta : TA) : TI := fun σ H R => ta σ H fun vs H1 => ∃ a xs, vs = [.ref a] ∧ ((SqL K H1 a xs ∧ R (Ite K a) H1) ∨ (SqT K H1 a xs ∧ R (IteT K a) H1))
theorem pi_enumA {X : Cx} {e : Expr} {ta : TA} {p pos tpos : Pos} {elts : List Expr} {kk : Nat} (hg : Gl X "enumerate") (hm : X.mg "enumerate" = none) (ha : PA X [e] ta) (hs : starEach [e] X.env = [(false, eval e X.env)] := by rfl) :
    PI X (.Tuple elts kk tpos) (.Call (.Name "enumerate" p) [e] [] pos) (iEnumA X.K ta) := by
  refine ⟨fun pins s σ H R I h => ?_⟩
  refine Call_ (ld_blt I hg hm boot_enumerate (PyProof.Rows.callWith_type1 (thn (ha.run pos pins s σ H _ I h) fun us s1 z => ?_) hs rfl))
  obtain ⟨vs, H1, I1, r1, a, xs, ex, q⟩ := z
  subst ex
  cases r1 with
  | cons r rr =>
    cases rr
    cases r
    have fin : ∀ b ∈ [s1.heap.objs.size + 1, s1.heap.objs.size], s1.heap.objs.size ≤ b := fun b hb => by
      rcases (show b = s1.heap.objs.size + 1 ∨ b = s1.heap.objs.size by simpa using hb) with z | z <;> omega
    rcases q with ⟨hq, q⟩ | ⟨hq, q⟩
    · obtain ⟨its, rv, pl, hz⟩ := I1.list hq
      refine call_enumerate_list pl.isList fun h2 he hit hsz hk => wpAny_pyIter_enum he ?_
      exact ⟨s1.heap.objs.size + 1, [s1.heap.objs.size + 1, s1.heap.objs.size], _, _, H1, rfl, I1.kept (t' := s1.toks) hk, turn_enum a (s1.heap.objs.size + 1) s1.heap.objs.size, ⟨⟨.none, he⟩, hit, Nat.succ_ne_self _⟩, fun b hb => I1.fpOk (fin b hb) (I1.hok.fresh (fin b hb)), q⟩
    · obtain ⟨its, rv, pl, hz⟩ := I1.tuple hq
      refine call_enum_tup (show s1.heap.IsTuple a its.toArray from pl) fun h2 he hit hsz hk => wpAny_pyIter_enum he ?_
      exact ⟨s1.heap.objs.size + 1, [s1.heap.objs.size + 1, s1.heap.objs.size], _, _, H1, rfl, I1.kept (t' := s1.toks) hk, turn_enumT a (s1.heap.objs.size + 1) s1.heap.objs.size, ⟨⟨.none, he⟩, hit, Nat.succ_ne_self _⟩, fun b hb => I1.fpOk (fin b hb) (I1.hok.fresh (fin b hb)), q⟩
end Ab

/-! enumerate: the pairs. -/
namespace Ab
open PySem PySem.Spec L2
section
variable {K : PySem.W.Frag} {E : XK} {ρ ρ' ρ1 : Ro} {P H P' H' P1 H1 : Hp}
def enumD (ds : List D) : List D := ds.zipIdx.map fun p => D.tup [.int (p.2 : Nat), p.1]
theorem enum_get {ds : List D} {i : Nat} {d : D} (e : (enumD ds)[i]? = some d) : ∃ x, ds[i]? = some x ∧ d = .tup [.int (i : Nat), x] := by
  unfold enumD at e
  rw [List.getElem?_map, List.getElem?_zipIdx] at e
  cases q : ds[i]? with
  | none => rw [q] at e; cases e
  | some x =>
    rw [q] at e
    refine ⟨x, rfl, ?_⟩
    simpa using e.symm
theorem enum_end {ds : List D} {i : Nat} (e : (enumD ds)[i]? = none) : ds.length ≤ i := by
  unfold enumD at e
  rw [List.getElem?_eq_none_iff, List.length_map, List.length_zipIdx] at e
  exact e
theorem itOk_E {h : AH} {a : Addr} {vs : List V} {xs : List D} (q1 : SqL K P a vs) (r1 : RepL K ρ P xs vs) : ItOk K ρ P H (.items (enumD xs)) (Ite K a) := fun ρ' P' H' tm tp _ h' s i => by
  have q1' : SqL K H' a vs := sqL_s s.sub (sqL_sub tp q1)
  have r1' := r1.up tm tp
  refine ⟨fun d e => ?_, fun e => ⟨vs, q1', by rw [r1'.length]; exact enum_end e⟩⟩
  obtain ⟨x, e1, rfl⟩ := enum_get e
  obtain ⟨v, ev, rv⟩ := r1'.get e1
  refine ⟨⟨vs, v, q1', ev⟩, fun z H2 yy => ?_⟩
  obtain ⟨T, x', rfl, hT, rfl, z1⟩ := yy
  have z1 := z1 vs q1'
  rw [ev] at z1
  cases z1
  exact pair_new s hT (.int _) rv
theorem itOk_ET {h : AH} {a : Addr} {vs : List V} {xs : List D} (q1 : SqT K P a vs) (r1 : RepL K ρ P xs vs) : ItOk K ρ P H (.items (enumD xs)) (IteT K a) := fun ρ' P' H' tm tp _ h' s i => by
  have q1' : SqT K H' a vs := sqT_s s.sub (sqT_sub tp q1)
  have r1' := r1.up tm tp
  refine ⟨fun d e => ?_, fun e => ⟨vs, q1', by rw [r1'.length]; exact enum_end e⟩⟩
  obtain ⟨x, e1, rfl⟩ := enum_get e
  obtain ⟨v, ev, rv⟩ := r1'.get e1
  refine ⟨⟨vs, v, q1', ev⟩, fun z H2 yy => ?_⟩
  obtain ⟨T, x', rfl, hT, rfl, z1⟩ := yy
  have z1 := z1 vs q1'
  rw [ev] at z1
  cases z1
  exact pair_new s hT (.int _) rv
def enumA (ds : List D) : Option (List D) := match ds with
  | [.lst xs] => some (enumD xs)
  | [.tup xs] => some (enumD xs)
  | _ => none
theorem enumA_ok {h : AH} {ds : List D} {vs : List V} {l : List D} (s1 : SR K ρ P H h) (w : RepL K ρ P ds vs) (e : enumA ds = some l) : ∃ a xs, vs = [.ref a] ∧ ((SqL K H a xs ∧ ItOk K ρ P H (.items l) (Ite K a)) ∨ (SqT K H a xs ∧ ItOk K ρ P H (.items l) (IteT K a))) := by
  unfold enumA at e
  split at e
  · cases e
    obtain ⟨v, rfl, r1⟩ := w.one
    cases r1 with
    | lst q1 r1 => exact ⟨_, _, rfl, .inl ⟨.of (s1.sub _ _ q1 rfl), itOk_E (h := h) (.of q1) r1⟩⟩
  · cases e
    obtain ⟨v, rfl, r1⟩ := w.one
    cases r1 with
    | tup q1 r1 => exact ⟨_, _, rfl, .inr ⟨.of (s1.sub _ _ q1 rfl), itOk_ET (h := h) (.of q1) r1⟩⟩
  · cases e
def miEnum (m : M (List D)) : MI := fun env h => (m env h).bind fun ds h1 => match enumA ds with
  | some l => .ok (.items l) h1
  | none => .bad
theorem si_enum {t : TA} {m : M (List D)} (ha : Sd K (RVs K) E t m) : SdI K E (iEnumA K t) (miEnum m) := fun ρ P σ H env h s re Q p =>
  ha ρ P σ H env h s re _ (Post.bindI p fun ds h1 ρ1 P1 H1 v t1 s1 w1 p1 => by
    cases e : enumA ds with
    | none => simp only [e] at p1
    | some l =>
      simp only [e] at p1
      obtain ⟨a, xs, rfl, q⟩ := enumA_ok s1 w1 e
      rcases q with ⟨q1, ok⟩ | ⟨q1, ok⟩
      · exact ⟨a, xs, rfl, .inl ⟨q1, p1 ρ1 P1 H1 _ (Step.refl ..) s1 ok⟩⟩
      · exact ⟨a, xs, rfl, .inr ⟨q1, p1 ρ1 P1 H1 _ (Step.refl ..) s1 ok⟩⟩)
variable {X : Cx} {e : Expr} {t : TA} {m : M (List D)} {pos pn tpos : Pos} {elts : List Expr} {kk : Nat}
theorem ji_enum (hm : X.mg "enumerate" = none) (ha : JA K E X [e] t m) (hg : Gl X "enumerate" := by rfl) (hs : starEach [e] X.env = [(false, eval e X.env)] := by rfl) : JI K E X (.Tuple elts kk tpos) (.Call (.Name "enumerate" pn) [e] [] pos) (iEnumA K t) (miEnum m) := by
  obtain ⟨hK, hp, hq⟩ := ha
  subst hK
  exact ⟨rfl, pi_enumA hg hm hp hs, si_enum hq⟩
end
end Ab

/-! Dict comprehensions whose keys are flat tuples. -/
namespace Ab
open PySem PySem.Spec L2
/-- a pair is put by a comprehension, its key a tuple -/
theorem dc_putT {X : Cx} {pins : List (Addr × Obj)} {σ : L2.St} {H : Hp} {s : Shared} {E : Value → Shared → Prop} {D b : Addr} {kvs : List (List Key × V)} {k : List Key} {v : V} {u r : Value} {Q : Unit → Shared → Prop}
    (hu : X.A.units < cLine) (I : Inv X pins σ H s) (hD : H D = some (.dT kvs)) (hb : H b = some (.tup (k.map kV))) (hz : kvs.length < sizeLine) (ry : RelV (.ref b) u) (rv : RelV v r) (h : ∀ s', Inv X pins σ (upd H D (.dT (putK kvs k v))) s' → Q () s') :
    wpAny (model X.prog X.w) X.A (dictSet D u r) Q E s := by
  cases (show u = Value.ref b from ry)
  obtain ⟨z, hd, xs, rel, dd⟩ := dt_of I.hok hD
  have hzx : xs.length ≤ sizeLine := by
    have := Paired.length rel
    omega
  have hlen : (putK kvs k v).length ≤ sizeLine := by
    have := length_putK kvs k v
    omega
  refine wpAny_dictSet_heap (hsz := hzx) (show (tupleKind (mixKind X.prog X.w)).room X.A from hu) (key_of I.hok hb) dd fun h2 dd2 hs => h _ ?_
  obtain ⟨q, es, ep, hq, a2, a3, a4, _, a5⟩ := dd2
  have rel2 : KT (upd H D (.dT (putK kvs k v))) (putK kvs k v) _ := (rel.put k hb rv).keeps fun c ys ec => by
    have ne : c ≠ D := fun z => by rw [z, hD] at ec; cases ec
    rw [upd_ne ne]
    exact ec
  exact d_write I (by rw [hD]; exact True.intro) hs ⟨q, hq⟩ ⟨hlen, hd, _, rel2, q, es, ep, hq, a2, a3, a4, a5⟩
end Ab

/-! One core for the comprehensions of every kind. -/
namespace Ab
open PySem PySem.Spec L2 PyProof.Rows
/-- what a turn does behind its tests: from a state to all states behind -/
abbrev Act := Addr → Env → (Shared → Prop) → Shared → Prop
abbrev TAct := Addr → L2.St → Hp → (Hp → Prop) → Prop
def ActOk (X : Cx) (act : Act) (vs : List Nat) (t : TAct) : Prop := ∀ (D : Addr) (pins : List (Addr × Obj)) (s : Shared) (σ : L2.St) (H : Hp) (Q : Hp → Prop), Inv X pins σ H s → t D σ H Q →
  act D X.env (fun z => ∃ σ2 H2, Inv X pins σ2 H2 z ∧ σ2.length = σ.length ∧ (∀ (j : Nat) v, j ∉ vs → σ[j]? = some (some v) → σ2[j]? = some (some v)) ∧ Q H2) s
def ActMono (act : Act) : Prop := ∀ (D : Addr) (e : Env) (Q R : Shared → Prop) (s : Shared), (∀ z, Q z → R z) → act D e Q s → act D e R s
/-- no error comes -/
abbrev Nox : Value → Shared → Prop := fun _ _ => False
def testing (ifs : List Expr) (e : Env) : Sem Bool := forIn ifs true fun c r => if r = true then do let b ← isTrue c e (eval c e); pure (ForInStep.yield b) else pure (ForInStep.yield r)
def LoopOk (P : Program) (w : World) (A : Around) (comp tg : Expr) (ifs : List Expr) (ix : Nat) (act : Act) : Prop := ∀ (R : Result → Shared → Prop) (it : Value) (D : Addr) (e : Env) (I : Nat → Shared → Prop),
  (∀ n s, I n s → wpAny (model P w) A (pyNext it) (fun r s1 => match r with
    | none => R (.ok .next) s1
    | some v => wpAny (model P w) A (letOwnedTupleGo tg it v) (fun _ s2 => wpAny (model P w) A (assign tg e v) (fun _ s3 => wpAny (model P w) A (testing ifs e) (fun b s4 =>
        if b = true then act D e (fun z => ∃ m, m < n ∧ I m z) s4 else ∃ m, m < n ∧ I m s4) Nox s3) Nox s2) Nox s1) Nox s) →
  ∀ (n : Nat) (s : Shared), I n s → codeAny (model P w) A (.compLoop comp ix it (.ref D) e) R s
/-- what a comprehension's frame asks; o0: what stands at its thing's place when it is made -/
def tCore (o0 : Addr → HO) (wi : TI) (g : TG) (tt : TT) (ta : TAct) (vs : List Nat) : TE := fun σ H Q => wi σ H fun J H1 => ∀ D, H1 D = none → ∃ W : Nat → Nat → Hp → Prop, (∃ m, W 0 m (upd H1 D (o0 D))) ∧ ∀ i m H, W i m H →
  (J.stop i H ∧ Q (.ref D) H) ∨ (J.go i H ∧ ∃ Nx : Hp → Prop, (∀ Z, Nx Z → ∃ k, k < m ∧ W (i + 1) k Z) ∧ ∀ x Z, J.yld i H x Z → g x (wipe σ vs) Z fun σ2 H2 => wipe σ2 vs = wipe σ vs ∧ tt σ2 H2 fun b H3 =>
    if b = true then ta D σ2 H3 Nx else Nx H3)
section
variable {X : Cx}
theorem core_run {pins : List (Addr × Obj)} {s : Shared} {σ : L2.St} {H : Hp} {Q : VK} {comp tg iter : Expr} {ifs : List Expr} {gens : List Comprehension} {scope : Scope} {own : List (PySem.Str × Nat)} {vs1 : List Nat} {pos : Pos} {mk : Sem Value} {o0 : Addr → HO} {wi : TI} {g : TG} {tt : TT} {ta : TAct} {act : Act} {use : Option (Value → Sem Unit)} {Qf : Value → Shared → Prop}
    (hcl : clausesOf comp = ⟨tg, iter, ifs, 0⟩ :: gens)
    (hmk : ∀ (s : Shared) (σ : L2.St) (H : Hp) (R : Value → Shared → Prop), Inv X pins σ H s → (∀ z : Shared, z.heap.objs.size = s.heap.objs.size + 1 → (∀ b o, s.heap.get? b = some o → z.heap.get? b = some o) → Inv X pins σ (upd H s.heap.objs.size (o0 s.heap.objs.size)) z → R (.ref s.heap.objs.size) z) → wpAny (model X.prog X.w) X.A mk R X.xe s)
    (hst : ∀ (R : Result → Shared → Prop) (s : Shared) (it acc : Value) (e : Env), codeAny (model X.prog X.w) X.A (.compLoop comp 0 it acc e) R s → wpAny (model X.prog X.w) X.A (pyIter it) (fun it2 z => codeAny (model X.prog X.w) X.A (.compLoop comp 0 it2 acc e) R z) Nox s → codeAny (model X.prog X.w) X.A (.compStart comp 0 it acc e) R s)
    (hlo : LoopOk X.prog X.w X.A comp tg ifs 0 act) (hmo : ActMono act) (hc : X.calm = true) (hN : X.N.Nodup) (I : Inv X pins σ H s) (hi : PI X tg iter wi) (ok : BlkOk X.N X.env.scope scope own) (hv : ∀ i ∈ vs1, i ∈ own.map (·.2))
    (hg : ∀ (s : Shared) (H : Hp) (C : Addr) (cl : List (PySem.Str × Addr)) (fp : List Addr), PG (X.blk s H scope (compEnvC scope cl C X.env) fp) tg g) (ht : ∀ (s : Shared) (H : Hp) (C : Addr) (cl : List (PySem.Str × Addr)) (fp : List Addr), PTs (X.blk s H scope (compEnvC scope cl C X.env) fp) ifs tt)
    (ha : ∀ (s : Shared) (H : Hp) (C : Addr) (cl : List (PySem.Str × Addr)) (fp : List Addr), ActOk (X.blk s H scope (compEnvC scope cl C X.env) fp) act vs1 ta) (hs : ∀ x, foldedSetIterable iter X.env x = pure x)
    (h : tCore o0 wi g tt ta (own.map (·.2)) σ H Q)
    (hRR : ∀ D C z m Z, Inv X pins σ Z z → Q (.ref D) Z → z.heap.Ns C m → FpOk X pins Z C → compPost (model X.prog X.w) X.A X.xe use Qf (.ref D) C (.ok .next) z) :
    wpAny (model X.prog X.w) X.A (comprehension comp scope X.env pos mk false (eval iter X.env) use) Qf X.xe s := by
  refine wpAny_comprehension_free (use := use) hcl hs (closure_ok fun y hy e => (ok.free y hy e).elim (fun k => I.ok.has _ (.inl k)) fun k => I.ok.has _ (.inr k)) ok.kind (fun y hy e => (ok.uniq y hy).trans (by rw [e]))
    (thn (hi.run pins s σ H _ I h) fun xv s1 hx => thn hx fun itv s2 h2 => ?_)
  obtain ⟨it, fp, tn, J, H2, ei, I2, T, st2, f2, q⟩ := h2
  subst ei
  refine hmk s2 σ H2 _ I2 fun s3 z3 k3 I3 => newEnv_comp ?_
  obtain ⟨W, ⟨m0, w0⟩, turn⟩ := q s2.heap.objs.size (I2.hok.fresh (Nat.le_refl _))
  generalize eD : s2.heap.objs.size = D at z3 I3 turn w0 ⊢
  have f3 : ∀ b ∈ fp, FpOk X pins (upd H2 D (o0 D)) b ∧ b < s3.heap.objs.size := fun b hb => by
    obtain ⟨o, e, _⟩ := T.obj _ _ st2 b hb
    have lt := Heap.lt_size e
    rw [eD] at lt
    refine ⟨⟨?_, (f2 b hb).2⟩, by rw [z3]; exact Nat.lt_succ_of_lt lt⟩
    rw [upd_ne (Nat.ne_of_lt lt)]
    exact (f2 b hb).1
  have I4 := block_start I3 ok hN f3
  have Ck := fun b (hb : b ∈ fp) o (e : s2.heap.get? b = some o) => k3 b o e
  have st3 : tn 0 s3.heap := T.keep _ _ _ st2 Ck
  generalize eC : cellsFrom (s3.heap.objs.size + 1) scope.names (cloFrom X.env.cells scope.names []) = CL at I4
  have pg := hg s3 (upd H2 D (o0 D)) s3.heap.objs.size CL fp
  have pt := ht s3 (upd H2 D (o0 D)) s3.heap.objs.size CL fp
  have pa := ha s3 (upd H2 D (o0 D)) s3.heap.objs.size CL fp
  have nfp : ∀ b ∈ fp, (upd H2 D (o0 D)) b = none := fun b hb => (f3 b hb).1.1
  generalize ece : compEnvC scope CL s3.heap.objs.size X.env = ce at I4 pg pt pa
  have cL : ce.locals = s3.heap.objs.size := by subst ece; rfl
  generalize upd H2 D (o0 D) = H3 at I3 I4 pg pt pa w0 nfp f3
  have st4 : tn 0 (pushCells (s3.heap.push { cls := .type "dict", data := .dict #[] }) scope.names) := T.keep _ _ _ st3 fun b _ o e => pushCells_keeps _ _ _ _ (Heap.get?_push_of_some _ e)
  have apart : ∀ {σ' : L2.St} {Z : Hp} {z : Shared}, Inv (X.blk s3 H3 scope ce fp) [] σ' Z z → (∀ b ∈ fp, Z b = none) → ∀ b ∈ fp, FpOk (X.blk s3 H3 scope ce fp) [] Z b := fun J' hn b hb =>
    ⟨hn b hb, (J'.ok.exf b hb).1, J'.ok.exfs b hb, .inl hb, fun x c e => (J'.ok.exf b hb).2 x c e, fun p hp => nomatch (show p ∈ ([] : List (Addr × Obj)) ++ [] from hp)⟩
  show codeAny _ _ (.compStart comp 0 (.ref it) (.ref D) (compEnvC scope CL s3.heap.objs.size X.env)) (compPost (model X.prog X.w) X.A X.xe use Qf (.ref D) s3.heap.objs.size) { s3 with heap := pushCells (s3.heap.push { cls := .type "dict", data := .dict #[] }) scope.names }
  rw [ece]
  generalize eq4 : ({ s3 with heap := pushCells (s3.heap.push { cls := .type "dict", data := .dict #[] }) scope.names } : Shared) = s4 at I4 ⊢
  have st4 : tn 0 s4.heap := by rw [← eq4]; exact st4
  refine hst _ _ _ _ _ ?loop (T.self X.A 0 _ _ _ st4 ?loop)
  refine hlo _ _ _ _ (fun n z => ∃ i Z, Inv (X.blk s3 H3 scope ce fp) [] (wipe σ (own.map (·.2))) Z z ∧ tn i z.heap ∧ (∀ b ∈ fp, Z b = none) ∧ W i n Z) ?_ m0 _ ⟨0, H3, I4, st4, nfp, w0⟩
  rintro n s5 ⟨i, H5, I5, st5, n5, w5⟩
  rcases turn i n H5 w5 with ⟨stop, qq⟩ | ⟨go, Nx, hNx, step⟩
  · refine thnF (T.done (X.blk s3 H3 scope ce fp) rfl rfl rfl hc i [] s5 _ H5 Nox I5 (apart I5 n5) st5 stop) fun r s6 ⟨hr, I6⟩ => ?_
    subst hr
    have nC : H5 ce.locals = none := I6.free
    obtain ⟨m, hn, _⟩ := I6.loc
    have hn : s6.heap.Ns ce.locals m := hn
    rw [cL] at hn nC
    exact hRR D _ s6 m H5 (I3.call' (ch := fp) I6.os I6.base I6.hok I6.bare fun b hb => let k := (f3 b hb).1.2; ⟨k.2.2.1, k.1, k.2.2.2.1, k.2.2.2.2⟩) qq hn (I3.fpOk (Nat.le_refl _) nC)
  · refine thnF (T.item (X.blk s3 H3 scope ce fp) rfl rfl rfl hc i [] s5 _ H5 Nox I5 (apart I5 n5) st5 go) fun r s6 ⟨u, hr, h6⟩ => ?_
    subst hr
    refine thnF h6 fun _ s7 ⟨x, H7, I7, r7, y7, st7, n7⟩ => ?_
    refine thnF (pg.run _ s7 _ H7 x u _ (I7.pinned (apart I7 n7) (T.obj _ _ st7)) r7 (step x H7 y7)) fun _ s8 ⟨σ8, H8, I8, hw8, q8⟩ => ?_
    refine thnF (pt.run _ s8 σ8 H8 _ I8 q8) fun b s9 ⟨H9, I9, q9⟩ => ?_
    have fin : ∀ {σ9 : L2.St} {z : Shared} {Z : Hp}, Inv (X.blk s3 H3 scope ce fp) ([] ++ pinsAt fp s7.heap) σ9 Z z → σ9.length = σ8.length → (∀ (j : Nat) v, j ∉ vs1 → σ8[j]? = some (some v) → σ9[j]? = some (some v)) → Nx Z →
        ∃ k, k < n ∧ ∃ i Z, Inv (X.blk s3 H3 scope ce fp) [] (wipe σ (own.map (·.2))) Z z ∧ tn i z.heap ∧ (∀ b ∈ fp, Z b = none) ∧ W i k Z := fun {σ9 z Z} J9 hl hk nx => by
      obtain ⟨k, lt, w'⟩ := hNx Z nx
      have kp : ∀ b ∈ fp, ∀ o, s7.heap.get? b = some o → z.heap.get? b = some o ∧ Z b = none := fun b hb o e => (J9.pin (b, o) (List.mem_append_right _ (List.mem_append_right _ (mem_pinsAt hb e)))).imp_right (·.1)
      refine ⟨k, lt, i + 1, Z, (J9.unpinned (pins := [])).weak ?_ (fun j v e => ?_), T.keep _ _ _ st7 fun b hb o e => (kp b hb o e).1, fun b hb => ?_, w'⟩
      · rw [hl, ← hw8, wipe_length]
      · rw [← hw8] at e
        obtain ⟨e1, e2⟩ := wipe_some e
        exact hk j v (fun z => e2 (hv j z)) e1
      · obtain ⟨o, e, _⟩ := T.obj _ _ st7 b hb
        exact (kp b hb o e).2
    cases b with
    | false =>
      rw [if_neg Bool.false_ne_true] at q9 ⊢
      exact fin I9 rfl (fun _ _ _ e => e) q9
    | true =>
      rw [if_pos rfl] at q9 ⊢
      exact hmo _ _ _ _ _ (fun z ⟨σ9, Z, J9, hl, hk, nx⟩ => fin J9 hl hk nx) (pa D _ s9 σ8 H9 Nx I9 q9)
end
end Ab

/-! The core's parts: dict comprehensions. -/
namespace Ab
open PySem PySem.Spec L2 PyProof.Rows
def actD (P : Program) (w : World) (A : Around) (kx vx : Expr) : Act := fun D e Q s => wpAny (model P w) A (eval kx e) (fun k s1 => wpAny (model P w) A (eval vx e) (fun v s2 => wpAny (model P w) A (dictSet D k v) (fun _ z => Q z) Nox s2) Nox s1) Nox s
theorem actD_mono {P : Program} {w : World} {A : Around} {kx vx : Expr} : ActMono (actD P w A kx vx) := fun D e Q R s h q => wpAny_mono q (fun _ _ q => wpAny_mono q (fun _ _ q => wpAny_mono q (fun _ _ q => h _ q) fun _ _ z => z) fun _ _ z => z) fun _ _ z => z
theorem loopD {P : Program} {w : World} {A : Around} {kx vx tg iter : Expr} {ifs : List Expr} {scope : Scope} {pos : Pos} : LoopOk P w A (.DictComp kx vx [⟨tg, iter, ifs, 0⟩] scope pos) tg ifs 0 (actD P w A kx vx) := fun R it D e I turn n s h =>
  by
  refine compLoop_anyD I (fun n s hI => ?_) n h
  refine thnF (turn n s hI) fun r s1 q => ?_
  cases r with
  | none => exact q
  | some v =>
    refine thnF q fun _ s2 q => thnF q fun _ s3 q => thnF q fun b s4 q => ?_
    cases b with
    | false => exact q
    | true => exact thnF q fun _ s5 q => thnF q fun _ s6 q => thnF q fun _ s7 q => q
/-- a pair whose key is a tuple is put -/
def taDT (tk tv : TE) : TAct := fun D σ H Q => tk σ H fun y H1 => tv σ H1 fun z H2 => ∃ b kvs ks, y = .ref b ∧ H2 b = some (.tup (ks.map kV)) ∧ H2 D = some (.dT kvs) ∧ kvs.length < sizeLine ∧ Q (upd H2 D (.dT (putK kvs ks z)))
theorem actDT {X : Cx} {kx vx : Expr} {tk tv : TE} {vs : List Nat} (hu : X.A.units < cLine) (hx : X.xe = Nox) (hk : PE X kx tk) (hv : PE X vx tv) : ActOk X (actD X.prog X.w X.A kx vx) vs (taDT tk tv) := fun D pins s σ H Q I h => by
  have r1 := hk.run pins s σ H _ I h
  rw [hx] at r1
  refine thnF r1 fun k s1 ⟨y, H1, I1, ry, q1⟩ => ?_
  have r2 := hv.run pins s1 σ H1 _ I1 q1
  rw [hx] at r2
  refine thnF r2 fun v s2 ⟨z, H2, I2, rz, b, kvs, ks, ey, hb, hD, hl, q2⟩ => ?_
  subst ey
  exact dc_putT hu I2 hD hb hl ry rz fun s3 I3 => ⟨σ, _, I3, rfl, fun _ _ _ e => e, q2⟩
section
variable {X : Cx}
theorem mk_dT {pins : List (Addr × Obj)} (s : Shared) (σ : L2.St) (H : Hp) (R : Value → Shared → Prop) (I : Inv X pins σ H s)
    (h : ∀ z : Shared, z.heap.objs.size = s.heap.objs.size + 1 → (∀ b o, s.heap.get? b = some o → z.heap.get? b = some o) → Inv X pins σ (upd H s.heap.objs.size (.dT [])) z → R (.ref s.heap.objs.size) z) : wpAny (model X.prog X.w) X.A newDict R X.xe s :=
  wpAny_newObj_type (h _ (Heap.size_push ..) (fun _ _ e => Heap.get?_push_of_some _ e) (I.laid (t' := s.toks) (fun _ _ e => Heap.get?_push_of_some _ e) (Nat.le_refl _) (dt_empty s.heap I.big)))
/-- {key: value for target in iter if ..}, keys tuples, as a value -/
theorem pe_dcT {kx vx tg iter : Expr} {ifs : List Expr} {scope : Scope} {own : List (PySem.Str × Nat)} {pos : Pos} {wi : TI} {g : TG} {tt : TT} {tk tv : TE} (hu : X.A.units < cLine) (hc : X.calm = true) (hN : X.N.Nodup) (hi : PI X tg iter wi) (ok : BlkOk X.N X.env.scope scope own)
    (hg : ∀ (s : Shared) (H : Hp) (C : Addr) (cl : List (PySem.Str × Addr)) (fp : List Addr), PG (X.blk s H scope (compEnvC scope cl C X.env) fp) tg g) (ht : ∀ (s : Shared) (H : Hp) (C : Addr) (cl : List (PySem.Str × Addr)) (fp : List Addr), PTs (X.blk s H scope (compEnvC scope cl C X.env) fp) ifs tt)
    (hk : ∀ (s : Shared) (H : Hp) (C : Addr) (cl : List (PySem.Str × Addr)) (fp : List Addr), PE (X.blk s H scope (compEnvC scope cl C X.env) fp) kx tk)
    (hv : ∀ (s : Shared) (H : Hp) (C : Addr) (cl : List (PySem.Str × Addr)) (fp : List Addr), PE (X.blk s H scope (compEnvC scope cl C X.env) fp) vx tv) (hs : ∀ x, foldedSetIterable iter X.env x = pure x := by intro _; rfl) :
    PE X (.DictComp kx vx [⟨tg, iter, ifs, 0⟩] scope pos) (tCore (fun _ => .dT []) wi g tt (taDT tk tv) (own.map (·.2))) := by
  refine ⟨fun pins s σ H Q I h => ?_⟩
  rw [arm_eval_DictComp]
  refine core_run (vs1 := []) rfl mk_dT (fun R s it acc e h1 h2 => codeAny_compStart_dict h1 (thnF h2 fun _ _ q => q)) loopD actD_mono hc hN I hi ok (fun _ z => nomatch z) hg ht (fun s H C cl fp => actDT hu rfl (hk s H C cl fp) (hv s H C cl fp)) hs h fun D C z m Z I' q hn f => ⟨m, hn, fun h2 sb => ?_⟩
  obtain ⟨f0, f1, f2, f3, f4, f5⟩ := f
  exact ⟨.ref D, Z, I'.turned (t' := z.toks) (fun b o hb e => (sb.2 b hb).trans e) f0 f1 f3 f4 f5, rfl, q⟩
end
end Ab

/-! The core's parts: a second clause. -/
namespace Ab
open PySem PySem.Spec L2 PyProof.Rows
/-- a turn of a comprehension's clause, its inner part being emit -/
def TurnEq (comp : Expr) (ix : Nat) (tg : Expr) (ifs : List Expr) (p : Pos) (emit : Addr → Env → Sem PySem.Fin → Sem PySem.Fin) : Prop := ∀ (it : Value) (D : Addr) (env : Env),
  compTurn comp ix it (.ref D) env = (do
    standAt p
    match ← pyNext it with
    | none => pure (.done .next)
    | some v =>
      letOwnedTupleGo tg it v
      assign tg env v
      let mut ok := true
      for c in ifs do
        if ok then ok ← isTrue c env (eval c env)
      if ok then
        emit D env (again (.compLoop comp ix it (.ref D) env))
      else again (.compLoop comp ix it (.ref D) env))
def EmitOk (P : Program) (w : World) (A : Around) (emit : Addr → Env → Sem PySem.Fin → Sem PySem.Fin) (act : Act) : Prop := ∀ (D : Addr) (e : Env) (Q : Shared → Prop) (s : Shared) (k : Sem PySem.Fin) (R : PySem.Fin → Shared → Prop) (E : Value → Shared → Prop), act D e Q s → (∀ z, Q z → wpAny (model P w) A k R E z) → wpAny (model P w) A (emit D e k) R E s
theorem loop_of {P : Program} {w : World} {A : Around} {comp tg : Expr} {ifs : List Expr} {p : Pos} {ix : Nat} {emit : Addr → Env → Sem PySem.Fin → Sem PySem.Fin} {act : Act} (ht : TurnEq comp ix tg ifs p emit) (he : EmitOk P w A emit act)
    (hf : ∀ it D env, (model P w).den (.compLoop comp ix it (.ref D) env) = (compTurn comp ix it (.ref D) env).onRaise (fun x => do noteFrame x env; theTreesLotGoes x))
    (hu : ∀ it D env, A.under (.compLoop comp ix it (.ref D) env) = A) : LoopOk P w A comp tg ifs ix act := fun R it D env I turn n s h => by
  refine codeAny_loop rfl I (fun n s hI => ?_) n h
  rw [hf, hu]
  refine wpAny_noted ?_
  rw [ht]
  refine wpAny_bind (wpAny_standAt (wpAny_bind (thnF (turn n s hI) fun r s₁ h₁ => ?_)))
  cases r with
  | none => exact wpAny_pure h₁
  | some v =>
    refine wpAny_bind (thnF h₁ fun _ s₁' h₁' => ?_)
    refine wpAny_bind (thnF h₁' fun _ s₂ h₂ => wpAny_bind (thnF h₂ fun ok s₃ h₃ => ?_))
    cases ok with
    | false => exact wpAny_pure ⟨rfl, h₃⟩
    | true => exact he D env _ s₃ _ _ _ h₃ fun z q => wpAny_pure ⟨rfl, q⟩
/-- the second clause's source, start and loop -/
def act2 (P : Program) (w : World) (A : Around) (comp i1 : Expr) : Act := fun D e Q s => wpAny (model P w) A (eval i1 e) (fun x s4 => wpAny (model P w) A (pyIter x) (fun it1 s5 =>
  codeAny (model P w) A (.compStart comp 1 it1 (.ref D) e) (fun r s' => match r with
    | .ok _ => Q s'
    | .error _ => False) s5) Nox s4) Nox s
theorem act2_mono {P : Program} {w : World} {A : Around} {comp i1 : Expr} : ActMono (act2 P w A comp i1) := fun D e Q R s h q => wpAny_mono q (fun _ _ q => wpAny_mono q (fun _ _ q => codeAny_mono q fun r s q => by
  cases r with
  | ok f => exact h _ q
  | error x => exact q) fun _ _ z => z) fun _ _ z => z
def emit2 (comp i1 : Expr) : Addr → Env → Sem PySem.Fin → Sem PySem.Fin := fun D env k => do
  let x ← eval i1 env
  standAt i1.pos
  let x ← foldedSetIterable i1 env x
  let _ ← runOwn (.compStart comp 1 (← holding [x] (pyIter x)) (.ref D) env) env
  k
theorem emit2_ok {P : Program} {w : World} {A : Around} {comp i1 : Expr} (hs : ∀ env x, foldedSetIterable i1 env x = pure x) : EmitOk P w A (emit2 comp i1) (act2 P w A comp i1) := fun D env Q s k R E h hk => by
  unfold emit2
  refine wpAny_bind (thnF h fun x s₄ h₄ => ?_)
  refine wpAny_bind (wpAny_standAt (wpAny_bind (wpAny_of_eq (hs env x) (wpAny_bind (wpAny_holding (thnF h₄ fun it1 s₅ h₅ => ?_))))))
  refine wpAny_bind (wpAny_runOwn ?_)
  rw [Around.mark_none]
  refine codeAny_mono h₅ fun r s' hr => ?_
  cases r with
  | ok f =>
    first
      | exact hk _ hr
      | exact wpAny_bind (wpAny_pure (hk _ hr))
  | error e => exact hr.elim
/-- where the second clause stands in a dict's comprehension -/
theorem turnD2 {kx vx t0 i0 t1 i1 : Expr} {ifs0 ifs1 : List Expr} {scope : Scope} {pos : Pos} : TurnEq (.DictComp kx vx [⟨t0, i0, ifs0, 0⟩, ⟨t1, i1, ifs1, 0⟩] scope pos) 0 t0 ifs0 i0.pos (emit2 (.DictComp kx vx [⟨t0, i0, ifs0, 0⟩, ⟨t1, i1, ifs1, 0⟩] scope pos) i1) := fun it D env => by
  rfl
def emitDU (kx vx : Expr) (D : Addr) (env : Env) : Sem Unit := do
  let kv ← eval kx env
  let vv ← holding [kv] (eval vx env)
  standAt { kx.pos with endLine := vx.pos.endLine, endCol := vx.pos.endCol }
  holding [kv, vv] (dictSet D kv vv)
def emitD (kx vx : Expr) : Addr → Env → Sem PySem.Fin → Sem PySem.Fin := fun D env k => do
  emitDU kx vx D env
  k
theorem turnD2in {kx vx t0 i0 t1 i1 : Expr} {ifs0 ifs1 : List Expr} {scope : Scope} {pos : Pos} : TurnEq (.DictComp kx vx [⟨t0, i0, ifs0, 0⟩, ⟨t1, i1, ifs1, 0⟩] scope pos) 1 t1 ifs1 i1.pos (emitD kx vx) := fun it D env => by
  rfl
theorem emitD_ok {P : Program} {w : World} {A : Around} {kx vx : Expr} : EmitOk P w A (emitD kx vx) (actD P w A kx vx) := fun D env Q s k R E h hk => by
  unfold emitD emitDU
  exact wpAny_bind (wpAny_bind (thnF h fun kv s₄ h₄ => wpAny_bind (wpAny_holding (thnF h₄ fun vv s₅ h₅ => wpAny_bind (wpAny_standAt (wpAny_holding (thnF h₅ fun _ s₆ h₆ => hk _ h₆)))))))
/-- the second clause's start -/
def StartOk (P : Program) (w : World) (A : Around) (comp : Expr) (ix : Nat) : Prop := ∀ (R : Result → Shared → Prop) (s : Shared) (it acc : Value) (e : Env), codeAny (model P w) A (.compLoop comp ix it acc e) R s →
  wpAny (model P w) A (pyIter it) (fun it2 z => codeAny (model P w) A (.compLoop comp ix it2 acc e) R z) Nox s → codeAny (model P w) A (.compStart comp ix it acc e) R s
theorem startD2 {P : Program} {w : World} {A : Around} {kx vx t0 i0 t1 i1 : Expr} {ifs0 ifs1 : List Expr} {scope : Scope} {pos : Pos} : StartOk P w A (.DictComp kx vx [⟨t0, i0, ifs0, 0⟩, ⟨t1, i1, ifs1, 0⟩] scope pos) 1 := fun R s it acc env h0 h => by
  refine codeAny_of_tree ?_
  show wpAny _ _ ((compStart (.DictComp kx vx [⟨t0, i0, ifs0, 0⟩, ⟨t1, i1, ifs1, 0⟩] scope pos) 1 it acc env).onRaise (fun x => do noteFrame x env; standAt theWindowsPlace)) _ _ s
  refine wpAny_notedAt ?_
  unfold compStart
  show wpAny _ _ (ask >>= _) _ _ s
  refine wpAny_bind (wpAny_askSetting (wpAny_ite ?_))
  split
  · first
      | exact wpAny_bind (wpAny_pure (wpAny_pure (And.intro rfl h0)))
      | exact wpAny_pure (And.intro rfl h0)
  · refine wpAny_bind (wpAny_rule ?_)
    show wpAny _ _ (standAt i1.pos >>= _) _ _ s
    exact wpAny_bind (wpAny_standAt (wpAny_bind (thnF h fun it' s' h' => wpAny_pure (And.intro rfl h'))))
/-- what the second clause asks -/
def taIn (wi : TI) (g : TG) (tt : TT) (ta : TAct) (vs : List Nat) : TAct := fun D σ H Q => wi σ H fun J H1 => ∃ W : Nat → Nat → Hp → Prop, (∃ m, W 0 m H1) ∧ ∀ i m H, W i m H →
  (J.stop i H ∧ Q H) ∨ (J.go i H ∧ ∃ Nx : Hp → Prop, (∀ Z, Nx Z → ∃ k, k < m ∧ W (i + 1) k Z) ∧ ∀ x Z, J.yld i H x Z → g x (wipe σ vs) Z fun σ2 H2 => wipe σ2 vs = wipe σ vs ∧ tt σ2 H2 fun b H3 =>
    if b = true then ta D σ2 H3 Nx else Nx H3)
theorem act2_ok {X : Cx} {comp tg iter : Expr} {ifs : List Expr} {wi : TI} {g : TG} {tt : TT} {ta : TAct} {act : Act} {vs vs1 : List Nat} (hx : X.xe = Nox) (hc : X.calm = true) (hst : StartOk X.prog X.w X.A comp 1) (hlo : LoopOk X.prog X.w X.A comp tg ifs 1 act) (hmo : ActMono act)
    (hi : PI X tg iter wi) (hg : PG X tg g) (ht : PTs X ifs tt) (ha : ActOk X act vs1 ta) (hv : ∀ i ∈ vs1, i ∈ vs) : ActOk X (act2 X.prog X.w X.A comp iter) vs (taIn wi g tt ta vs) := fun D pins s σ H Q I h => by
  have r1 := hi.run pins s σ H _ I h
  rw [hx] at r1
  refine thnF r1 fun xv s1 q1 => thnF q1 fun itv s2 h2 => ?_
  obtain ⟨it, fp, tn, J, H2, ei, I2, T, st2, f2, W, ⟨m0, w0⟩, turn⟩ := h2
  subst ei
  have stat : ∀ {Z : Hp}, (∀ b ∈ fp, Z b = none) → ∀ b ∈ fp, FpOk X pins Z b := fun hn b hb => ⟨hn b hb, (f2 b hb).2⟩
  have loop : codeAny (model X.prog X.w) X.A (.compLoop comp 1 (.ref it) (.ref D) X.env) (fun r s' => match r with
      | .ok _ => ∃ σ2 H2, Inv X pins σ2 H2 s' ∧ σ2.length = σ.length ∧ (∀ (j : Nat) v, j ∉ vs → σ[j]? = some (some v) → σ2[j]? = some (some v)) ∧ Q H2
      | .error _ => False) s2 := by
    refine hlo _ _ _ _ (fun n z => ∃ i Z, Inv X pins (wipe σ vs) Z z ∧ tn i z.heap ∧ (∀ b ∈ fp, Z b = none) ∧ W i n Z) ?_ m0 _ ⟨0, H2, I2.weak (wipe_length _ _) (fun j v e => (wipe_some e).1), st2, fun b hb => (f2 b hb).1, w0⟩
    rintro n s5 ⟨i, H5, I5, st5, n5, w5⟩
    rcases turn i n H5 w5 with ⟨stop, qq⟩ | ⟨go, Nx, hNx, step⟩
    · refine thnF (T.done X rfl rfl rfl hc i pins s5 _ H5 Nox I5 (stat n5) st5 stop) fun r s6 ⟨hr, I6⟩ => ?_
      subst hr
      exact ⟨wipe σ vs, H5, I6, wipe_length _ _, fun j v hj e => by rw [wipe_out hj]; exact e, qq⟩
    · refine thnF (T.item X rfl rfl rfl hc i pins s5 _ H5 Nox I5 (stat n5) st5 go) fun r s6 ⟨u, hr, h6⟩ => ?_
      subst hr
      refine thnF h6 fun _ s7 ⟨x, H7, I7, r7, y7, st7, n7⟩ => ?_
      have r3 := hg.run _ s7 _ H7 x u _ (I7.pinned (stat n7) (T.obj _ _ st7)) r7 (step x H7 y7)
      rw [hx] at r3
      refine thnF r3 fun _ s8 ⟨σ8, H8, I8, hw8, q8⟩ => ?_
      have r4 := ht.run _ s8 σ8 H8 _ I8 q8
      rw [hx] at r4
      refine thnF r4 fun b s9 ⟨H9, I9, q9⟩ => ?_
      have fin : ∀ {σ9 : L2.St} {z : Shared} {Z : Hp}, Inv X (pins ++ pinsAt fp s7.heap) σ9 Z z → σ9.length = σ8.length → (∀ (j : Nat) v, j ∉ vs1 → σ8[j]? = some (some v) → σ9[j]? = some (some v)) → Nx Z →
          ∃ k, k < n ∧ ∃ i Z, Inv X pins (wipe σ vs) Z z ∧ tn i z.heap ∧ (∀ b ∈ fp, Z b = none) ∧ W i k Z := fun {σ9 z Z} J9 hl hk nx => by
        obtain ⟨k, lt, w'⟩ := hNx Z nx
        have kp : ∀ b ∈ fp, ∀ o, s7.heap.get? b = some o → z.heap.get? b = some o ∧ Z b = none := fun b hb o e => (J9.pin (b, o) (List.mem_append_right _ (List.mem_append_right _ (mem_pinsAt hb e)))).imp_right (·.1)
        refine ⟨k, lt, i + 1, Z, J9.unpinned.weak ?_ (fun j v e => ?_), T.keep _ _ _ st7 fun b hb o e => (kp b hb o e).1, fun b hb => ?_, w'⟩
        · rw [hl, ← hw8, wipe_length]
        · rw [← hw8] at e
          obtain ⟨e1, e2⟩ := wipe_some e
          exact hk j v (fun z => e2 (hv j z)) e1
        · obtain ⟨o, e, _⟩ := T.obj _ _ st7 b hb
          exact (kp b hb o e).2
      cases b with
      | false =>
        rw [if_neg Bool.false_ne_true] at q9 ⊢
        exact fin I9 rfl (fun _ _ _ e => e) q9
      | true =>
        rw [if_pos rfl] at q9 ⊢
        exact hmo _ _ _ _ _ (fun z ⟨σ9, Z, J9, hl, hk, nx⟩ => fin J9 hl hk nx) (ha D _ s9 σ8 H9 Nx I9 q9)
  exact hst _ _ _ _ _ loop (T.self X.A 0 _ _ _ st2 loop)
section
variable {X : Cx}
/-- {key: value for .. in .. for .. in ..}, keys tuples, as a value -/
theorem pe_dcT2 {kx vx tg iter tg1 iter1 : Expr} {ifs ifs1 : List Expr} {scope : Scope} {own : List (PySem.Str × Nat)} {vs1 : List Nat} {pos : Pos} {wi wi1 : TI} {g g1 : TG} {tt tt1 : TT} {tk tv : TE} (hu : X.A.units < cLine) (hc : X.calm = true) (hN : X.N.Nodup) (hi : PI X tg iter wi) (ok : BlkOk X.N X.env.scope scope own) (hvs : ∀ i ∈ vs1, i ∈ own.map (·.2))
    (hg : ∀ (s : Shared) (H : Hp) (C : Addr) (cl : List (PySem.Str × Addr)) (fp : List Addr), PG (X.blk s H scope (compEnvC scope cl C X.env) fp) tg g) (ht : ∀ (s : Shared) (H : Hp) (C : Addr) (cl : List (PySem.Str × Addr)) (fp : List Addr), PTs (X.blk s H scope (compEnvC scope cl C X.env) fp) ifs tt)
    (hi1 : ∀ (s : Shared) (H : Hp) (C : Addr) (cl : List (PySem.Str × Addr)) (fp : List Addr), PI (X.blk s H scope (compEnvC scope cl C X.env) fp) tg1 iter1 wi1)
    (hg1 : ∀ (s : Shared) (H : Hp) (C : Addr) (cl : List (PySem.Str × Addr)) (fp : List Addr), PG (X.blk s H scope (compEnvC scope cl C X.env) fp) tg1 g1) (ht1 : ∀ (s : Shared) (H : Hp) (C : Addr) (cl : List (PySem.Str × Addr)) (fp : List Addr), PTs (X.blk s H scope (compEnvC scope cl C X.env) fp) ifs1 tt1)
    (hk : ∀ (s : Shared) (H : Hp) (C : Addr) (cl : List (PySem.Str × Addr)) (fp : List Addr), PE (X.blk s H scope (compEnvC scope cl C X.env) fp) kx tk)
    (hv : ∀ (s : Shared) (H : Hp) (C : Addr) (cl : List (PySem.Str × Addr)) (fp : List Addr), PE (X.blk s H scope (compEnvC scope cl C X.env) fp) vx tv) (hs : ∀ x, foldedSetIterable iter X.env x = pure x := by intro _; rfl) (hs1 : ∀ env x, foldedSetIterable iter1 env x = pure x := by intro _ _; rfl) :
    PE X (.DictComp kx vx [⟨tg, iter, ifs, 0⟩, ⟨tg1, iter1, ifs1, 0⟩] scope pos) (tCore (fun _ => .dT []) wi g tt (taIn wi1 g1 tt1 (taDT tk tv) vs1) (own.map (·.2))) := by
  refine ⟨fun pins s σ H Q I h => ?_⟩
  rw [arm_eval_DictComp]
  refine core_run (vs1 := vs1) rfl mk_dT (fun R s it acc e h1 h2 => codeAny_compStart_dict h1 (thnF h2 fun _ _ q => q)) (loop_of turnD2 (emit2_ok hs1) (fun _ _ _ => rfl) (fun _ _ _ => rfl)) act2_mono hc hN I hi ok hvs hg ht
    (fun s H C cl fp => act2_ok rfl hc startD2 (loop_of turnD2in emitD_ok (fun _ _ _ => rfl) (fun _ _ _ => rfl)) actD_mono (hi1 s H C cl fp) (hg1 s H C cl fp) (ht1 s H C cl fp) (actDT (vs := []) hu rfl (hk s H C cl fp) (hv s H C cl fp)) (fun _ z => nomatch z)) hs h fun D C z m Z I' q hn f => ⟨m, hn, fun h2 sb => ?_⟩
  obtain ⟨f0, f1, f2, f3, f4, f5⟩ := f
  exact ⟨.ref D, Z, I'.turned (t' := z.toks) (fun b o hb e => (sb.2 b hb).trans e) f0 f1 f3 f4 f5, rfl, q⟩
end
end Ab

/-! Comprehensions of every kind in the layer: what gathers is told by how it stands. -/
namespace Ab
open PySem PySem.Spec L2
/-- how what was gathered stands: at the place of the new thing -/
structure Acc (K : PySem.W.Frag) (γ : Type) where
  R : γ → Ro → Hp → Addr → HO → Prop
  up : ∀ {a ρ P D o ρ' P'}, R a ρ P D o → (∀ n x, ρ n = some x → ρ' n = some x) → (∀ x u, P x = some u → P' x = some u) → R a ρ' P' D o
  noT : ∀ {a ρ P D o}, R a ρ P D o → noTup o = true
structure Up (ρ : Ro) (P H : Hp) (ρ' : Ro) (P' H' : Hp) : Prop where
  m : ∀ n a, ρ n = some a → ρ' n = some a
  p : ∀ a o, P a = some o → P' a = some o
  f : Frz H H'
section
variable {K : PySem.W.Frag} {E : XK} {ρ ρ' ρ1 ρ0 : Ro} {P H P' H' P1 H1 P0 H0 : Hp} {γ : Type} {A : Acc K γ} {D0 : Addr}
theorem Up.refl (ρ : Ro) (P H : Hp) : Up ρ P H ρ P H := ⟨fun _ _ e => e, fun _ _ e => e, Frz.refl _⟩
theorem Up.trans (a : Up ρ P H ρ1 P1 H1) (b : Up ρ1 P1 H1 ρ' P' H') : Up ρ P H ρ' P' H' := ⟨fun n x e => b.m n x (a.m n x e), fun x o e => b.p x o (a.p x o e), a.f.trans b.f⟩
theorem Step.up {h : AH} (t : Step ρ P H ρ' P' H') (s : SR K ρ P H h) : Up ρ P H ρ' P' H' := ⟨t.mono, t.pure, t.frz s⟩
structure CmS (A : Acc K γ) (ρ0 : Ro) (P0 H0 : Hp) (D0 : Addr) (ρ : Ro) (P H : Hp) (h : AH) (acc : γ) : Prop where
  t : Step ρ0 P0 H0 ρ P H
  s : SR K ρ P H h
  np : P D0 = none
  nr : NoR ρ D0
  at_ : ∃ o, H D0 = some o ∧ A.R acc ρ P D0 o
theorem CmS.step {h h' : AH} {acc : γ} (x : CmS A ρ0 P0 H0 D0 ρ P H h acc) (t : Step ρ P H ρ' P' H') (s : SR K ρ' P' H' h') : CmS A ρ0 P0 H0 D0 ρ' P' H' h' acc := by
  obtain ⟨o, e, r⟩ := x.at_
  have ne : H D0 ≠ none := by rw [e]; simp
  exact ⟨x.t.trans t, s, t.noP x.np (.inr ⟨_, e, A.noT r⟩), t.noR ne x.nr, o, t.keep _ _ e x.nr (.inl x.np), A.up r t.mono t.pure⟩
/-- what was gathered changes -/
theorem CmS.put {h : AH} {acc acc' : γ} {o : HO} (x : CmS A ρ0 P0 H0 D0 ρ P H h acc) (h0 : H0 D0 = none) (r : A.R acc' ρ P D0 o) (nf : ∀ q u, H D0 ≠ some (.frz q u)) : CmS A ρ0 P0 H0 D0 ρ P (upd H D0 o) h acc' ∧ Up ρ P H ρ P (upd H D0 o) :=
  ⟨⟨x.t.loose h0, x.s.loose x.np x.nr, x.np, x.nr, o, upd_same, r⟩, fun _ _ e => e, fun _ _ e => e, fun a q u e => by
    have z : a ≠ D0 := fun z => nf q u (z ▸ e)
    rw [upd_ne z]; exact e⟩
/-- what is wanted behind a part of the gathering -/
def PostA (A : Acc K γ) (E : XK) (ρ0 : Ro) (P0 H0 : Hp) (D0 : Addr) (ρ : Ro) (P H : Hp) (Q : Hp → Prop) : R γ → Prop
  | .ok acc h' => ∀ ρ' P' H', CmS A ρ0 P0 H0 D0 ρ' P' H' h' acc → Up ρ P H ρ' P' H' → Q H'
  | .exc x fs h' => ∀ ρ' P' H' dd, Step ρ0 P0 H0 ρ' P' H' → SR K ρ' P' H' h' → RX K ρ' P' fs dd → E (.ref (He.ga K x)) dd H'
  | .bad => False
theorem PostA.up {Q : Hp → Prop} {r : R γ} (p : PostA A E ρ0 P0 H0 D0 ρ P H Q r) (u : Up ρ P H ρ1 P1 H1) : PostA A E ρ0 P0 H0 D0 ρ1 P1 H1 Q r := by
  cases r with
  | ok a h' => exact fun ρ' P' H' x u2 => p ρ' P' H' x (u.trans u2)
  | exc x fs h => exact p
  | bad => exact p
theorem PostA.bindA {α β : Type} {L : Rl α β} {Q : Hp → Prop} {r : R α} {k : α → AH → R γ} {h : AH} {acc : γ} (p : PostA A E ρ0 P0 H0 D0 ρ P H Q (r.bind k)) (x : CmS A ρ0 P0 H0 D0 ρ P H h acc) {Q' : β → Hp → Prop}
    (hh : ∀ a h' ρ' P' H' v, Step ρ P H ρ' P' H' → CmS A ρ0 P0 H0 D0 ρ' P' H' h' acc → L ρ' P' a v → PostA A E ρ0 P0 H0 D0 ρ' P' H' Q (k a h') → Q' v H') : Post K L E ρ P H Q' r := by
  cases r with
  | ok a h' => exact fun ρ' P' H' v t q1 q2 => hh a h' ρ' P' H' v t (x.step t q1) q2 (PostA.up (r := k a h') p (t.up x.s))
  | exc y fs h => exact fun ρ' P' H' dd t q1 q2 => p ρ' P' H' dd (x.t.trans t) q1 q2
  | bad => exact p
def AcOk (A : Acc K γ) (E : XK) (ta : TAct) (ac : γ → En → AH → R γ) : Prop := ∀ ρ0 P0 H0 D0, H0 D0 = none → ∀ ρ P H h σ env acc, CmS A ρ0 P0 H0 D0 ρ P H h acc → RE K ρ P env σ → ∀ Q, PostA A E ρ0 P0 H0 D0 ρ P H Q (ac acc env h) → ta D0 σ H Q
def cmItems (g : MG) (c : M Bool) (ac : γ → En → AH → R γ) (env : En) : List D → γ → AH → R γ
  | [], acc, h => .ok acc h
  | d :: ds, acc, h => (g d env h).bind fun env1 h1 => (c env1 h1).bind fun b h2 => if b = true then (ac acc env1 h2).bind fun acc' h3 => cmItems g c ac env ds acc' h3 else cmItems g c ac env ds acc h2
/-- the loop -/
theorem cm_loop {g : TG} {tt : TT} {ta : TAct} {vs : List Nat} {mg : MG} {mc : M Bool} {ac : γ → En → AH → R γ} (hg : SdG K E g mg) (hv : GW vs g) (hc : Sd K (RQ Bool) E tt mc) (ha : AcOk A E ta ac) (hD : H0 D0 = none) {ds : List D} {J : It} (j0 : ItOk K ρ P H (.items ds) J)
    {h : AH} {σ : L2.St} {env : En} {acc : γ} (x : CmS A ρ0 P0 H0 D0 ρ P H h acc) (re : RE K ρ P (wipeE env vs) (wipe σ vs)) {Q : Hp → Prop} (p : PostA A E ρ0 P0 H0 D0 ρ P H Q (cmItems mg mc ac (wipeE env vs) ds acc h)) :
    ∃ W : Nat → Nat → Hp → Prop, (∃ m, W 0 m H) ∧ ∀ i m H, W i m H →
      (J.stop i H ∧ Q H) ∨ (J.go i H ∧ ∃ Nx : Hp → Prop, (∀ Z, Nx Z → ∃ k, k < m ∧ W (i + 1) k Z) ∧ ∀ x Z, J.yld i H x Z → g x (wipe σ vs) Z fun σ2 H2 => wipe σ2 vs = wipe σ vs ∧ tt σ2 H2 fun b H3 =>
        if b = true then ta D0 σ2 H3 Nx else Nx H3) := by
  let Wk : Nat → Hp → Prop := fun i Z => ∃ ρ' P' h acc, CmS A ρ0 P0 H0 D0 ρ' P' Z h acc ∧ Up ρ P H ρ' P' Z ∧ PostA A E ρ0 P0 H0 D0 ρ' P' Z Q (cmItems mg mc ac (wipeE env vs) (ds.drop i) acc h)
  refine ⟨fun i m Z => m = ds.length - i ∧ i ≤ ds.length ∧ Wk i Z, ⟨ds.length, rfl, Nat.zero_le _, ρ, P, h, acc, x, Up.refl .., p⟩, ?_⟩
  rintro i m Z ⟨rfl, hi, ρ', P', h, acc, x, u, p⟩
  have jj := j0 ρ' P' Z u.m u.p u.f h x.s i
  by_cases hlt : i < ds.length
  · have e : ds.drop i = ds[i] :: ds.drop (i + 1) := by rw [List.drop_eq_getElem_cons hlt]
    rw [e] at p
    obtain ⟨go, yl⟩ := jj.1 ds[i] (List.getElem?_eq_getElem hlt)
    refine .inr ⟨go, fun Z => Wk (i + 1) Z, fun Z z => ⟨ds.length - (i + 1), by omega, rfl, hlt, z⟩, fun v Z2 y => ?_⟩
    obtain ⟨P2, tx, sx, rx⟩ := yl v Z2 y
    have u2 := tx.up x.s
    have x := x.step tx sx
    have p := PostA.up p u2
    have u := u.trans u2
    have re' : RE K ρ' P2 (wipeE env vs) (wipe σ vs) := ⟨re.1, fun i d e => let ⟨v, h1, h2⟩ := re.2 i d e; ⟨v, h1, h2.up u.m u.p⟩⟩
    have pp : PostA A E ρ0 P0 H0 D0 ρ' P2 Z2 Q ((mg ds[i] (wipeE env vs) h).bind fun env1 h1 => (mc env1 h1).bind fun b h2 => if b = true then (ac acc env1 h2).bind fun acc' h3 => cmItems mg mc ac (wipeE env vs) (ds.drop (i + 1)) acc' h3 else cmItems mg mc ac (wipeE env vs) (ds.drop (i + 1)) acc h2) := p
    have fin : ∀ {ρa Pa Za hb accb}, CmS A ρ0 P0 H0 D0 ρa Pa Za hb accb → Up ρ' P2 Z2 ρa Pa Za → PostA A E ρ0 P0 H0 D0 ρa Pa Za Q (cmItems mg mc ac (wipeE env vs) (ds.drop (i + 1)) accb hb) → ∃ ρ' P' h acc, CmS A ρ0 P0 H0 D0 ρ' P' Za h acc ∧ Up ρ P H ρ' P' Za ∧ PostA A E ρ0 P0 H0 D0 ρ' P' Za Q (cmItems mg mc ac (wipeE env vs) (ds.drop (i + 1)) acc h) :=
      fun {ρa Pa Za hb accb} xa ua pa => ⟨ρa, Pa, hb, accb, xa, u.trans ua, pa⟩
    have gg := hg ρ' P2 (wipe σ vs) Z2 (wipeE env vs) h ds[i] v x.s re' rx (fun σ2 H2 => tt σ2 H2 fun b H3 => if b = true then ta D0 σ2 H3 (fun Za => ∃ ρ' P' h acc, CmS A ρ0 P0 H0 D0 ρ' P' Za h acc ∧ Up ρ P H ρ' P' Za ∧ PostA A E ρ0 P0 H0 D0 ρ' P' Za Q (cmItems mg mc ac (wipeE env vs) (ds.drop (i + 1)) acc h)) else (∃ ρ' P' h acc, CmS A ρ0 P0 H0 D0 ρ' P' H3 h acc ∧ Up ρ P H ρ' P' H3 ∧ PostA A E ρ0 P0 H0 D0 ρ' P' H3 Q (cmItems mg mc ac (wipeE env vs) (ds.drop (i + 1)) acc h)))
      (PostA.bindA pp x fun env1 h1 ρ1 P1 H1 σ1 t1 x1 r1 p1 => by
        refine hc ρ1 P1 σ1 H1 env1 h1 x1.s r1 _ (PostA.bindA p1 x1 fun b h2 ρ2 P2' H2 b' t2 x2 eb p2 => ?_)
        cases eb
        have u12 := (t1.up x.s).trans (t2.up x1.s)
        cases b with
        | false =>
          rw [if_neg Bool.false_ne_true] at p2 ⊢
          exact fin x2 u12 p2
        | true =>
          rw [if_pos rfl] at p2 ⊢
          refine ha ρ0 P0 H0 D0 hD _ _ _ _ _ _ _ x2 (r1.step t2) _ ?_
          cases q : ac acc env1 h2 with
          | bad => rw [q] at p2; exact p2
          | exc y fs hh => rw [q] at p2; exact p2
          | ok acc' h3 =>
            rw [q] at p2
            exact fun ρ3 P3 H3 x3 u3 => fin x3 (u12.trans u3) (PostA.up (r := cmItems mg mc ac (wipeE env vs) (ds.drop (i + 1)) acc' h3) p2 u3))
    have g2 := hv _ _ _ _ gg
    rw [wipe_wipe fun i hi => hi] at g2
    exact g2
  · have e : i = ds.length := by omega
    subst e
    rw [List.drop_length] at p
    exact .inl ⟨jj.2 (by simp), p ρ' P' Z x (Up.refl ..)⟩
/-- the second clause as an action -/
def ac2 (w : MI) (g : MG) (c : M Bool) (ac : γ → En → AH → R γ) (vs : List Nat) : γ → En → AH → R γ := fun acc env h => (w env h).bind fun a h1 => match a with
  | .items es => cmItems g c ac (wipeE env vs) es acc h1
  | .at_ _ => .bad
theorem ac2_ok {wi : TI} {g : TG} {tt : TT} {ta : TAct} {vs : List Nat} {mw : MI} {mg : MG} {mc : M Bool} {ac : γ → En → AH → R γ} (hw : SdI K E wi mw) (hg : SdG K E g mg) (hv : GW vs g) (hc : Sd K (RQ Bool) E tt mc) (ha : AcOk A E ta ac) :
    AcOk A E (taIn wi g tt ta vs) (ac2 mw mg mc ac vs) := fun ρ0 P0 H0 D0 hD ρ P H h σ env acc x re Q p => by
  refine hw ρ P σ H env h x.s re _ ?_
  have p : PostA A E ρ0 P0 H0 D0 ρ P H Q ((mw env h).bind fun a h1 => match a with
    | .items es => cmItems mg mc ac (wipeE env vs) es acc h1
    | .at_ _ => .bad) := p
  cases q : mw env h with
  | bad => rw [q] at p; exact p
  | exc y fs hh => rw [q] at p; exact fun ρ' P' H' dd t s' rx => p ρ' P' H' dd (x.t.trans t) s' rx
  | ok a h1 =>
    rw [q] at p
    intro ρ1 P1 H1 J t s1 j0
    cases a with
    | at_ n => exact p.elim
    | items es => exact cm_loop hg hv hc ha hD j0 (x.step t s1) ((re.step t).wipe vs) (PostA.up (r := cmItems mg mc ac (wipeE env vs) es acc h1) p (t.up x.s))
/-- the whole comprehension: a new thing -/
def PostX (A : Acc K γ) (E : XK) (ρ : Ro) (P H : Hp) (Q : VK) : R γ → Prop
  | .ok acc h' => ∀ ρ' P' H' p o, Step ρ P H ρ' P' H' → SR K ρ' P' H' h' → H p = none → P' p = none → NoR ρ' p → H' p = some o → A.R acc ρ' P' p o → Q (.ref p) H'
  | .exc x fs h' => ∀ ρ' P' H' dd, Step ρ P H ρ' P' H' → SR K ρ' P' H' h' → RX K ρ' P' fs dd → E (.ref (He.ga K x)) dd H'
  | .bad => False
def SdX (A : Acc K γ) (E : XK) (t : TE) (m : M γ) : Prop := ∀ ρ P σ H env h, SR K ρ P H h → RE K ρ P env σ → ∀ Q, PostX A E ρ P H Q (m env h) → t σ H Q
def mCm (w : MI) (g : MG) (c : M Bool) (ac : γ → En → AH → R γ) (a0 : γ) (vs : List Nat) : M γ := fun env h => (w env h).bind fun a h1 => match a with
  | .items ds => cmItems g c ac (wipeE env vs) ds a0 h1
  | .at_ _ => .bad
theorem sx_cm {o0 : Addr → HO} {a0 : γ} {wi : TI} {g : TG} {tt : TT} {ta : TAct} {vs : List Nat} {mw : MI} {mg : MG} {mc : M Bool} {ac : γ → En → AH → R γ} (h0 : ∀ ρ P D, A.R a0 ρ P D (o0 D)) (hw : SdI K E wi mw) (hg : SdG K E g mg) (hv : GW vs g) (hc : Sd K (RQ Bool) E tt mc) (ha : AcOk A E ta ac) :
    SdX A E (tCore o0 wi g tt ta vs) (mCm mw mg mc ac a0 vs) := fun ρ P σ H env h s re Q p => by
  refine hw ρ P σ H env h s re _ ?_
  have p : PostX A E ρ P H Q ((mw env h).bind fun a h1 => match a with
    | .items es => cmItems mg mc ac (wipeE env vs) es a0 h1
    | .at_ _ => .bad) := p
  cases q : mw env h with
  | bad => rw [q] at p; exact p
  | exc y fs hh => rw [q] at p; exact fun ρ' P' H' dd t s' rx => p ρ' P' H' dd t s' rx
  | ok a h1 =>
    rw [q] at p
    intro ρ1 P1 H1 J t s1 j0 D0 hD
    cases a with
    | at_ n => exact p.elim
    | items es =>
      obtain ⟨sD, tD⟩ := s1.own hD (o0 D0)
      have x0 : CmS A ρ1 P1 H1 D0 ρ1 P1 (upd H1 D0 (o0 D0)) h1 a0 := ⟨tD, sD, s1.noP hD, s1.noR hD, o0 D0, upd_same, h0 _ _ _⟩
      have j1 : ItOk K ρ1 P1 (upd H1 D0 (o0 D0)) (.items es) J := fun ρ' P' H' tm tp tf => j0 ρ' P' H' tm tp ((tD.frz s1).trans tf)
      refine cm_loop hg hv hc ha hD j1 x0 ((re.step t).wipe vs) (Q := fun H' => Q (.ref D0) H') ?_
      have p : PostX A E ρ P H Q (cmItems mg mc ac (wipeE env vs) es a0 h1) := p
      cases q : cmItems mg mc ac (wipeE env vs) es a0 h1 with
      | bad => rw [q] at p; exact p
      | exc y fs hh => rw [q] at p; exact fun ρ' P' H' dd t' s' rx => p ρ' P' H' dd (t.trans t') s' rx
      | ok acc h2 =>
        rw [q] at p
        intro ρ' P' H' x u
        obtain ⟨o, eo, ro⟩ := x.at_
        exact p ρ' P' H' D0 o (t.trans x.t) x.s (t.free hD) x.np x.nr eo ro
end
end Ab

/-! sorted({..}): sets of tuples of whole numbers, gathered by a comprehension and sorted. -/
namespace Ab
open PySem PySem.Spec L2 PyProof.Rows PpSet
theorem setT_add {P : Program} {w : World} {A : Around} {s : Shared} {a x : Addr} {k : List Int} {L : List (Addr × List Int)} {es : Array (Int × Value)} {ep : Nat} {t : SetTable} {Q : Value → Shared → Prop} {E : Value → Shared → Prop} (R : SetTR P w s.heap a L es ep t) (hx : IsT P w s.heap k x) (hu : A.in1.units < cLine) (hfew : L.length + 1 < 64)
    (hQ : ∀ h' tk L' es' ep' t', Heap.SameBut a s.heap h' → SetTR P w h' a L' es' ep' t' → (k ∈ L.map (·.2) → L' = L) → (k ∉ L.map (·.2) → L'.Perm ((x, k) :: L)) → Q .none { s with heap := h', toks := tk }) :
    wpAny (model P w) A (call (.builtin "set.add") [.ref a, .ref x]) Q E s := by
  obtain ⟨o, ho, hex, hd⟩ := R.ob
  have hT : s.TypeIs (.ref a) "set" := ⟨o, ho, hex.1⟩
  refine wpAny_call_entry F.slot_set_add hT F.entry_set_add ?_ (F.args_set_add_2 _ _)
  unfold Builtin.«set.add» Builtin.Frozenset.oneOther
  simp only [List.isEmpty_nil, bind_assoc]
  unfold Builtin.Frozenset.addrOf setAdd
  refine wpAny_bind (wpAny_pure ?_)
  try dsimp only
  refine wpAny_bind (wpAny_pure ?_)
  try dsimp only
  refine wpAny_bind ?_
  refine wpAny_holding ?_
  refine wpAny_bind (wpAny_pyHash_tuple hu hx ?_)
  refine add_at (s := { s with toks := s.toks + (k.length + 1) }) R hx hu hfew fun b h' L' es' ep' t' sb r c1 c2 => ?_
  show wpAny _ _ (ret Value.none) _ _ _
  exact wpAny_pure ⟨_, rfl, hQ h' _ L' es' ep' t' sb r c1 c2⟩
section
variable {X : Cx}
theorem addT_ok {pins : List (Addr × Obj)} {σ : L2.St} {H : Hp} {s : Shared} {E : Value → Shared → Prop} {D b : Addr} {L : List (Addr × List Int)} {k : List Int} {Q : Value → Shared → Prop} (hu : X.A.in1.units < cLine) (I : Inv X pins σ H s) (hD : H D = some (SetTO X.prog X.w D L)) (hL : ∀ p ∈ L, SqT X.K H p.1 (p.2.map V.int)) (hb : SqT X.K H b (k.map V.int)) (room : L.length + 1 < 64)
    (h : ∀ s' L', Inv X pins σ (upd H D (SetTO X.prog X.w D L')) s' → (k ∈ L.map (·.2) → L' = L) → (k ∉ L.map (·.2) → L'.Perm ((b, k) :: L)) → Q .none s') : wpAny (model X.prog X.w) X.A (call (.builtin "set.add") [.ref D, .ref b]) Q E s := by
  have R0 : SetT0 X.prog X.w s.heap D L := (I.hok D _ hD).1
  obtain ⟨es, ep, t, R⟩ := R0.full fun p hp => I.isT (hL p hp)
  refine setT_add R (I.isT hb) hu room fun h' tk L' es' ep' t' sb r c1 c2 => ?_
  have he : ∃ u, h'.get? D = some u := by
    obtain ⟨o, ho, _⟩ := r.ob
    exact ⟨o, ho⟩
  exact h _ L' (I.write (e := D) (t' := tk) (by rw [hD]; trivial) (.inl rfl) (fun b u hb hu => (sb.2 b hb).trans hu) he (setTO_new r.t0)) c1 c2
def actS (P : Program) (w : World) (A : Around) (ex : Expr) : Act := fun D e Q s => wpAny (model P w) A (eval ex e) (fun v s1 => wpAny (model P w) A (call (.builtin "set.add") [.ref D, v]) (fun _ z => Q z) Nox s1) Nox s
theorem actS_mono {P : Program} {w : World} {A : Around} {ex : Expr} : ActMono (actS P w A ex) := fun D e Q R s h q => wpAny_mono q (fun _ _ q => wpAny_mono q (fun _ _ q => h _ q) fun _ _ z => z) fun _ _ z => z
/-- a tuple is put into a set -/
def taST (K : PySem.W.Frag) (P : Program) (w : World) (te : TE) : TAct := fun D σ H Q => te σ H fun y H1 => ∃ b k L, y = .ref b ∧ H1 b = some (.tup (k.map V.int)) ∧ H1 D = some (SetTO P w D L) ∧ (∀ p ∈ L, SqT K H1 p.1 (p.2.map V.int)) ∧ L.length + 1 < 64 ∧
  ∀ L', (k ∈ L.map (·.2) → L' = L) → (k ∉ L.map (·.2) → L'.Perm ((b, k) :: L)) → Q (upd H1 D (SetTO P w D L'))
theorem actST {ex : Expr} {te : TE} {vs : List Nat} (hu : X.A.in1.units < cLine) (hx : X.xe = Nox) (he : PE X ex te) : ActOk X (actS X.prog X.w X.A ex) vs (taST X.K X.prog X.w te) := fun D pins s σ H Q I h => by
  have r1 := he.run pins s σ H _ I h
  rw [hx] at r1
  refine thnF r1 fun v s1 ⟨y, H1, I1, ry, b, k, L, ey, hb, hD, hL, hf, q⟩ => ?_
  subst ey
  obtain rfl : v = Value.ref b := ry
  exact addT_ok hu I1 hD hL (.of hb) hf fun s3 L' I3 c1 c2 => ⟨σ, _, I3, rfl, fun _ _ _ e => e, q L' c1 c2⟩
def emitSU (ex : Expr) (D : Addr) (env : Env) : Sem Unit := do
  let v ← eval ex env
  standAt ex.pos
  let _ ← call (.builtin "set.add") [.ref D, v]
def emitS (ex : Expr) : Addr → Env → Sem PySem.Fin → Sem PySem.Fin := fun D env k => do
  emitSU ex D env
  k
theorem emitS_ok {P : Program} {w : World} {A : Around} {ex : Expr} : EmitOk P w A (emitS ex) (actS P w A ex) := fun D env Q s k R E h hk => by
  unfold emitS emitSU
  exact wpAny_bind (wpAny_bind (thnF h fun v s₄ h₄ => wpAny_bind (wpAny_standAt (wpAny_bind (thnF h₄ fun _ s₆ h₆ => wpAny_pure (hk _ h₆))))))
theorem turnS1 {ex t0 i0 : Expr} {ifs0 : List Expr} {scope : Scope} {pos : Pos} : TurnEq (.SetComp ex [⟨t0, i0, ifs0, 0⟩] scope pos) 0 t0 ifs0 i0.pos (emitS ex) := fun it D env => by
  rfl
theorem turnS2 {ex t0 i0 t1 i1 : Expr} {ifs0 ifs1 : List Expr} {scope : Scope} {pos : Pos} : TurnEq (.SetComp ex [⟨t0, i0, ifs0, 0⟩, ⟨t1, i1, ifs1, 0⟩] scope pos) 0 t0 ifs0 i0.pos (emit2 (.SetComp ex [⟨t0, i0, ifs0, 0⟩, ⟨t1, i1, ifs1, 0⟩] scope pos) i1) := fun it D env => by
  rfl
theorem turnS2in {ex t0 i0 t1 i1 : Expr} {ifs0 ifs1 : List Expr} {scope : Scope} {pos : Pos} : TurnEq (.SetComp ex [⟨t0, i0, ifs0, 0⟩, ⟨t1, i1, ifs1, 0⟩] scope pos) 1 t1 ifs1 i1.pos (emitS ex) := fun it D env => by
  rfl
theorem startS2 {P : Program} {w : World} {A : Around} {ex t0 i0 t1 i1 : Expr} {ifs0 ifs1 : List Expr} {scope : Scope} {pos : Pos} : StartOk P w A (.SetComp ex [⟨t0, i0, ifs0, 0⟩, ⟨t1, i1, ifs1, 0⟩] scope pos) 1 := fun R s it acc env h0 h => by
  refine codeAny_of_tree ?_
  show wpAny _ _ ((compStart (.SetComp ex [⟨t0, i0, ifs0, 0⟩, ⟨t1, i1, ifs1, 0⟩] scope pos) 1 it acc env).onRaise (fun x => do noteFrame x env; standAt theWindowsPlace)) _ _ s
  refine wpAny_notedAt ?_
  unfold compStart
  show wpAny _ _ (ask >>= _) _ _ s
  refine wpAny_bind (wpAny_askSetting (wpAny_ite ?_))
  split
  · first
      | exact wpAny_bind (wpAny_pure (wpAny_pure (And.intro rfl h0)))
      | exact wpAny_pure (And.intro rfl h0)
  · refine wpAny_bind (wpAny_rule ?_)
    show wpAny _ _ (standAt i1.pos >>= _) _ _ s
    exact wpAny_bind (wpAny_standAt (wpAny_bind (thnF h fun it' s' h' => wpAny_pure (And.intro rfl h'))))
theorem mk_sT {pins : List (Addr × Obj)} (s : Shared) (σ : L2.St) (H : Hp) (R : Value → Shared → Prop) (I : Inv X pins σ H s)
    (h : ∀ z : Shared, z.heap.objs.size = s.heap.objs.size + 1 → (∀ b o, s.heap.get? b = some o → z.heap.get? b = some o) → Inv X pins σ (upd H s.heap.objs.size (SetTO X.prog X.w s.heap.objs.size [])) z → R (.ref s.heap.objs.size) z) : wpAny (model X.prog X.w) X.A (newSet (.type "set")) R X.xe s :=
  newSet_ok (h _ (Heap.size_push ..) (fun _ _ e => Heap.get?_push_of_some _ e) (I.laid (t' := s.toks) (fun _ _ e => Heap.get?_push_of_some _ e) (Nat.le_refl _) (setTO_new (SetTR.t0 (setTR_fresh (Heap.get?_push_size _ rfl))))))
/-- {elt for target in iter if ..}, tuples -/
theorem pe_scT {ex tg iter : Expr} {ifs : List Expr} {scope : Scope} {own : List (PySem.Str × Nat)} {pos : Pos} {wi : TI} {g : TG} {tt : TT} {te : TE} (hu : X.A.in1.units < cLine) (hc : X.calm = true) (hN : X.N.Nodup) (hi : PI X tg iter wi) (ok : BlkOk X.N X.env.scope scope own)
    (hg : ∀ (s : Shared) (H : Hp) (C : Addr) (cl : List (PySem.Str × Addr)) (fp : List Addr), PG (X.blk s H scope (compEnvC scope cl C X.env) fp) tg g) (ht : ∀ (s : Shared) (H : Hp) (C : Addr) (cl : List (PySem.Str × Addr)) (fp : List Addr), PTs (X.blk s H scope (compEnvC scope cl C X.env) fp) ifs tt)
    (he : ∀ (s : Shared) (H : Hp) (C : Addr) (cl : List (PySem.Str × Addr)) (fp : List Addr), PE (X.blk s H scope (compEnvC scope cl C X.env) fp) ex te) (hs : ∀ x, foldedSetIterable iter X.env x = pure x := by intro _; rfl) :
    PE X (.SetComp ex [⟨tg, iter, ifs, 0⟩] scope pos) (tCore (fun D => SetTO X.prog X.w D []) wi g tt (taST X.K X.prog X.w te) (own.map (·.2))) := by
  refine ⟨fun pins s σ H Q I h => ?_⟩
  rw [eval_SetComp]
  refine core_run (vs1 := []) rfl mk_sT (fun R s it acc e h1 h2 => codeAny_compStart_set h1 (thnF h2 fun _ _ q => q)) (loop_of turnS1 emitS_ok (fun _ _ _ => rfl) (fun _ _ _ => rfl)) actS_mono hc hN I hi ok (fun _ z => nomatch z) hg ht (fun s H C cl fp => actST (X := X.blk s H scope (compEnvC scope cl C X.env) fp) hu rfl (he s H C cl fp)) hs h fun D C z m Z I' q hn f => ⟨m, hn, fun h2 sb => ?_⟩
  obtain ⟨f0, f1, f2, f3, f4, f5⟩ := f
  exact ⟨.ref D, Z, I'.turned (t' := z.toks) (fun b o hb e => (sb.2 b hb).trans e) f0 f1 f3 f4 f5, rfl, q⟩
theorem pe_scT2 {ex tg iter tg1 iter1 : Expr} {ifs ifs1 : List Expr} {scope : Scope} {own : List (PySem.Str × Nat)} {vs1 : List Nat} {pos : Pos} {wi wi1 : TI} {g g1 : TG} {tt tt1 : TT} {te : TE} (hu : X.A.in1.units < cLine) (hc : X.calm = true) (hN : X.N.Nodup) (hi : PI X tg iter wi) (ok : BlkOk X.N X.env.scope scope own) (hvs : ∀ i ∈ vs1, i ∈ own.map (·.2))
    (hg : ∀ (s : Shared) (H : Hp) (C : Addr) (cl : List (PySem.Str × Addr)) (fp : List Addr), PG (X.blk s H scope (compEnvC scope cl C X.env) fp) tg g) (ht : ∀ (s : Shared) (H : Hp) (C : Addr) (cl : List (PySem.Str × Addr)) (fp : List Addr), PTs (X.blk s H scope (compEnvC scope cl C X.env) fp) ifs tt)
    (hi1 : ∀ (s : Shared) (H : Hp) (C : Addr) (cl : List (PySem.Str × Addr)) (fp : List Addr), PI (X.blk s H scope (compEnvC scope cl C X.env) fp) tg1 iter1 wi1)
    (hg1 : ∀ (s : Shared) (H : Hp) (C : Addr) (cl : List (PySem.Str × Addr)) (fp : List Addr), PG (X.blk s H scope (compEnvC scope cl C X.env) fp) tg1 g1) (ht1 : ∀ (s : Shared) (H : Hp) (C : Addr) (cl : List (PySem.Str × Addr)) (fp : List Addr), PTs (X.blk s H scope (compEnvC scope cl C X.env) fp) ifs1 tt1)
    (he : ∀ (s : Shared) (H : Hp) (C : Addr) (cl : List (PySem.Str × Addr)) (fp : List Addr), PE (X.blk s H scope (compEnvC scope cl C X.env) fp) ex te) (hs : ∀ x, foldedSetIterable iter X.env x = pure x := by intro _; rfl) (hs1 : ∀ env x, foldedSetIterable iter1 env x = pure x := by intro _ _; rfl) :
    PE X (.SetComp ex [⟨tg, iter, ifs, 0⟩, ⟨tg1, iter1, ifs1, 0⟩] scope pos) (tCore (fun D => SetTO X.prog X.w D []) wi g tt (taIn wi1 g1 tt1 (taST X.K X.prog X.w te) vs1) (own.map (·.2))) := by
  refine ⟨fun pins s σ H Q I h => ?_⟩
  rw [eval_SetComp]
  refine core_run (vs1 := vs1) rfl mk_sT (fun R s it acc e h1 h2 => codeAny_compStart_set h1 (thnF h2 fun _ _ q => q)) (loop_of turnS2 (emit2_ok hs1) (fun _ _ _ => rfl) (fun _ _ _ => rfl)) act2_mono hc hN I hi ok hvs hg ht
    (fun s H C cl fp => act2_ok rfl hc startS2 (loop_of turnS2in emitS_ok (fun _ _ _ => rfl) (fun _ _ _ => rfl)) actS_mono (hi1 s H C cl fp) (hg1 s H C cl fp) (ht1 s H C cl fp) (actST (X := X.blk s H scope (compEnvC scope cl C X.env) fp) (vs := []) hu rfl (he s H C cl fp)) (fun i (z : i ∈ ([] : List Nat)) => nomatch z)) hs h fun D C z m Z I' q hn f => ⟨m, hn, fun h2 sb => ?_⟩
  obtain ⟨f0, f1, f2, f3, f4, f5⟩ := f
  exact ⟨.ref D, Z, I'.turned (t' := z.toks) (fun b o hb e => (sb.2 b hb).trans e) f0 f1 f3 f4 f5, rfl, q⟩
end
end Ab

/-! sorted({..}) in the layer; dict comprehensions in the layer. -/
namespace Ab
open PySem PySem.Spec L2
/-! the order of tuples of whole numbers -/
def lexI : List Int → List Int → Bool
  | [], [] => false
  | [], _ :: _ => true
  | _ :: _, [] => false
  | a :: r, b :: s => if a = b then lexI r s else decide (a < b)
theorem lexI_tri : ∀ a b : List Int, lexI a b = false → lexI b a = false → a = b
  | [], [], _, _ => rfl
  | [], _ :: _, h, _ => by cases h
  | _ :: _, [], _, h => by cases h
  | a :: r, b :: s, h1, h2 => by
    unfold lexI at h1 h2
    by_cases e : a = b
    · subst e
      rw [if_pos rfl] at h1 h2
      rw [lexI_tri r s h1 h2]
    · rw [if_neg e] at h1
      rw [if_neg (Ne.symm e)] at h2
      simp only [decide_eq_false_iff_not] at h1 h2
      omega
theorem lexI_asym : ∀ a b : List Int, lexI a b = true → lexI b a = false
  | [], [], h => by cases h
  | [], _ :: _, _ => rfl
  | _ :: _, [], h => by cases h
  | a :: r, b :: s, h => by
    unfold lexI at h ⊢
    by_cases e : a = b
    · subst e
      rw [if_pos rfl] at h ⊢
      exact lexI_asym r s h
    · rw [if_neg e] at h
      rw [if_neg (Ne.symm e)]
      simp only [decide_eq_true_eq, decide_eq_false_iff_not] at h ⊢
      omega
theorem lexI_neg : ∀ a b c : List Int, lexI b a = false → lexI c b = false → lexI c a = false
  | [], _, [], _, _ => rfl
  | [], [], _ :: _, _, _ => rfl
  | [], _ :: _, _ :: _, _, _ => rfl
  | _ :: _, [], _, h, _ => by cases h
  | _ :: _, _ :: _, [], _, h => by cases h
  | a :: r, b :: s, c :: t, h1, h2 => by
    unfold lexI at h1 h2 ⊢
    by_cases e1 : a = b
    · subst e1
      rw [if_pos rfl] at h1
      by_cases e2 : c = a
      · rw [if_pos e2] at h2 ⊢
        exact lexI_neg r s t h1 h2
      · rw [if_neg e2] at h2 ⊢
        exact h2
    · rw [if_neg (Ne.symm e1)] at h1
      simp only [decide_eq_false_iff_not] at h1
      by_cases e2 : c = b
      · subst e2
        rw [if_neg (Ne.symm e1)]
        simp only [decide_eq_false_iff_not]
        omega
      · rw [if_neg e2] at h2
        simp only [decide_eq_false_iff_not] at h2
        rw [if_neg (by omega)]
        simp only [decide_eq_false_iff_not]
        omega
/-- by the code of the kit -/
theorem lexI_code {B : Int} : ∀ a b : List Int, a.length = b.length → TS.Bd B a → TS.Bd B b → lexI a b = true → TS.code B a < TS.code B b
  | [], [], _, _, _, h => by cases h
  | [], _ :: _, h, _, _, _ => by cases h
  | _ :: _, [], h, _, _, _ => by cases h
  | a :: r, b :: s, hl, ha, hb, h => by
    have hl2 : r.length = s.length := by simpa using hl
    clear hl
    unfold lexI at h
    by_cases e : a = b
    · subst e
      rw [if_pos rfl] at h
      have := lexI_code r s hl2 ha.tail hb.tail h
      show a * B ^ r.length + TS.code B r < a * B ^ s.length + TS.code B s
      rw [hl2]
      omega
    · rw [if_neg e] at h
      exact TS.code_lt hl2 ha.tail hb.tail (by simpa using h)
def insT (x : List Int) : List (List Int) → List (List Int)
  | [] => [x]
  | y :: l => if lexI y x = true then y :: insT x l else x :: y :: l
def sortT : List (List Int) → List (List Int)
  | [] => []
  | x :: l => insT x (sortT l)
theorem insT_perm (x : List Int) : ∀ l : List (List Int), (insT x l).Perm (x :: l)
  | [] => .refl _
  | y :: l => by
    unfold insT
    split
    · exact ((insT_perm x l).cons y).trans (.swap x y l)
    · exact .refl _
theorem sortT_perm : ∀ l : List (List Int), (sortT l).Perm l
  | [] => .refl _
  | x :: l => (insT_perm x (sortT l)).trans ((sortT_perm l).cons x)
abbrev UpT (l : List (List Int)) : Prop := l.Pairwise fun a b => lexI b a = false
theorem insT_up (x : List Int) : ∀ {l : List (List Int)}, UpT l → UpT (insT x l)
  | [], _ => by simp [insT, UpT]
  | y :: l, h => by
    unfold insT
    have h' := List.pairwise_cons.mp h
    split
    · rename_i z
      refine List.pairwise_cons.mpr ⟨fun a ha => ?_, insT_up x h'.2⟩
      rcases List.mem_cons.mp ((insT_perm x l).mem_iff.mp ha) with rfl | ha
      · exact lexI_asym _ _ z
      · exact h'.1 a ha
    · rename_i z
      have z : lexI y x = false := by simpa using z
      refine List.pairwise_cons.mpr ⟨fun a ha => ?_, h⟩
      rcases List.mem_cons.mp ha with rfl | ha
      · exact z
      · exact lexI_neg x y a z (h'.1 a ha)
theorem sortT_up : ∀ l : List (List Int), UpT (sortT l)
  | [] => .nil
  | x :: l => insT_up x (sortT_up l)
theorem sortT_only {l m : List (List Int)} (p : m.Perm l) (u : UpT m) : m = sortT l :=
  List.Perm.eq_of_pairwise (le := fun a b => lexI b a = false) (fun a b _ _ h1 h2 => lexI_tri a b h2 h1) u (sortT_up l) (p.trans (sortT_perm l).symm)
/-! sets of tuples -/
def intsT (d : D) : Option (List Int) := match d with
  | .tup ds => intsD ds
  | _ => none
def tupI (k : List Int) : D := .tup (k.map D.int)
def accS (K : PySem.W.Frag) (Pg : Program) (w : World) : Acc K (List (List Int)) where
  R ks ρ P D o := ∃ L : List (Addr × List Int), o = SetTO Pg w D L ∧ (L.map (·.2)).Perm ks ∧ ∀ p ∈ L, P p.1 = some (.tup (p.2.map V.int))
  up := by
    rintro a ρ P D o ρ' P' ⟨L, e, pm, h⟩ _ hp
    exact ⟨L, e, pm, fun p q => hp _ _ (h p q)⟩
  noT := fun ⟨L, e, _, _⟩ => by subst e; rfl
def memT (k : List Int) : List (List Int) → Bool
  | [] => false
  | x :: l => if k = x then true else memT k l
theorem memT_iff {k : List Int} : ∀ {l : List (List Int)}, memT k l = true ↔ k ∈ l
  | [] => by simp [memT]
  | x :: l => by
    unfold memT
    split
    · rename_i e; simp [e]
    · rename_i e; rw [memT_iff]; simp [e]
def acS (me : M D) : List (List Int) → En → AH → R (List (List Int)) := fun acc env h => (me env h).bind fun d h1 => match intsT d with
  | some k => if acc.length < 60 then .ok (if memT k acc = true then acc else acc ++ [k]) h1 else .bad
  | none => .bad
section
variable {K : PySem.W.Frag} {E : XK} {ρ ρ' ρ1 ρ0 : Ro} {P H P' H' P1 H1 P0 H0 : Hp}
theorem acS_ok {Pg : Program} {w : World} {te : TE} {me : M D} (he : Sd K (RV K) E te me) : AcOk (accS K Pg w) E (taST K Pg w te) (acS me) := fun ρ0 P0 H0 D0 hD ρ P H h σ env acc x re Q p => by
  refine he ρ P σ H env h x.s re _ (PostA.bindA p x fun d h1 ρ1 P1 H1 v t1 x1 w1 p1 => ?_)
  cases e : intsT d with
  | none => simp only [e] at p1; exact p1.elim
  | some k =>
    simp only [e] at p1
    by_cases hl : acc.length < 60
    · rw [if_pos hl] at p1
      cases w1 with
      | tup q r =>
        rename_i b vs ds
        have ed := intsD_ok (show intsD ds = some k from e)
        subst ed
        have ev := r.ints_iff
        subst ev
        obtain ⟨o, eo, L, e1, pm, hL⟩ := x1.at_
        subst e1
        have hlen : L.length = acc.length := by have := pm.length_eq; simpa using this
        refine ⟨b, k, L, rfl, x1.s.sub _ _ q rfl, eo, fun p hp => .of (x1.s.sub _ _ (hL p hp) rfl), by omega, fun L' c1 c2 => ?_⟩
        have nf : ∀ r u, H1 D0 ≠ some (.frz r u) := fun r u z => by rw [eo] at z; cases z
        by_cases hm : memT k acc = true
        · have hm' : k ∈ L.map (·.2) := pm.mem_iff.mpr (memT_iff.mp hm)
          rw [if_pos hm] at p1
          obtain ⟨x2, u2⟩ := x1.put (acc' := acc) (o := SetTO Pg w D0 L') hD ⟨L', rfl, by rw [c1 hm']; exact pm, by rw [c1 hm']; exact hL⟩ nf
          exact p1 _ _ _ x2 u2
        · have hm' : k ∉ L.map (·.2) := fun z => hm (memT_iff.mpr (pm.mem_iff.mp z))
          rw [if_neg hm] at p1
          have pm2 := c2 hm'
          have pm3 : (L'.map (·.2)).Perm (k :: L.map (·.2)) := pm2.map (·.2)
          obtain ⟨x2, u2⟩ := x1.put (acc' := acc ++ [k]) (o := SetTO Pg w D0 L') hD ⟨L', rfl, (pm3.trans (pm.cons k)).trans (List.perm_append_singleton k acc).symm, fun p hp => by
            rcases List.mem_cons.mp (pm2.mem_iff.mp hp) with rfl | hp
            · exact q
            · exact hL p hp⟩ nf
          exact p1 _ _ _ x2 u2
      | _ => cases e
    · rw [if_neg hl] at p1; exact p1.elim
def okT (ks : List (List Int)) : Bool := ks.all fun k => decide (k.length = (ks.headD []).length) && (decide (0 < k.length) && k.all fun m => decide (0 ≤ m) && decide (m < 1000))
theorem okT_ok {ks : List (List Int)} (h : okT ks = true) : ∃ d, 1 ≤ d ∧ ∀ k ∈ ks, k.length = d ∧ TS.Bd 1000 k := by
  cases ks with
  | nil => exact ⟨1, Nat.le_refl _, fun k hk => nomatch hk⟩
  | cons k0 l =>
    unfold okT at h
    rw [List.all_eq_true] at h
    have h' : ∀ k ∈ k0 :: l, k.length = k0.length ∧ 0 < k.length ∧ TS.Bd 1000 k := fun k hk => by
      have := h k hk
      simp only [Bool.and_eq_true, decide_eq_true_eq, List.all_eq_true, List.headD_cons] at this
      exact ⟨of_decide_eq_true this.1, this.2.1, fun m hm => this.2.2 m hm⟩
    exact ⟨k0.length, (h' k0 List.mem_cons_self).2.1, fun k hk => ⟨(h' k hk).1, (h' k hk).2.2⟩⟩
theorem code_up {B : Int} {d : Nat} {l : List (List Int)} (hb : ∀ k ∈ l, k.length = d ∧ TS.Bd B k) (h : l.Pairwise fun a b => TS.code B a ≤ TS.code B b) : UpT l :=
  List.Pairwise.imp_of_mem (fun {a b} ha hb' hle => by
    cases z : lexI b a with
    | false => rfl
    | true =>
      have := lexI_code b a (by rw [(hb b hb').1, (hb a ha).1]) (hb b hb').2 (hb a ha).2 z
      omega) h
def mSortS (m : M (List (List Int))) : M (List D) := fun env h => (m env h).bind fun ks h1 => if okT ks = true then .ok ((sortT ks).map tupI) h1 else .bad
theorem repL_refs : ∀ {L : List (Addr × List Int)}, (∀ p ∈ L, P p.1 = some (.tup (p.2.map V.int))) → RepL K ρ P ((L.map (·.2)).map tupI) (L.map fun q => V.ref q.1)
  | [], _ => .nil
  | p :: L, h => .cons (.tup (h p List.mem_cons_self) (RepL.ints _)) (repL_refs fun q hq => h q (List.mem_cons_of_mem _ hq))
theorem sf_sortS {Pg : Program} {w : World} {te : TE} {m : M (List (List Int))} (hm : SdX (accS K Pg w) E te m) : SdF K E (tCB (rSortedT K Pg w) (tCons te tNil)) (mSortS m) := fun ρ P σ H env h s re Q p => by
  refine hm ρ P σ H env h s re _ ?_
  have p : PostF K E ρ P H Q ((m env h).bind fun ks h1 => if okT ks = true then .ok ((sortT ks).map tupI) h1 else .bad) := p
  cases q : m env h with
  | bad => rw [q] at p; exact p
  | exc x fs hh => rw [q] at p; exact p
  | ok ks h1 =>
    rw [q] at p
    intro ρ' P' H' a o t s1 hp np nr eo ra
    have p : PostF K E ρ P H Q (if okT ks = true then .ok ((sortT ks).map tupI) h1 else .bad) := p
    by_cases hk : okT ks = true
    · rw [if_pos hk] at p
      obtain ⟨L, e1, pm, hL⟩ := ra
      subst e1
      obtain ⟨d, hd, hB⟩ := okT_ok hk
      refine ⟨a, L, d, 1000, rfl, eo, fun p hp => .of (s1.sub _ _ (hL p hp) rfl), hd, fun p hp => hB _ (pm.mem_iff.mp (List.mem_map.mpr ⟨p, hp, rfl⟩)), fun L' b pm' nd few pw hb => ?_⟩
      have e2 : L'.map (·.2) = sortT ks := sortT_only ((pm'.map (·.2)).trans pm) (code_up (d := d) (B := 1000) (fun k hk => hB k ((((pm'.map (·.2)).trans pm).mem_iff).mp hk)) (List.pairwise_map.mpr pw))
      have hL' : ∀ p ∈ L', P' p.1 = some (.tup (p.2.map V.int)) := fun p hp => hL p (pm'.mem_iff.mp hp)
      have w := repL_refs (K := K) (ρ := ρ') (P := P') hL'
      rw [e2] at w
      exact PostF.newL (PostF.mono p t) s1 w b hb
    · rw [if_neg hk] at p; exact p.elim
/-! dicts with tuple keys -/
def accD (K : PySem.W.Frag) : Acc K (List (List Key × D)) where
  R kvs ρ P D o := ∃ kws : List (List Key × V), o = .dT kws ∧ kws.map (·.1) = kvs.map (·.1) ∧ RepL K ρ P (kvs.map (·.2)) (kws.map (·.2))
  up := by
    rintro a ρ P D o ρ' P' ⟨kws, e, ek, r⟩ hm hp
    exact ⟨kws, e, ek, r.up hm hp⟩
  noT := fun ⟨kws, e, _, _⟩ => by subst e; rfl
def acD (mk mv : M D) : List (List Key × D) → En → AH → R (List (List Key × D)) := fun acc env h => (mk env h).bind fun k h1 => (mv env h1).bind fun v h2 => match keyT k with
  | some ks => if acc.length < sizeLine then .ok (fPut acc ks v) h2 else .bad
  | none => .bad
theorem acD_ok {tk tv : TE} {mk mv : M D} (hk : Sd K (RV K) E tk mk) (hv : Sd K (RV K) E tv mv) : AcOk (accD K) E (taDT tk tv) (acD mk mv) := fun ρ0 P0 H0 D0 hD ρ P H h σ env acc x re Q p => by
  refine hk ρ P σ H env h x.s re _ (PostA.bindA p x fun d h1 ρ1 P1 H1 v t1 x1 w1 p1 => ?_)
  refine hv ρ1 P1 σ H1 env h1 x1.s (re.step t1) _ (PostA.bindA p1 x1 fun e h2 ρ2 P2 H2 u t2 x2 w2 p2 => ?_)
  cases ek : keyT d with
  | none => simp only [ek] at p2; exact p2.elim
  | some ks =>
    simp only [ek] at p2
    by_cases hl : acc.length < sizeLine
    · rw [if_pos hl] at p2
      obtain ⟨b, ev, hb⟩ := keyT_ok x2.s (w1.step t2) ek
      subst ev
      obtain ⟨o, eo, kws, e1, e2, r⟩ := x2.at_
      subst e1
      have hlen : kws.length = acc.length := by have := congrArg List.length e2; simpa using this
      refine ⟨b, kws, ks, rfl, hb, eo, by omega, ?_⟩
      obtain ⟨r1, r2⟩ := put_rel (k := ks) w2 e2 r
      have nf : ∀ r u, H2 D0 ≠ some (.frz r u) := fun r u z => by rw [eo] at z; cases z
      obtain ⟨x3, u3⟩ := x2.put (acc' := fPut acc ks e) (o := .dT (putK kws ks u)) hD ⟨_, rfl, r1, r2⟩ nf
      exact p2 _ _ _ x3 u3
    · rw [if_neg hl] at p2; exact p2.elim
def mDicF (m : M (List (List Key × D))) : M D := fun env h => (m env h).bind fun kvs h1 => .ok (.dic (kvs.map (·.1)) (kvs.map (·.2))) h1
def mDicO (m : M (List (List Key × D))) : M D := fun env h => (m env h).bind fun kvs h1 => .ok (.loc h1.length) (h1 ++ [.dct kvs])
theorem sd_dicF {t : TE} {m : M (List (List Key × D))} (hr : SdX (accD K) E t m) : Sd K (RV K) E t (mDicF m) := fun ρ P σ H env h s re Q p => by
  refine hr ρ P σ H env h s re Q ?_
  have p : Post K (RV K) E ρ P H Q ((m env h).bind fun kvs h1 => .ok (.dic (kvs.map (·.1)) (kvs.map (·.2))) h1) := p
  cases q : m env h with
  | bad => rw [q] at p; exact p
  | exc x fs h => rw [q] at p; exact p
  | ok kvs h1 =>
    rw [q] at p
    intro ρ' P' H' a o t s1 hp np nr e ra
    obtain ⟨kws, e1, e2, w⟩ := ra
    subst e1
    have kp : ∀ b o, P' b = some o → upd P' a (.dT kws) b = some o := upd_keep np
    have hl := congrArg List.length e2
    simp only [List.length_map] at hl
    refine p ρ' (upd P' a (.dT kws)) H' _ ⟨t.mono, fun b o eb => kp b o (t.pure b o eb), t.newr, fun b eb hb => ?_, t.keep, t.there⟩ ⟨fun b o eb nd => ?_, fun b o eb => ?_, fun n b eb => ?_, s1.inj, fun n o eo => ?_, s1.dom⟩
      (.dic (vs := kws.map (·.2)) upd_same (by rw [← e2]; exact zip_parts) (by simp only [List.length_map]; exact hl.symm) (w.up (fun _ _ e => e) kp))
    · have z : b ≠ a := fun z => by
        subst z
        rcases hb with ⟨n, e1⟩ | ⟨u, e1, _⟩
        · exact nr n (t.mono n b e1)
        · rw [hp] at e1; cases e1
      rw [upd_ne z]; exact t.newp b eb hb
    · by_cases z : b = a
      · subst z; rw [upd_same] at eb; cases eb; cases nd
      · rw [upd_ne z] at eb; exact s1.sub b o eb nd
    · by_cases z : b = a
      · subst z; rw [upd_same] at eb; cases eb; exact .inl e
      · rw [upd_ne z] at eb; exact s1.subD b o eb
    · have z : b ≠ a := fun z => nr n (z ▸ eb)
      rw [upd_ne z]; exact s1.apart n b eb
    · obtain ⟨b, e1, r⟩ := s1.obj n o eo
      exact ⟨b, e1, r.up (fun _ _ e => e) kp fun _ e => e⟩
end
end Ab

/-! sorted(list or dict of tuples of whole numbers), of any length. -/
namespace Ab
open PySem PySem.Spec L2 PyProof.Rows
section
variable {prog : Program} {w : World} {A : Around} {E : Value → Shared → Prop} {s : Shared}
theorem kat_lexI {b fin : Bool} {Q : Bool → Shared → Prop} : ∀ {xs ys : List Value} {ns ms : List Int} (i : Nat), IntsAre xs ns → IntsAre ys ms → fin = decide (xs.length < ys.length) → Q (lexI ns ms) s → PySem.W.KatLex prog w A b fin Q (xs.zip ys) i s
  | _, _, _, _, i, .nil, .nil, hf, h => by
    have e : fin = false := by rw [hf]; rfl
    rw [e]
    exact PySem.W.kat_nil h
  | _, _, _, _, i, .nil, .cons q u hy, hf, h => by
    have e : fin = true := by rw [hf]; simp
    rw [e]
    exact PySem.W.kat_nil h
  | _, _, _, _, i, .cons q u hy, .nil, hf, h => by
    have e : fin = false := by rw [hf]; simp
    rw [e]
    exact PySem.W.kat_nil h
  | _, _, _, _, i, .cons (vs := xs) (ns := ns) p t hx, .cons (vs := ys) (ns := ms) q u hy, hf, h => by
    show PySem.W.KatLex prog w A b fin Q ((Value.int p t, Value.int q u) :: xs.zip ys) i s
    refine PySem.W.kat_cons (wpAny_eqBool_int ?_)
    by_cases e : p = q
    · subst e
      rw [beq_self_eq_true]
      have h : Q (lexI ns ms) s := by
        have e2 : lexI (p :: ns) (p :: ms) = lexI ns ms := by rw [lexI, if_pos rfl]
        rw [← e2]; exact h
      exact PySem.W.kat_yes (kat_lexI (i + 1) hx hy (by rw [hf]; simp) h)
    · rw [show (p == q) = false from beq_eq_false_iff_ne.mpr e]
      refine PySem.W.kat_no (TS.oneLt_ints _ ?_)
      have e2 : lexI (p :: ns) (q :: ms) = decide (p < q) := by rw [lexI, if_neg e]
      rw [← e2]; exact h
abbrev ltT (k : Value → List Int) : Value → Value → Bool := fun v u => lexI (k v) (k u)
theorem ltT_swo (k : Value → List Int) : SrtO.Swo (ltT k) := ⟨fun x y h => lexI_asym _ _ h, fun x y z h1 h2 => lexI_neg _ _ _ h1 h2⟩
theorem tup_cmp {vs : List Value} {k : Value → List Int} (hp : ∀ v ∈ vs, TS.TupInts s.heap v (k v)) : SrtO.Cmp prog w A s (tuples' true) (fun p => p.1 ∈ vs) (SrtO.lt2 (ltT k)) := by
  intro p q hm hm'
  obtain ⟨a, xs, e1, ⟨o, ho, hc, n, hd⟩, i⟩ := hp _ hm
  obtain ⟨a', ys, e2, ⟨o', ho', hc', n', hd'⟩, i'⟩ := hp _ hm'
  show wpAny (model prog w) A (keyLt' (tuples' true) p.1 q.1) (fun r s' => s' = s ∧ r = lexI (k p.1) (k q.1)) (fun _ _ => False) s
  generalize k p.1 = K1 at i ⊢
  generalize k q.1 = K2 at i' ⊢
  rw [e1, e2]
  refine PySem.W.kat_lt ho hd ho' hd' ?_
  exact kat_lexI 0 i i' (by rw [Array.length_toList, Array.length_toList]) ⟨rfl, rfl⟩
theorem tup_sortable {a : Addr} {vs : List Value} {k : Value → List Int} (h0 : 0 < vs.length) (hp : ∀ v ∈ vs, TS.TupInts s.heap v (k v) ∧ k v ≠ []) (ha : ∀ o, s.heap.get? a = some o → o.cls ≠ .type "tuple") : SrtO.SortableO prog w A s a vs (ltT k) := by
  intro h' keep
  have hp' : ∀ v ∈ vs, TS.TupInts h' v (k v) := fun v hm => (hp v hm).1.keeps fun b o e c => keep b o (fun z => by subst z; exact ha o e c) e
  have fs : ∀ us : List Value, (∀ v ∈ us, v ∈ vs) → ∃ fs, PySem.W.KatTups h' us fs ∧ fs.length = us.length ∧ ∀ f, f ∈ fs → ∃ n t, f = Value.int n t := by
    intro us
    induction us with
    | nil => intro _; exact ⟨[], PySem.W.KatTups.nil, rfl, fun f hf => by simp at hf⟩
    | cons v us ih =>
      intro hv
      obtain ⟨fs, kk, hl, hi⟩ := ih fun u hu => hv u (List.mem_cons_of_mem _ hu)
      obtain ⟨b, xs, ev, ⟨o, ho, hc, n, hdt⟩, i⟩ := hp' v (hv v List.mem_cons_self)
      have hne := (hp v (hv v List.mem_cons_self)).2
      obtain ⟨y, ys, e⟩ : ∃ y ys, xs.toList = y :: ys := by
        cases q : xs.toList with
        | nil =>
          rw [q] at i
          have l := i.length
          exact absurd (List.length_eq_zero_iff.mp l.symm) hne
        | cons y ys => exact ⟨y, ys, rfl⟩
      obtain ⟨m, t, hy⟩ := i.all y (by rw [e]; exact List.mem_cons_self ..)
      subst ev
      refine ⟨y :: fs, PySem.W.KatTups.cons ho hc hdt ?_ kk, by simp [hl], ?_⟩
      · have z := congrArg (fun l : List Value => l[0]?) e
        simpa using z
      · intro f hf
        rcases List.mem_cons.mp hf with rfl | hf
        · exact ⟨m, t, hy⟩
        · exact hi f hf
  obtain ⟨fs, h1, h2, h3⟩ := fs vs fun v h => h
  refine ⟨tuples' true, fun Q E hq => ?_, tup_cmp (s := { s with heap := h' }) hp'⟩
  refine PySem.W.kat_kind (T := .type "int") h1 (by omega) (fun f hm => ?_) (by rfl) ?_
  · obtain ⟨x, t, rfl⟩ := h3 f hm
    exact PySem.W.Looks.now
  · have e : (Value.type "int" != Value.type "tuple") = true := by first | decide +kernel | rfl | decide
    rw [e]
    exact hq
end
/-- what is sorted comes out as the one ascending arrangement -/
def rSortTO (K : PySem.W.Frag) : List V → Hp → VK → Prop := fun vs H Q => ∃ (a : Addr) (ks : List (List Int)) (k : Addr → List Int), vs = [V.ref a] ∧ ((∃ bs : List Addr, SqL K H a (bs.map V.ref) ∧ bs.map k = ks ∧ ∀ b ∈ bs, H b = some (.tup ((k b).map V.int))) ∨
    ∃ kvs, Rd H a (.dT kvs) ∧ kvs.length ≤ sizeLine ∧ ∀ cs : List Addr, IsKeys H kvs cs → cs.map k = ks ∧ ∀ b ∈ cs, H b = some (.tup ((k b).map V.int))) ∧ (∀ x ∈ ks, x ≠ []) ∧
  ∀ (cs : List Addr) (p : Addr), (cs.map k).Perm ks → UpT (cs.map k) → (∀ b ∈ cs, H b = some (.tup ((k b).map V.int))) → H p = none → Q (.ref p) (upd H p (.lst (cs.map V.ref)))
section
variable {X : Cx}
def adr : Value → Addr
  | .ref a => a
  | _ => 0
theorem tupInts_at {pins : List (Addr × Obj)} {σ : L2.St} {H : Hp} {s : Shared} (I : Inv X pins σ H s) {b : Addr} {ns : List Int} (h : H b = some (.tup (ns.map V.int))) : TS.TupInts s.heap (.ref b) ns := tupInts_of (P := X.prog) (w := X.w) (I.isT (.of h))
theorem cr_sortTO (hcalm : X.calm = true) : CallR X (.builtin "sorted") (rSortTO X.K) := by
  intro pins s σ H vs us Q I r h
  obtain ⟨a, ks0, k, rfl, src, hne, q⟩ := h
  rw [Vals.ref1 r]
  rcases src with ⟨bs, hs, ebs, hb⟩ | ⟨kvs, hd, hz, hc⟩
  · subst ebs
    obtain ⟨its, rv, hl, hz⟩ := I.list hs
    have ei : its = bs.map Value.ref := by
      have : ∀ {cs : List Addr} {us : List Value}, Vals (cs.map V.ref) us → us = cs.map Value.ref := by
        intro cs
        induction cs with
        | nil => intro us r; cases r; rfl
        | cons c cs ih => intro us r; cases r with | cons a b => cases a; rw [ih b]; rfl
      exact this rv
    subst ei
    refine SrtO.sorted_ord (ltv := ltT fun v => k (adr v)) (ltT_swo _) hl.isList (by rw [← rv.length]; exact hz) (fun h2 h₁ c hc kk => ?_) fun out hs hst => ?_
    · refine tup_sortable (s := { s with heap := h₁ }) (by omega) (fun v hm => ?_) fun o e => ?_
      · obtain ⟨b, hbm, rfl⟩ := List.mem_map.mp hm
        exact ⟨(tupInts_at I (hb b hbm)).keeps fun c o e _ => (kk c o e).2, hne _ (List.mem_map.mpr ⟨b, hbm, rfl⟩)⟩
      · have e' : some o = some (seqObj "list" (bs.map Value.ref).toArray 0) := e.symm.trans hc
        cases e'
        intro c
        exact absurd (Value.type.inj c) (by decide)
    · have hm : ∀ u ∈ out, ∃ b ∈ bs, u = Value.ref b := fun u hu => by
        obtain ⟨b, hb, e⟩ := List.mem_map.mp (hst.perm.mem_iff.mp hu)
        exact ⟨b, hb, e.symm⟩
      have eo : out = (out.map adr).map Value.ref := by
        rw [List.map_map]
        refine (List.map_id out).symm.trans (List.map_congr_left fun u hu => ?_)
        obtain ⟨b, _, rfl⟩ := hm u hu
        rfl
      have pm : (out.map adr).Perm bs := by
        have := hst.perm.map adr
        rw [List.map_map] at this
        have e : (bs.map (adr ∘ Value.ref)) = bs := (List.map_congr_left fun _ _ => rfl).trans (List.map_id bs)
        rw [e] at this
        exact this
      have hlen : ((out.map adr).map V.ref).length ≤ sizeLine := by rw [List.length_map, pm.length_eq]; simpa using hz
      have kp : ∀ b o, s.heap.get? b = some o → (sortedAll s.heap (bs.map Value.ref) out.toArray).get? b = some o := fun b o e => sortedAll_old e
      have hv : Vals ((out.map adr).map V.ref) out := by
        have := vals_refs (out.map adr)
        rw [← eo] at this
        exact this
      obtain ⟨n, hn⟩ := sortedAll_at s.heap (bs.map Value.ref) out.toArray
      refine ⟨.ref (s.heap.objs.size + 1), _, I.laid (t' := s.toks) (o := .lst ((out.map adr).map V.ref)) kp (Nat.le_succ _) ⟨hlen, out, n, hv, hn⟩, rfl, q _ _ (pm.map k) ?_ (fun b hbm => hb b (pm.mem_iff.mp hbm)) (I.hok.fresh (Nat.le_succ _))⟩
      rw [List.map_map]
      exact List.pairwise_map.mpr hs
  · obtain ⟨z, hs, ks, pr, o, es, ep, ho, hx, hdt, he, hn⟩ := (show ObjOk X.prog X.w H s.heap a (.dT kvs) from hd.ok I.hok)
    have l1 : es.size = ks.length := size_of_entries he
    have l2 : kvs.length = ks.length := Paired.length pr
    have ik := isKeys_of pr
    obtain ⟨ekb, hcb⟩ := hc _ ik
    generalize ecs : (ks.map fun x => x.2.1) = cs at ik ekb hcb
    refine Calls.call_function_entry PyProof.Rows.kind_sorted PyProof.Rows.plain_sorted PyProof.Rows.entry_sorted (PyProof.Rows.args_sorted1 _) ?_
    unfold Builtin.«sorted»
    refine wpAny_bind (m := checkCount "sorted" 1 1 _) (wpAny_pure ?_)
    refine wpAny_bind (PySem.W.kdu_collect (A := X.A.in1) (kdl_raw hs hx hdt) (I.ok.hd hcalm) ho (by omega) fun h' tk acc hk hacc => ?_)
    have ea : acc.toList = cs.map Value.ref := by
      have hl : acc.toList.length = ks.length := by rw [Array.length_toList, hacc.1]; exact l1
      rw [← ecs, List.map_map]
      apply List.ext_getElem?
      intro j
      rw [List.getElem?_map]
      cases hj : acc.toList[j]? with
      | none =>
        have h1 := List.getElem?_eq_none_iff.mp hj
        rw [List.getElem?_eq_none (by omega)]
        rfl
      | some v =>
        obtain ⟨en, hen, hv⟩ := hacc.2 j v (by rw [← Array.getElem?_toList]; exact hj)
        have qe := entry_at he j
        rw [hen] at qe
        cases hb : ks[j]? with
        | none =>
          rw [hb] at qe
          exact nomatch (show some en = none from qe)
        | some b =>
          rw [hb] at qe
          have e2 : en = entryOfKey (tupleKind (mixKind X.prog X.w)) b := Option.some.inj qe
          rw [hv, e2]
          rfl
    have hal : acc.toList.length = cs.length := by rw [ea, List.length_map]
    have hcl : cs.length ≤ sizeLine := by rw [← ecs, List.length_map]; omega
    have hnc : ∀ b ∈ cs, k b ≠ [] := fun b hbm => hne _ (ekb ▸ List.mem_map.mpr ⟨b, hbm, rfl⟩)
    have I1 : Inv X pins σ H { s with heap := h', toks := tk } := I.kept hk
    refine wpAny_bind (wpAny_newList ?_ (by rw [hal]; exact hcl))
    have hoL : (h'.push (seqObj "list" acc.toList.toArray 0)).get? h'.objs.size = some (seqObj "list" acc.toList.toArray 0) := Heap.get?_push_size _ rfl
    show wpAny _ _ _ _ _ { s with heap := h'.push (seqObj "list" acc.toList.toArray 0), toks := tk }
    have kp2 : ∀ b o, h'.get? b = some o → (h'.push (seqObj "list" acc.toList.toArray 0)).get? b = some o := fun b o e => Heap.get?_push_of_some _ e
    refine wpAny_bind (wpAny_holding (wpAny_call_entry PyProof.Rows.slot_list_sort ⟨_, hoL, rfl⟩ PyProof.Rows.entry_list_sort
      (SrtO.list_sort_ord (s := { s with heap := h'.push (seqObj "list" acc.toList.toArray 0), toks := tk }) (ltv := ltT fun v => k (adr v)) (ltT_swo _) hoL (by rw [hal]; exact hcl) (fun h2 => tup_sortable (by omega) (fun v hm => ?_) fun o' e => ?_) fun out hs hst => ⟨_, rfl, ?_⟩) (PyProof.Rows.args_list_sort _)))
    · rw [ea] at hm
      obtain ⟨b, hbm, rfl⟩ := List.mem_map.mp hm
      exact ⟨(tupInts_at I1 (hcb b hbm)).keeps fun c o e _ => kp2 c o e, hnc b hbm⟩
    · have e' : some o' = some (seqObj "list" acc.toList.toArray 0) := e.symm.trans hoL
      cases e'
      intro c
      exact absurd (Value.type.inj c) (by decide)
    · rw [ea] at hst
      have hm : ∀ u ∈ out, ∃ b ∈ cs, u = Value.ref b := fun u hu => by
        obtain ⟨b, hb, e⟩ := List.mem_map.mp (hst.perm.mem_iff.mp hu)
        exact ⟨b, hb, e.symm⟩
      have eo : out = (out.map adr).map Value.ref := by
        rw [List.map_map]
        refine (List.map_id out).symm.trans (List.map_congr_left fun u hu => ?_)
        obtain ⟨b, _, rfl⟩ := hm u hu
        rfl
      have pm : (out.map adr).Perm cs := by
        have := hst.perm.map adr
        rw [List.map_map] at this
        have e : (cs.map (adr ∘ Value.ref)) = cs := (List.map_congr_left fun _ _ => rfl).trans (List.map_id cs)
        rw [e] at this
        exact this
      obtain ⟨e', he'⟩ := PyProof.Rows.sortedHeap_at (vs := acc.toList) (out := out.toArray) hoL
      have hlen : ((out.map adr).map V.ref).length ≤ sizeLine := by rw [List.length_map, pm.length_eq]; exact hcl
      have hv : Vals ((out.map adr).map V.ref) out := by
        have := vals_refs (out.map adr)
        rw [← eo] at this
        exact this
      refine wpAny_pure ⟨_, rfl, .ref h'.objs.size, upd H h'.objs.size (.lst ((out.map adr).map V.ref)), I1.laid (t' := tk) (fun b u e => ?_) (Nat.le_refl _)
        (show ObjOk X.prog X.w _ _ _ (.lst ((out.map adr).map V.ref)) from ⟨hlen, out, e', hv, he'⟩), rfl, q _ _ ((pm.map k).trans (ekb ▸ .refl _)) ?_ (fun b hbm => hcb b (pm.mem_iff.mp hbm)) (I1.hok.fresh (Nat.le_refl _))⟩
      · have hb : b < h'.objs.size := Heap.lt_size e
        rw [PyProof.Rows.sortedHeap_old (Nat.ne_of_lt hb) (by rw [size_push']; exact Nat.lt_succ_of_lt hb)]
        exact Heap.get?_push_of_some _ e
      · rw [List.map_map]
        exact List.pairwise_map.mpr hs
end
end Ab

/-! Dicts walked, listed, sorted, made by comprehensions and displays; reversed slices. -/
namespace Ab
open PySem PySem.Spec L2
theorem SR.adoptL {K : PySem.W.Frag} {ρ : Ro} {P H : Hp} {h : AH} (s : SR K ρ P H h) : ∀ l : List (Addr × List V), (∀ p ∈ l, H p.1 = some (.tup p.2)) → ∃ P2, Step ρ P H ρ P2 H ∧ SR K ρ P2 H h ∧ ∀ p ∈ l, P2 p.1 = some (.tup p.2)
  | [], _ => ⟨P, Step.refl .., s, fun _ z => nomatch z⟩
  | p :: l, hp => by
    obtain ⟨P1, t1, s1, e1⟩ := s.adopt (hp p List.mem_cons_self)
    obtain ⟨P2, t2, s2, e2⟩ := s1.adoptL l fun q hq => hp q (List.mem_cons_of_mem _ hq)
    refine ⟨P2, t1.trans t2, s2, fun q hq => ?_⟩
    rcases List.mem_cons.mp hq with rfl | hq
    · exact t2.pure _ _ e1
    · exact e2 q hq
section
variable {K : PySem.W.Frag} {E : XK} {ρ ρ' ρ1 : Ro} {P H P' H' P1 H1 : Hp}
/-! a dict is walked -/
def keyDv : Key → D
  | .inl i => .int i
  | .inr x => .str x
def keyTD (k : List Key) : D := .tup (k.map keyDv)
theorem repL_keys : ∀ k : List Key, RepL K ρ P (k.map keyDv) (k.map kV)
  | [] => .nil
  | .inl i :: k => .cons (.int i) (repL_keys k)
  | .inr x :: k => .cons (.str x) (repL_keys k)
/-- a dict that stands is locked -/
theorem SR.lock {h : AH} (s : SR K ρ P H h) {d : Addr} {kws : List (List Key × V)} (hp : P d = some (.dT kws)) (hd : H d = some (.dT kws)) (o : Obj) : SR K ρ P (upd H d (.frz o (.dT kws))) h ∧ Step ρ P H ρ P (upd H d (.frz o (.dT kws))) := by
  have nr : NoR ρ d := fun n e => by rw [s.apart n d e] at hp; cases hp
  refine ⟨⟨fun a u e n => ?_, fun a u e => ?_, s.apart, s.inj, fun n u e => ?_, s.dom⟩, ⟨fun _ _ e => e, fun _ _ e => e, fun n a e e' => (by rw [e] at e'; cases e'), fun _ e _ => e, fun a u e _ w => ?_, fun a e => ?_⟩⟩
  · have z : a ≠ d := fun z => by rw [z, hp] at e; cases e; cases n
    rw [upd_ne z]; exact s.sub a u e n
  · by_cases z : a = d
    · subst z; rw [hp] at e; cases e; exact .inr ⟨o, upd_same⟩
    · exact rd_keep (fun o e => by rw [upd_ne z]; exact e) (s.subD a u e)
  · obtain ⟨a, e1, r⟩ := s.obj n u e
    have z : a ≠ d := fun z => nr n (z ▸ e1)
    exact ⟨a, e1, r.up (fun _ _ e => e) (fun _ _ e => e) fun o e => by rw [upd_ne z]; exact e⟩
  · have z : a ≠ d := fun z => by
      subst z
      rw [hd] at e
      cases e
      rcases w with w | w
      · rw [hp] at w; cases w
      · cases w
    rw [upd_ne z]; exact e
  · by_cases z : a = d
    · rw [z, upd_same]; simp
    · rw [upd_ne z]; exact e
def iKeysL (td : TE) : TI := fun σ H R => td σ H fun x H1 => ∃ d kvs, x = .ref d ∧ ((∃ o, H1 d = some (.frz o (.dT kvs)) ∧ R (Itkt d o kvs) H1) ∨ (H1 d = some (.dT kvs) ∧ ∀ o, R (Itkt d o kvs) (upd H1 d (.frz o (.dT kvs)))))
def miDic (m : M D) : MI := fun env h => (m env h).bind fun d h1 => match d with
  | .dic ks ds => if ks.length = ds.length then .ok (.items (ks.map keyTD)) h1 else .bad
  | _ => .bad
theorem itOk_K {h : AH} {d : Addr} {o : Obj} {kws : List (List Key × V)} (hd : H d = some (.frz o (.dT kws))) : ItOk K ρ P H (.items ((kws.map (·.1)).map keyTD)) (Itkt d o kws) := fun ρ' P' H' tm tp tf h' s i => by
  have hd' : H' d = some (.frz o (.dT kws)) := tf _ _ _ hd
  refine ⟨fun x e => ?_, fun e => ⟨hd', by simpa using e⟩⟩
  rw [List.getElem?_map, List.getElem?_map] at e
  cases q : kws[i]? with
  | none => rw [q] at e; cases e
  | some kv =>
    rw [q] at e
    cases e
    refine ⟨⟨hd', (List.getElem?_eq_some_iff.mp q).1⟩, fun y H2 yy => ?_⟩
    obtain ⟨rfl, k, v, a, e1, rfl, ha⟩ := yy
    rw [q] at e1
    cases e1
    obtain ⟨P2, t2, s2, e2⟩ := s.adopt ha
    exact ⟨P2, t2, s2, .tup e2 (repL_keys k)⟩
variable {X : Cx} {e : Expr} {tg : Expr} {t : TE} {m : M D}
/-! list(d), sorted(d), sorted(list of tuples) -/
theorem keys_rep {h : AH} (s : SR K ρ P H h) {kws : List (List Key × V)} : ∀ {bs : List Addr}, IsKeys H kws bs → ∃ P2, Step ρ P H ρ P2 H ∧ SR K ρ P2 H h ∧ RepL K ρ P2 ((kws.map (·.1)).map keyTD) (bs.map V.ref) := fun {bs} ik => by
  obtain ⟨P2, t2, s2, e2⟩ := s.adoptL (List.zip bs (kws.map fun kv => kv.1.map kV)) (by
    intro p hp
    unfold IsKeys at ik
    induction ik with
    | nil => cases hp
    | cons a b ih =>
      rcases List.mem_cons.mp hp with rfl | hp
      · exact a
      · exact ih hp)
  refine ⟨P2, t2, s2, ?_⟩
  unfold IsKeys at ik
  induction ik with
  | nil => exact .nil
  | cons a b ih => exact .cons (.tup (e2 _ List.mem_cons_self) (repL_keys _)) (ih fun p hp => e2 p (List.mem_cons_of_mem _ hp))
def listDD : List D → AH → R (List D) := fun ds h => match ds with
  | [d] => (match dctD d h with
    | some kvs => .ok ((kvs.map (·.1)).map keyTD) h
    | none => .bad)
  | _ => .bad
theorem cb_listD : CbF K E (fun xs H Q => ∃ d kvs, xs = [V.ref d] ∧ Rd H d (.dT kvs) ∧ ∀ p bs, H p = none → IsKeys H kvs bs → Q (.ref p) (upd H p (.lst (bs.map V.ref)))) listDD := fun ρ P H h vs ds s w Q p => by
  unfold listDD at p
  split at p
  · obtain ⟨v, rfl, r⟩ := w.one
    split at p
    · rename_i kvs e
      obtain ⟨a, kws, rfl, hd, ek, _⟩ := dctD_ok s r e
      refine ⟨a, kws, rfl, hd, fun q bs hq ik => ?_⟩
      obtain ⟨P2, t2, s2, w2⟩ := keys_rep s ik
      rw [ek] at w2
      exact PostF.newL (PostF.mono p t2) s2 w2 q hq
    · exact p.elim
  · exact p.elim
def intsTs : List D → Option (List (List Int))
  | [] => some []
  | d :: ds => match intsT d, intsTs ds with
    | some k, some ks => some (k :: ks)
    | _, _ => none
theorem intsT_ok {d : D} {k : List Int} (h : intsT d = some k) : d = tupI k := by
  cases d with
  | tup ds => rw [tupI, ← intsD_ok (show intsD ds = some k from h)]
  | _ => cases h
theorem intsTs_ok : ∀ {ds : List D} {ks : List (List Int)}, intsTs ds = some ks → ds = ks.map tupI
  | [], _, e => by cases e; rfl
  | d :: ds, ks, e => by
    unfold intsTs at e
    cases q : intsT d with
    | none => rw [q] at e; cases e
    | some k =>
      cases q2 : intsTs ds with
      | none => rw [q, q2] at e; cases e
      | some ks2 => rw [q, q2] at e; cases e; rw [intsT_ok q, intsTs_ok q2]; rfl
def intV : V → Int
  | .int i => i
  | _ => 0
/-- the ints of the tuple that stands at b -/
def kAt (H : Hp) (b : Addr) : List Int := match H b with
  | some (.tup vs) => vs.map intV
  | _ => []
theorem kAt_of {b : Addr} {k : List Int} (h : H b = some (.tup (k.map V.int))) : kAt H b = k := by
  unfold kAt
  rw [h]
  show (k.map V.int).map intV = k
  rw [List.map_map]
  exact (List.map_congr_left fun _ _ => rfl).trans (List.map_id k)
theorem tups_at {h : AH} (s : SR K ρ P H h) : ∀ {ks : List (List Int)} {vs : List V}, RepL K ρ P (ks.map tupI) vs → ∃ bs : List Addr, vs = bs.map V.ref ∧ bs.map (kAt H) = ks ∧ ∀ b ∈ bs, H b = some (.tup ((kAt H b).map V.int))
  | [], _, .nil => ⟨[], rfl, rfl, fun _ z => nomatch z⟩
  | k :: ks, _, .cons (.tup (a := a) q r) b => by
    obtain ⟨bs, e1, e2, e3⟩ := tups_at s b
    have ev := r.ints_iff
    subst ev
    have ha : H a = some (.tup (k.map V.int)) := s.sub _ _ q rfl
    refine ⟨a :: bs, by rw [e1]; rfl, by rw [List.map_cons, kAt_of ha, e2], fun c hc => ?_⟩
    rcases List.mem_cons.mp hc with rfl | hc
    · rw [kAt_of ha]; exact ha
    · exact e3 c hc
/-- the keys of a dict as rows of whole numbers -/
def keyI : List Key → Option (List Int)
  | [] => some []
  | .inl i :: k => (keyI k).map (i :: ·)
  | .inr _ :: _ => none
def keyIs' : List (List Key) → Option (List (List Int))
  | [] => some []
  | k :: l => match keyI k, keyIs' l with
    | some a, some b => some (a :: b)
    | _, _ => none
theorem keyI_ok : ∀ {k : List Key} {ns : List Int}, keyI k = some ns → k.map kV = ns.map V.int
  | [], _, e => by cases e; rfl
  | .inl i :: k, ns, e => by
    have e : (keyI k).map (i :: ·) = some ns := e
    cases q : keyI k with
    | none => rw [q] at e; cases e
    | some ms => rw [q] at e; cases e; rw [List.map_cons, keyI_ok q]; rfl
  | .inr _ :: _, _, e => by cases e
theorem keyIs_at {kws : List (List Key × V)} : ∀ {bs : List Addr} {ks : List (List Int)}, IsKeys H kws bs → keyIs' (kws.map (·.1)) = some ks → bs.map (kAt H) = ks ∧ ∀ b ∈ bs, H b = some (.tup ((kAt H b).map V.int)) := fun {bs ks} ik e => by
  unfold IsKeys at ik
  induction ik generalizing ks with
  | nil => cases e; exact ⟨rfl, fun _ z => nomatch z⟩
  | @cons kv b kws bs a r ih =>
    simp only [List.map_cons, keyIs'] at e
    cases q1 : keyI kv.1 with
    | none => rw [q1] at e; cases e
    | some n1 =>
      cases q2 : keyIs' (kws.map (·.1)) with
      | none => rw [q1, q2] at e; cases e
      | some n2 =>
        rw [q1, q2] at e
        cases e
        obtain ⟨e1, e2⟩ := ih q2
        have ha : H b = some (.tup (n1.map V.int)) := by rw [← keyI_ok q1]; exact a
        refine ⟨by rw [List.map_cons, kAt_of ha, e1], fun c hc => ?_⟩
        rcases List.mem_cons.mp hc with rfl | hc
        · rw [kAt_of ha]; exact ha
        · exact e2 c hc
/-- what is sorted: a list or a dict -/
def rowsD (d : D) (h : AH) : Option (List (List Int)) := match dctD d h with
  | some kvs => if kvs.length ≤ sizeLine then keyIs' (kvs.map (·.1)) else none
  | none => (seqD d h).bind intsTs
def sortedTD (ds : List D) (h : AH) : R (List D) := match ds with
  | [d] => (match rowsD d h with
    | some ks => if (ks.all fun k => !k.isEmpty) = true then .ok ((sortT ks).map tupI) h else .bad
    | none => .bad)
  | _ => .bad
theorem cb_sortedT : CbF K E (rSortTO K) sortedTD := fun ρ P H h vs ds s w Q p => by
  unfold sortedTD at p
  split at p
  · rename_i d
    obtain ⟨v, rfl, r⟩ := w.one
    split at p
    · rename_i ks ek
      split at p
      · rename_i hk
        have hne : ∀ x ∈ ks, x ≠ [] := fun x hx e => by
          have := List.all_eq_true.mp hk x hx
          rw [e] at this
          cases this
        have fin : ∀ (cs : List Addr) (q : Addr), (cs.map (kAt H)).Perm ks → UpT (cs.map (kAt H)) → (∀ b ∈ cs, H b = some (.tup ((kAt H b).map V.int))) → H q = none → Q (.ref q) (upd H q (.lst (cs.map V.ref))) := fun cs q pm up hb hq => by
          have e := sortT_only pm up
          obtain ⟨P2, t2, s2, e2⟩ := s.adoptL (cs.map fun c => (c, (kAt H c).map V.int)) (fun x hx => by
            obtain ⟨c, hc, rfl⟩ := List.mem_map.mp hx
            exact hb c hc)
          have rl : ∀ ds : List Addr, (∀ c ∈ ds, c ∈ cs) → RepL K ρ P2 ((ds.map (kAt H)).map tupI) (ds.map V.ref) := by
            intro ds
            induction ds with
            | nil => intro _; exact .nil
            | cons c ds ih => intro hd; exact .cons (.tup (e2 _ (List.mem_map.mpr ⟨c, hd c List.mem_cons_self, rfl⟩)) (RepL.ints _)) (ih fun x hx => hd x (List.mem_cons_of_mem _ hx))
          have w2 := rl cs fun _ h => h
          rw [e] at w2
          exact PostF.newL (PostF.mono p t2) s2 w2 q hq
        unfold rowsD at ek
        split at ek
        · rename_i kvs ed
          split at ek
          · rename_i hl
            obtain ⟨a, kws, rfl, hd, ee, _⟩ := dctD_ok s r ed
            have hll : kws.length = kvs.length := by have := congrArg List.length ee; simpa using this
            exact ⟨a, ks, kAt H, rfl, .inr ⟨kws, hd, by omega, fun cs ik => keyIs_at ik (by rw [ee]; exact ek)⟩, hne, fin⟩
          · cases ek
        · cases q : seqD d h with
          | none => rw [q] at ek; cases ek
          | some es =>
            rw [q] at ek
            obtain ⟨a, us, rfl, sq, rr⟩ := seqD_sq s r q
            have e2 := intsTs_ok (show intsTs es = some ks from ek)
            subst e2
            obtain ⟨bs, e1, e2, e3⟩ := tups_at s rr
            subst e1
            exact ⟨a, ks, kAt H, rfl, .inl ⟨bs, sq, e2, e3⟩, hne, fin⟩
      · exact p.elim
    · exact p.elim
  · exact p.elim
end
end Ab

/-! Rules for the printer: comprehensions of dicts and sets, {t: v}, x[::-1], len(d). -/
namespace Ab
open PySem PySem.Spec L2 PyProof.Rows
section
variable {K : PySem.W.Frag} {E : XK} {ρ ρ' ρ1 : Ro} {P H P' H' P1 H1 : Hp} {X : Cx}
/-! len(d) -/
theorem call_len_rd : CallR X (.builtin "len") (fun xs H Q => ∃ (p : Addr) (kvs : List (List Key × V)), xs = [.ref p] ∧ Rd H p (.dT kvs) ∧ Q (.int ((kvs.length : Nat) : Int)) H) := by
  intro pins s σ H xs us Q I r h
  obtain ⟨p, kvs, rfl, hp, q⟩ := h
  obtain ⟨u, rfl, rx⟩ := vals1 r
  obtain rfl : u = .ref p := rx
  obtain ⟨z, hd, ys, rel, dd⟩ := dt_rd I.hok hp
  have hl : kvs.length = ys.length := Paired.length rel
  refine call_len_dictH hd dd (by rw [← hl]; rw [sizeLine_eq] at z; omega) ?_
  rw [← hl]
  exact ⟨.int ((kvs.length : Nat) : Int), H, I.tok _, ⟨_, rfl⟩, q⟩
def lenDD : List D → AH → R D := fun ds h => match ds with
  | [d] => (match dctD d h with
    | some kvs => .ok (.int ((kvs.length : Nat) : Int)) h
    | none => .bad)
  | _ => .bad
theorem cb_lenD : CbS K E (fun xs H Q => ∃ (p : Addr) (kvs : List (List Key × V)), xs = [.ref p] ∧ Rd H p (.dT kvs) ∧ Q (.int ((kvs.length : Nat) : Int)) H) lenDD := fun ρ P H h vs ds s w Q p => by
  unfold lenDD at p
  split at p
  · obtain ⟨v, rfl, r⟩ := w.one
    split at p
    · rename_i kvs e
      obtain ⟨a, kws, rfl, hd, ek, _⟩ := dctD_ok s r e
      have hl : kws.length = kvs.length := by have := congrArg List.length ek; simpa using this
      exact ⟨a, kws, rfl, hd, by rw [hl]; exact Post.here p s (.int _)⟩
    · exact p.elim
  · exact p.elim
end
section
variable {K : PySem.W.Frag} {E : XK} {X : Cx} {kx vx tg iter tg1 iter1 ex : Expr} {ifs ifs1 : List Expr} {scope : Scope} {own : List (PySem.Str × Nat)} {vs1 : List Nat} {pos pn : Pos} {wi wi1 : TI} {g g1 : TG} {tt tt1 : TT} {tk tv te : TE} {mi mi1 : MI} {mg mg1 : MG} {mt mt1 : M Bool} {mk mv me : M D} {k : Nat}
/-- a dict's comprehension, one clause -/
structure JX {γ : Type} (K : PySem.W.Frag) (E : XK) (X : Cx) (A : Acc K γ) (e : Expr) (t : TE) (m : M γ) : Prop where
  k : X.K = K
  p : PE X e t
  s : SdX A E t m
theorem jx_dc1 (hr : Room k X.A) (hN : X.N.Nodup) (hi : JI K E X tg iter wi mi) (ok : BlkOk X.N X.env.scope scope own) (hv : GW (own.map (·.2)) g)
    (hg : ∀ (s : Shared) (H : Hp) (C : Addr) (cl : List (PySem.Str × Addr)) (fp : List Addr), JG K E (X.blk s H scope (compEnvC scope cl C X.env) fp) tg g mg) (ht : ∀ (s : Shared) (H : Hp) (C : Addr) (cl : List (PySem.Str × Addr)) (fp : List Addr), JTs K E (X.blk s H scope (compEnvC scope cl C X.env) fp) ifs tt mt)
    (hk : ∀ (s : Shared) (H : Hp) (C : Addr) (cl : List (PySem.Str × Addr)) (fp : List Addr), JE K E (X.blk s H scope (compEnvC scope cl C X.env) fp) kx tk mk)
    (hvv : ∀ (s : Shared) (H : Hp) (C : Addr) (cl : List (PySem.Str × Addr)) (fp : List Addr), JE K E (X.blk s H scope (compEnvC scope cl C X.env) fp) vx tv mv) (hc : X.calm = true := by rfl) (hs : ∀ x, foldedSetIterable iter X.env x = pure x := by intro _; rfl) :
    JX K E X (accD K) (.DictComp kx vx [⟨tg, iter, ifs, 0⟩] scope pos) (tCore (fun _ => .dT []) wi g tt (taDT tk tv) (own.map (·.2))) (mCm mi mg mt (acD mk mv) [] (own.map (·.2))) := by
  have hg0 := hg X.s_0 X.H_0 default [] []
  have ht0 := ht X.s_0 X.H_0 default [] []
  have hk0 := hk X.s_0 X.H_0 default [] []
  have hv0 := hvv X.s_0 X.H_0 default [] []
  exact ⟨hi.k, pe_dcT (by have := hr.un; omega) hc hN hi.p ok (fun s H C cl fp => (hg s H C cl fp).p) (fun s H C cl fp => (ht s H C cl fp).p) (fun s H C cl fp => (hk s H C cl fp).p) (fun s H C cl fp => (hvv s H C cl fp).p) hs,
    sx_cm (A := accD K) (fun ρ P D => ⟨[], rfl, rfl, .nil⟩) hi.s hg0.s hv ht0.s (acD_ok hk0.s hv0.s)⟩
theorem jx_dc2 (hr : Room k X.A) (hN : X.N.Nodup) (hi : JI K E X tg iter wi mi) (ok : BlkOk X.N X.env.scope scope own) (hv : GW (own.map (·.2)) g) (hv1 : GW vs1 g1) (hvs : ∀ i ∈ vs1, i ∈ own.map (·.2))
    (hg : ∀ (s : Shared) (H : Hp) (C : Addr) (cl : List (PySem.Str × Addr)) (fp : List Addr), JG K E (X.blk s H scope (compEnvC scope cl C X.env) fp) tg g mg) (ht : ∀ (s : Shared) (H : Hp) (C : Addr) (cl : List (PySem.Str × Addr)) (fp : List Addr), JTs K E (X.blk s H scope (compEnvC scope cl C X.env) fp) ifs tt mt)
    (hi1 : ∀ (s : Shared) (H : Hp) (C : Addr) (cl : List (PySem.Str × Addr)) (fp : List Addr), JI K E (X.blk s H scope (compEnvC scope cl C X.env) fp) tg1 iter1 wi1 mi1)
    (hg1 : ∀ (s : Shared) (H : Hp) (C : Addr) (cl : List (PySem.Str × Addr)) (fp : List Addr), JG K E (X.blk s H scope (compEnvC scope cl C X.env) fp) tg1 g1 mg1) (ht1 : ∀ (s : Shared) (H : Hp) (C : Addr) (cl : List (PySem.Str × Addr)) (fp : List Addr), JTs K E (X.blk s H scope (compEnvC scope cl C X.env) fp) ifs1 tt1 mt1)
    (hk : ∀ (s : Shared) (H : Hp) (C : Addr) (cl : List (PySem.Str × Addr)) (fp : List Addr), JE K E (X.blk s H scope (compEnvC scope cl C X.env) fp) kx tk mk)
    (hvv : ∀ (s : Shared) (H : Hp) (C : Addr) (cl : List (PySem.Str × Addr)) (fp : List Addr), JE K E (X.blk s H scope (compEnvC scope cl C X.env) fp) vx tv mv) (hc : X.calm = true := by rfl) (hs : ∀ x, foldedSetIterable iter X.env x = pure x := by intro _; rfl) (hs1 : ∀ env x, foldedSetIterable iter1 env x = pure x := by intro _ _; rfl) :
    JX K E X (accD K) (.DictComp kx vx [⟨tg, iter, ifs, 0⟩, ⟨tg1, iter1, ifs1, 0⟩] scope pos) (tCore (fun _ => .dT []) wi g tt (taIn wi1 g1 tt1 (taDT tk tv) vs1) (own.map (·.2))) (mCm mi mg mt (ac2 mi1 mg1 mt1 (acD mk mv) vs1) [] (own.map (·.2))) := by
  have hg0 := hg X.s_0 X.H_0 default [] []
  have ht0 := ht X.s_0 X.H_0 default [] []
  have hi0 := hi1 X.s_0 X.H_0 default [] []
  have hg10 := hg1 X.s_0 X.H_0 default [] []
  have ht10 := ht1 X.s_0 X.H_0 default [] []
  have hk0 := hk X.s_0 X.H_0 default [] []
  have hv0 := hvv X.s_0 X.H_0 default [] []
  exact ⟨hi.k, pe_dcT2 (by have := hr.un; omega) hc hN hi.p ok hvs (fun s H C cl fp => (hg s H C cl fp).p) (fun s H C cl fp => (ht s H C cl fp).p) (fun s H C cl fp => (hi1 s H C cl fp).p) (fun s H C cl fp => (hg1 s H C cl fp).p) (fun s H C cl fp => (ht1 s H C cl fp).p) (fun s H C cl fp => (hk s H C cl fp).p) (fun s H C cl fp => (hvv s H C cl fp).p) hs hs1,
    sx_cm (A := accD K) (fun ρ P D => ⟨[], rfl, rfl, .nil⟩) hi.s hg0.s hv ht0.s (ac2_ok hi0.s hg10.s hv1 ht10.s (acD_ok hk0.s hv0.s))⟩
theorem JX.dF {m : M (List (List Key × D))} (h : JX K E X (accD K) ex te m) : JE K E X ex te (mDicF m) := ⟨h.k, h.p, sd_dicF h.s⟩
/-- a set's comprehension -/
theorem jx_sc1 (hr : Room k X.A) (hN : X.N.Nodup) (hi : JI K E X tg iter wi mi) (ok : BlkOk X.N X.env.scope scope own) (hv : GW (own.map (·.2)) g)
    (hg : ∀ (s : Shared) (H : Hp) (C : Addr) (cl : List (PySem.Str × Addr)) (fp : List Addr), JG K E (X.blk s H scope (compEnvC scope cl C X.env) fp) tg g mg) (ht : ∀ (s : Shared) (H : Hp) (C : Addr) (cl : List (PySem.Str × Addr)) (fp : List Addr), JTs K E (X.blk s H scope (compEnvC scope cl C X.env) fp) ifs tt mt)
    (he : ∀ (s : Shared) (H : Hp) (C : Addr) (cl : List (PySem.Str × Addr)) (fp : List Addr), JE K E (X.blk s H scope (compEnvC scope cl C X.env) fp) ex te me) (hc : X.calm = true := by rfl) (hs : ∀ x, foldedSetIterable iter X.env x = pure x := by intro _; rfl) :
    JX K E X (accS K X.prog X.w) (.SetComp ex [⟨tg, iter, ifs, 0⟩] scope pos) (tCore (fun D => SetTO X.prog X.w D []) wi g tt (taST K X.prog X.w te) (own.map (·.2))) (mCm mi mg mt (acS me) [] (own.map (·.2))) := by
  obtain ⟨hK, hp, hq⟩ := hi
  subst hK
  have hg0 := hg X.s_0 X.H_0 default [] []
  have ht0 := ht X.s_0 X.H_0 default [] []
  have he0 := he X.s_0 X.H_0 default [] []
  exact ⟨rfl, pe_scT (by have := hr.un; show X.A.units + 1 < _; omega) hc hN hp ok (fun s H C cl fp => (hg s H C cl fp).p) (fun s H C cl fp => (ht s H C cl fp).p) (fun s H C cl fp => (he s H C cl fp).p) hs,
    sx_cm (A := accS X.K X.prog X.w) (fun ρ P D => ⟨[], rfl, .refl _, fun _ z => nomatch z⟩) hq hg0.s hv ht0.s (acS_ok he0.s)⟩
theorem jx_sc2 (hr : Room k X.A) (hN : X.N.Nodup) (hi : JI K E X tg iter wi mi) (ok : BlkOk X.N X.env.scope scope own) (hv : GW (own.map (·.2)) g) (hv1 : GW vs1 g1) (hvs : ∀ i ∈ vs1, i ∈ own.map (·.2))
    (hg : ∀ (s : Shared) (H : Hp) (C : Addr) (cl : List (PySem.Str × Addr)) (fp : List Addr), JG K E (X.blk s H scope (compEnvC scope cl C X.env) fp) tg g mg) (ht : ∀ (s : Shared) (H : Hp) (C : Addr) (cl : List (PySem.Str × Addr)) (fp : List Addr), JTs K E (X.blk s H scope (compEnvC scope cl C X.env) fp) ifs tt mt)
    (hi1 : ∀ (s : Shared) (H : Hp) (C : Addr) (cl : List (PySem.Str × Addr)) (fp : List Addr), JI K E (X.blk s H scope (compEnvC scope cl C X.env) fp) tg1 iter1 wi1 mi1)
    (hg1 : ∀ (s : Shared) (H : Hp) (C : Addr) (cl : List (PySem.Str × Addr)) (fp : List Addr), JG K E (X.blk s H scope (compEnvC scope cl C X.env) fp) tg1 g1 mg1) (ht1 : ∀ (s : Shared) (H : Hp) (C : Addr) (cl : List (PySem.Str × Addr)) (fp : List Addr), JTs K E (X.blk s H scope (compEnvC scope cl C X.env) fp) ifs1 tt1 mt1)
    (he : ∀ (s : Shared) (H : Hp) (C : Addr) (cl : List (PySem.Str × Addr)) (fp : List Addr), JE K E (X.blk s H scope (compEnvC scope cl C X.env) fp) ex te me) (hc : X.calm = true := by rfl) (hs : ∀ x, foldedSetIterable iter X.env x = pure x := by intro _; rfl) (hs1 : ∀ env x, foldedSetIterable iter1 env x = pure x := by intro _ _; rfl) :
    JX K E X (accS K X.prog X.w) (.SetComp ex [⟨tg, iter, ifs, 0⟩, ⟨tg1, iter1, ifs1, 0⟩] scope pos) (tCore (fun D => SetTO X.prog X.w D []) wi g tt (taIn wi1 g1 tt1 (taST K X.prog X.w te) vs1) (own.map (·.2))) (mCm mi mg mt (ac2 mi1 mg1 mt1 (acS me) vs1) [] (own.map (·.2))) := by
  obtain ⟨hK, hp, hq⟩ := hi
  subst hK
  have hg0 := hg X.s_0 X.H_0 default [] []
  have ht0 := ht X.s_0 X.H_0 default [] []
  have hi0 := hi1 X.s_0 X.H_0 default [] []
  have hg10 := hg1 X.s_0 X.H_0 default [] []
  have ht10 := ht1 X.s_0 X.H_0 default [] []
  have he0 := he X.s_0 X.H_0 default [] []
  exact ⟨rfl, pe_scT2 (by have := hr.un; show X.A.units + 1 < _; omega) hc hN hp ok hvs (fun s H C cl fp => (hg s H C cl fp).p) (fun s H C cl fp => (ht s H C cl fp).p) (fun s H C cl fp => (hi1 s H C cl fp).p) (fun s H C cl fp => (hg1 s H C cl fp).p) (fun s H C cl fp => (ht1 s H C cl fp).p) (fun s H C cl fp => (he s H C cl fp).p) hs hs1,
    sx_cm (A := accS X.K X.prog X.w) (fun ρ P D => ⟨[], rfl, .refl _, fun _ z => nomatch z⟩) hq hg0.s hv ht0.s (ac2_ok hi0.s hg10.s hv1 ht10.s (acS_ok he0.s))⟩
/-- sorted({..}) -/
theorem jf_sortS {x : PySem.Str} {m : M (List (List Int))} (h : JX K E X (accS K X.prog X.w) ex te m) (hm : X.mg x = none) (hv : bootBuiltins x = some (.builtin "sorted") := by decide +kernel) (hg : Gl X x := by rfl) (hc : X.calm = true := by rfl)
    (hn : x ≠ "__name__" := by decide) (hd : (x == ("__debug__" : PySem.Str)) = false := by decide) (he : starEach [ex] X.env = (false, eval ex X.env) :: starEach [] X.env := by rfl) (hpl : (backTo pos (starEach [] X.env)).any (·.1) = false := by rfl) :
    JF K E X (.Call (.Name x pn) [ex] [] pos) (tCB (rSortedT K X.prog X.w) (tCons te tNil)) (mSortS m) := by
  obtain ⟨hK, hp, hq⟩ := h
  subst hK
  exact ⟨rfl, pe_callB (cr_sortedT hc) hg hm hv (pa_cons hp pa_nil he) hn hd he hpl, sf_sortS hq⟩
end
end Ab

/-! {t: v}; x[::-1]. -/
namespace Ab
open PySem PySem.Spec L2 PyProof.Rows HT
section
variable {K : PySem.W.Frag} {E : XK} {ρ ρ' ρ1 : Ro} {P H P' H' P1 H1 : Hp} {X : Cx} {kx vx e : Expr} {pos : Pos} {tk tv te : TE} {mk mv me : M D} {k : Nat}
def tDisp1 (tk tv : TE) : TE := fun σ H Q => ∀ p, H p = none → tk σ (upd H p (.dT [])) fun y H1 => tv σ H1 fun z H2 => ∃ b ks, y = .ref b ∧ H2 b = some (.tup (ks.map kV)) ∧ H2 p = some (.dT []) ∧ Q (.ref p) (upd H2 p (.dT [(ks, z)]))
theorem pe_disp1 (hu : X.A.units < cLine) (hk : PE X kx tk) (hv : PE X vx tv) : PE X (.Dict [some kx] [vx] pos) (tDisp1 tk tv) := by
  refine ⟨fun pins s σ H Q I h => ?_⟩
  have hn := I.hok.fresh (Nat.le_refl s.heap.objs.size)
  have I1 := I.laid (a := s.heap.objs.size) (o := .dT []) (h' := s.heap.push { cls := .type "dict", data := .dict #[] }) (t' := s.toks) (fun _ _ q => Heap.get?_push_of_some _ q) (Nat.le_refl _) (dt_empty s.heap I.big)
  have hl := pairTrees_length [some kx] [vx] X.env pos rfl rfl
  have hl : (pairTrees [some kx] [vx] X.env pos).length = 1 := hl
  rw [arm_eval_Dict, zip_pairTrees [some kx] [vx] X.env pos rfl rfl, dictDisplay_pairs _ (fun z => by rw [z] at hl; cases hl) (by rw [hl]; decide)]
  refine wpAny_bind (wpAny_standAt (wpAny_bind ?_))
  unfold subDict
  refine wpAny_bind (wpAny_alloc (wpAny_bind (wpAny_holding ?_)))
  rw [if_pos (by rw [hl]; decide)]
  refine wpAny_bind (pairTrees_cons_walk (thn (hk.run pins _ σ _ _ I1 (h _ hn)) fun kv s1 ⟨y, H1, I2, ry, q1⟩ => thn (hv.run pins s1 σ H1 _ I2 q1) fun vv s2 ⟨z, H2, I3, rz, b, ks, ey, hb, hD, q2⟩ => evalPairs_nil ?_))
  subst ey
  refine wpAny_holding ?_
  rw [List.forIn_cons]
  refine wpAny_bind (wpAny_bind (wpAny_bind (dc_putT hu I3 hD hb (by show 0 < sizeLine; decide) ry rz fun s3 I4 => wpAny_pure ?_)))
  show wpAny _ _ (forIn ([] : List (Value × Value)) PUnit.unit _) _ _ _
  rw [List.forIn_nil]
  exact wpAny_pure (wpAny_pure (wpAny_pure (wpAny_pure ⟨.ref s.heap.objs.size, _, I4, rfl, q2⟩)))
/-! t[::-1] -/
theorem sliceApplied_rev {prog : Program} {w : World} {A : Around} {E : Value → Shared → Prop} {s : Shared} {sl : Addr} {t : Tok} {n : Nat} {Q : Int × Int × Nat → Shared → Prop} (hs : s.heap.IsSliceOf sl .none .none (.int (-1) t)) (h : Q ((n : Int) - 1, -1, n) s) : wpAny (model prog w) A (Builtin.Slice.sliceApplied (.ref sl) (pure (n : Int))) Q E s := by
  obtain ⟨os, hos, hcs, hds⟩ := id hs
  unfold Builtin.Slice.sliceApplied Builtin.Slice.sliceFields
  refine wpAny_bind (wpAny_bind (wpAny_field hos hds (x := .none) rfl (wpAny_bind (wpAny_field hos hds (x := .none) rfl (wpAny_bind (wpAny_field hos hds (x := .int (-1) t) rfl (wpAny_pure ?_)))))))
  refine wpAny_bind (slicePart_int ?_)
  show wpAny _ _ (if ((-1 : Int) == 0) = true then _ else _) _ _ s
  rw [if_neg (by decide)]
  refine wpAny_bind (slicePart_none (wpAny_bind (slicePart_none (wpAny_bind (wpAny_pure ?_)))))
  have e : Builtin.Slice.slicePlaces ((n : Int) - 1) (-1) (-1) = n := by
    unfold Builtin.Slice.slicePlaces
    rw [if_neg (by decide)]
    by_cases z : n = 0
    · subst z; rfl
    · rw [if_pos (by omega)]
      show ((((n : Int) - 1) - (-1) - 1) / (- -1) + 1).toNat = n
      have : (((n : Int) - 1) - (-1) - 1) / (- -1) = (n : Int) - 1 := by
        have e1 : (- -1 : Int) = 1 := by decide
        rw [e1, Int.ediv_one]; omega
      rw [this]; omega
  have e2 : Builtin.Slice.sliceAdjust none none (-1) (n : Int) = ((n : Int) - 1, -1) := rfl
  show wpAny _ _ (match Builtin.Slice.sliceAdjust none none (-1) (n : Int) with | (lo, hi) => pure (lo, (-1 : Int), Builtin.Slice.slicePlaces lo hi (-1))) _ _ s
  rw [e2]
  show wpAny _ _ (pure (((n : Int) - 1), (-1 : Int), Builtin.Slice.slicePlaces ((n : Int) - 1) (-1) (-1))) _ _ s
  rw [e]
  exact wpAny_pure h
theorem pick_rev (xs : Array Value) : ((List.range xs.size).filterMap fun (m : Nat) => xs[(((xs.size : Int) - 1) + (m : Int) * (-1)).toNat]?).toArray = xs.toList.reverse.toArray := by
  congr 1
  have e : ((List.range xs.size).filterMap fun (m : Nat) => xs[(((xs.size : Int) - 1) + (m : Int) * (-1)).toNat]?) = (List.range xs.size).filterMap fun m => xs.toList.reverse[m]? := by
    have cg : ∀ (l : List Nat) (f g : Nat → Option Value), (∀ m ∈ l, f m = g m) → l.filterMap f = l.filterMap g := by
      intro l f g
      induction l with
      | nil => intro _; rfl
      | cons a l ih => intro h; rw [List.filterMap_cons, List.filterMap_cons, h a List.mem_cons_self, ih fun m hm => h m (List.mem_cons_of_mem _ hm)]
    refine cg _ _ _ fun m hm => ?_
    have hm := List.mem_range.mp hm
    have : (((xs.size : Int) - 1) + (m : Int) * (-1)).toNat = xs.size - 1 - m := by omega
    rw [this, List.getElem?_reverse (by rw [Array.length_toList]; exact hm), Array.length_toList, Array.getElem?_toList]
  rw [e]
  have f : ∀ l : List Value, (List.range l.length).filterMap (fun m => l[m]?) = l := by
    intro l
    induction l with
    | nil => rfl
    | cons a l ih =>
      rw [List.length_cons, List.range_succ_eq_map, List.filterMap_cons]
      simp only [List.getElem?_cons_zero, List.filterMap_map]
      have : ((fun m => (a :: l)[m]?) ∘ Nat.succ) = fun m => l[m]? := by funext m; simp
      rw [this, ih]
  have := f xs.toList.reverse
  rw [List.length_reverse, Array.length_toList] at this
  exact this
theorem getItem_tuple_rev {prog : Program} {w : World} {A : Around} {E : Value → Shared → Prop} {s : Shared} {t sl : Addr} {items : Array Value} {tk : Tok} {Q : Value → Shared → Prop} (ht : IsTup s.heap t items) (hs : s.heap.IsSliceOf sl .none .none (.int (-1) tk))
    (h : Q (.ref s.heap.objs.size) { s with heap := s.heap.push { cls := .type "tuple", data := .seq items.toList.reverse.toArray } }) (hsz : items.size ≤ sizeLine) : wpAny (model prog w) A (getItem (.ref t) (.ref sl)) Q E s := by
  have htake : sizeOk (.seq items.toList.reverse.toArray) := by
    show items.toList.reverse.toArray.size ≤ sizeLine
    rw [List.size_toArray, List.length_reverse, Array.length_toList]
    exact hsz
  obtain ⟨os, hos, hcs, hds⟩ := id hs
  have hTs : s.TypeIs (.ref sl) "slice" := ⟨os, hos, hcs⟩
  unfold getItem
  try with_reducible refine wpAny_holding ?_
  first | refine wpAny_bind (wpAny_pure ?_) | skip
  refine wpAny_bind (wpAny_sequenceKey ht.typeIs (by decide) ?_)
  refine wpAny_bind (wpAny_callSpecial?_slot (name := Str.ofString "__getitem__") ht.typeIs PyProof.Rows.slot_tuple_getitem
    (wpAny_call_entry PyProof.Rows.slot_tuple_getitem ht.typeIs entry_tuple_getitem ?_ (args_tuple_getitem _ _)))
  show wpAny _ _ (Builtin.Tuple.tupleItemsOf (.ref t) >>= _) _ _ s
  refine wpAny_bind (tupleItemsOf_ ht ?_)
  refine wpAny_bind (wpAny_typeOf hTs ?_)
  rw [if_pos (by decide)]
  refine wpAny_bind (sliceApplied_rev hs ?_)
  have hno : ¬ ((((items.size : Int) - 1) == 0 && (-1 : Int) == 1 && items.size == items.size) = true) := by
    intro q
    rw [Bool.and_eq_true, Bool.and_eq_true] at q
    exact absurd (eq_of_beq q.1.2) (by decide)
  show wpAny _ _ (if ((((items.size : Int) - 1) == 0 && (-1 : Int) == 1 && items.size == items.size) = true) then _ else _) _ _ s
  rw [if_neg hno, pick_rev]
  first
    | exact wpAny_bind (m := Builtin.Tuple.tupleExact _) (wpAny_newObj_type (wpAny_pure ⟨_, rfl, wpAny_pure h⟩) htake)
    | exact wpAny_bind (m := Builtin.Tuple.tupleExact _) (wpAny_newObj_type (wpAny_bind (wpAny_pure (wpAny_pure ⟨_, rfl, wpAny_pure h⟩))) htake)
    | exact wpAny_bind (wpAny_bind (m := Builtin.Tuple.tupleExact _) (wpAny_newObj_type (wpAny_pure (wpAny_pure ⟨_, rfl, wpAny_pure h⟩)) htake))
    | exact wpAny_bind (wpAny_bind (m := Builtin.Tuple.tupleExact _) (wpAny_newObj_type (wpAny_pure ⟨_, rfl, wpAny_pure h⟩) htake))
def tRevT (K : PySem.W.Frag) (te : TE) : TE := fun σ H Q => te σ H fun x H1 => ∃ a xs, x = .ref a ∧ SqT K H1 a xs ∧ ∀ p, H1 p = none → Q (.ref p) (upd H1 p (.tup xs.reverse))
theorem pe_revT {j : Nat} {p1 p2 p3 : Pos} (he : PE X e te) : PE X (.Subscript e (.Slice none none (some (.UnaryOp .USub (.Constant (.int 1) j p1) p2)) p3) pos) (tRevT X.K te) := by
  refine ⟨fun pins s σ H Q I h => ?_⟩
  refine Subscript_ (thn (he.run pins s σ H _ I h) fun v s1 ⟨x, H1, I1, r1, q1⟩ => ?_)
  obtain ⟨a, xs, ex, hx, q⟩ := q1
  subst ex
  cases r1
  have hst : PO X (some (.UnaryOp .USub (.Constant (.int 1) j p1) p2)) (tPart (tUn (rU fun i => .int (-i)) (tC (.int 1)))) := po_some (pe_un un_neg pe_int)
  refine wpAny_Slice (thn (po_none.run pins s1 σ H1 (fun o H2 => o = none ∧ H2 = H1) I1 ⟨rfl, rfl⟩) fun vl s2 ⟨l, H2, I2, pl, el, e2⟩ => ?_)
  subst el e2
  refine thn (po_none.run pins s2 σ H2 (fun o H3 => o = none ∧ H3 = H2) I2 ⟨rfl, rfl⟩) fun vu s3 ⟨u, H3, I3, pu, eu, e3⟩ => ?_
  subst eu e3
  refine thn (hst.run pins s3 σ H3 (fun o H4 => o = some (-1) ∧ H4 = H3) I3 ⟨1, rfl, -1, rfl, rfl, rfl⟩) fun vs s4 ⟨o, H4, I4, ps, eo, e4⟩ => ?_
  subst eo e4
  have I5 : Inv X pins σ H4 { s4 with heap := s4.heap.push { cls := .type "slice", data := .fields #[vl, vu, vs] } } := I4.kept (t' := s4.toks) fun b ob q => Heap.get?_push_of_some _ q
  obtain ⟨its, r, ht, hz⟩ := I5.tuple hx
  have hlen := r.length
  cases pl
  cases pu
  cases ps with
  | int i t =>
    show wpAny (model X.prog X.w) X.A (subscriptTail e (.Slice none none (some (.UnaryOp .USub (.Constant (.int 1) j p1) p2)) p3) (.ref a) (.ref s4.heap.objs.size)) (EP X pins σ Q) X.xe { s4 with heap := s4.heap.push { cls := .type "slice", data := .fields #[.none, .none, .int (-1) t] } }
    refine tail_any (ops := [.ref a, .ref s4.heap.objs.size]) ht.typeIs PyProof.Rows.slot_tuple_getitem.lookup ?_ (by with_unfolding_all rfl)
    refine getItem_tuple_rev ht (Heap.IsSliceOf.new _ _ _ _) ?_ (by rw [List.size_toArray]; omega)
    refine ⟨.ref _, _, I5.laid (t' := s4.toks) (o := .tup xs.reverse) (fun b ob q => Heap.get?_push_of_some _ q) (Nat.le_refl _) ?_, rfl, q _ (I5.hok.fresh (Nat.le_refl _))⟩
    exact ⟨by rw [List.length_reverse]; exact hz, _, by simpa using r.reverse, IsTup.new _ _⟩
/-! the layer -/
def mDisp1 (mk mv : M D) : M D := fun env h => (mk env h).bind fun y h1 => (mv env h1).bind fun z h2 => match keyT y with
  | some ks => .ok (.loc h2.length) (h2 ++ [.dct [(ks, z)]])
  | none => .bad
theorem Post.bindB {α β γ δ : Type} {L : Rl α β} {L' : Rl γ δ} {ρ0 : Ro} {P0 H0 : Hp} {Q : δ → Hp → Prop} {r : R α} {k : α → AH → R γ}
    (p : Post K L' E ρ0 P0 H0 Q (r.bind k)) (t0 : Step ρ0 P0 H0 ρ P H) {Q' : β → Hp → Prop} (h : ∀ a h' ρ' P' H' v, Step ρ P H ρ' P' H' → SR K ρ' P' H' h' → L ρ' P' a v → Post K L' E ρ0 P0 H0 Q (k a h') → Q' v H') : Post K L E ρ P H Q' r := by
  cases r with
  | ok a h' => exact fun ρ' P' H' v t q1 q2 => h a h' ρ' P' H' v t q1 q2 p
  | exc x fs h => exact fun ρ' P' H' dd t q1 q2 => p ρ' P' H' dd (t0.trans t) q1 q2
  | bad => exact p
theorem sd_disp1 (hk : Sd K (RV K) E tk mk) (hv : Sd K (RV K) E tv mv) : Sd K (RV K) E (tDisp1 tk tv) (mDisp1 mk mv) := fun ρ P σ H env h s re Q p => by
  intro d hd
  obtain ⟨sD, tD⟩ := s.own hd (.dT [])
  refine hk ρ P σ _ env h sD (re.step tD) _ (Post.bindB p tD fun y h1 ρ1 P1 H1 v t1 s1 w1 p1 => hv _ _ _ _ _ _ s1 ((re.step tD).step t1) _ (Post.bindB p1 (tD.trans t1) fun z h2 ρ2 P2 H2 u t2 s2 w2 p2 => ?_))
  cases ek : keyT y with
  | none => simp only [ek] at p2; exact p2.elim
  | some ks =>
    simp only [ek] at p2
    obtain ⟨b, ev, hb⟩ := keyT_ok s2 (w1.step t2) ek
    subst ev
    have t12 := t1.trans t2
    have ed : (upd H d (.dT [])) d = some (.dT []) := upd_same
    have nr0 : NoR ρ d := s.noR hd
    have np0 : P d = none := s.noP hd
    have np : P2 d = none := t12.noP np0 (.inr ⟨_, ed, rfl⟩)
    have nr : NoR ρ2 d := t12.noR (by rw [ed]; simp) nr0
    have eD : H2 d = some (.dT []) := t12.keep _ _ ed nr0 (.inl np0)
    refine ⟨b, ks, rfl, hb, eD, ?_⟩
    have tt : Step ρ P H ρ2 P2 H2 := tD.trans t12
    have st := tt.loose (o := .dT [(ks, u)]) hd
    have sr := s2.loose (o := .dT [(ks, u)]) np nr
    have sn := sr.number (o := .dct [(ks, z)]) np nr ⟨_, upd_same, rfl, .cons w2 .nil⟩
    refine p2 (fun n => if n = h2.length then some d else ρ2 n) P2 _ _ ⟨fun n c eb => ?_, st.pure, fun n c e0 eb => ?_, st.newp, st.keep, st.there⟩ sn (.loc (by simp))
    · have eb := st.mono n c eb
      have z : n ≠ h2.length := fun z => by rw [z, s2.dom _ (Nat.le_refl _)] at eb; cases eb
      show (if n = h2.length then some d else ρ2 n) = some c
      rw [if_neg z]; exact eb
    · have eb : (if n = h2.length then some d else ρ2 n) = some c := eb
      split at eb
      · cases eb; exact hd
      · exact st.newr n c e0 eb
theorem je_disp1 (hr : Room k X.A) (hk : JE K E X kx tk mk) (hv : JE K E X vx tv mv) : JE K E X (.Dict [some kx] [vx] pos) (tDisp1 tk tv) (mDisp1 mk mv) := ⟨hk.k, pe_disp1 (by have := hr.un; omega) hk.p hv.p, sd_disp1 hk.s hv.s⟩
def mRevT (m : M D) : M D := fun env h => (m env h).bind fun d h1 => match d with
  | .tup ds => .ok (.tup ds.reverse) h1
  | _ => .bad
theorem sd_revT (he : Sd K (RV K) E te me) : Sd K (RV K) E (tRevT K te) (mRevT me) := fun ρ P σ H env h s re Q p =>
  he ρ P σ H env h s re _ (Post.bind p fun d h1 ρ1 P1 H1 v t1 s1 w1 p1 => by
    cases w1 with
    | tup q r => exact ⟨_, _, rfl, sqT_tk s1.sub q, Post.newT p1 s1 r.reverse⟩
    | _ => exact p1.elim)
theorem je_revT {j : Nat} {p1 p2 p3 : Pos} (he : JE K E X e te me) : JE K E X (.Subscript e (.Slice none none (some (.UnaryOp .USub (.Constant (.int 1) j p1) p2)) p3) pos) (tRevT K te) (mRevT me) := by
  obtain ⟨hK, hp, hq⟩ := he
  subst hK
  exact ⟨rfl, pe_revT hp, sd_revT hq⟩
def mRevL (m : M D) : M (List D) := fun env h => (m env h).bind fun d h1 => match seqD d h1 with
  | some ds => .ok ds.reverse h1
  | none => .bad
end
end Ab

/-! Instances: attributes read and stored, made, properties. -/
namespace Ab
open PySem PySem.Spec L2 PyProof.Rows
section
variable {K : PySem.W.Frag} {E : XK} {ρ ρ' ρ1 : Ro} {P H P' H' P1 H1 : Hp}
theorem look_rel2 {f : Str} {d : D} : ∀ {fs : List (Str × D)} {fvs : List (Str × V)}, fvs.map (·.1) = fs.map (·.1) → RepL K ρ P (fs.map (·.2)) (fvs.map (·.2)) → fs.lookup f = some d → ∃ v, fvs.lookup f = some v ∧ Rep K ρ P d v
  | [], _, _, _, e => by cases e
  | _ :: _, [], e, _, _ => by cases e
  | p :: fs, q :: fvs, e, r, l => by
    obtain ⟨n, d'⟩ := p
    obtain ⟨n', v'⟩ := q
    simp only [List.map_cons, List.cons.injEq] at e
    obtain ⟨rfl, e⟩ := e
    cases r with
    | cons a b =>
      rw [List.lookup_cons] at l ⊢
      by_cases z : f == n'
      · simp only [z] at l ⊢
        cases l
        exact ⟨v', rfl, a⟩
      · have z : (f == n') = false := by simpa using z
        simp only [z] at l ⊢
        exact look_rel2 e b l
def putD (f : Str) (d : D) : List (Str × D) → List (Str × D)
  | [] => [(f, d)]
  | (g, x) :: r => if g = f then (g, d) :: r else (g, x) :: putD f d r
theorem putD_rel {f : Str} {d : D} {v : V} (w : Rep K ρ P d v) : ∀ {fs : List (Str × D)} {fvs : List (Str × V)}, fvs.map (·.1) = fs.map (·.1) → RepL K ρ P (fs.map (·.2)) (fvs.map (·.2)) → (putF f v fvs).map (·.1) = (putD f d fs).map (·.1) ∧ RepL K ρ P ((putD f d fs).map (·.2)) ((putF f v fvs).map (·.2))
  | [], [], _, _ => ⟨rfl, .cons w .nil⟩
  | [], _ :: _, e, _ => by cases e
  | _ :: _, [], e, _ => by cases e
  | p :: fs, q :: fvs, e, r => by
    obtain ⟨n, d'⟩ := p
    obtain ⟨n', v'⟩ := q
    simp only [List.map_cons, List.cons.injEq] at e
    obtain ⟨rfl, e⟩ := e
    cases r with
    | cons a b =>
      unfold putF putD
      by_cases z : n' = f
      · rw [if_pos z, if_pos z]
        exact ⟨by simp [e], .cons w b⟩
      · rw [if_neg z, if_neg z]
        obtain ⟨h1, h2⟩ := putD_rel (f := f) w e b
        exact ⟨by simp only [List.map_cons, h1], .cons a h2⟩
/-- a field: of an object, of an instance in the heap -/
def attrD (c f : Str) (d : D) (h : AH) : R D := match d with
  | .obj c' ns ds => if c' = c then (match (ns.zip ds).lookup f with
    | some v => .ok v h
    | none => .bad) else .bad
  | .loc n => (match h[n]? with
    | some (.ins c' fs) => if c' = c then (match fs.lookup f with
      | some v => .ok v h
      | none => .bad) else .bad
    | _ => .bad)
  | _ => .bad
theorem sd_attr {c f : Str} {ta : TE} {ma : M D} (hc : Cls K (He.ga K c)) (hn : NoAttr K (He.ga K c) f) (ha : Sd K (RV K) E ta ma) : Sd K (RV K) E (tFld K ta f) (mUn (attrD c f) ma) := fun ρ P σ H env h s re Q p =>
  ha ρ P σ H env h s re _ (Post.bind p fun d h1 ρ1 P1 H1 v t1 s1 w1 p1 => by
    unfold attrD at p1
    cases w1 with
    | obj q ez l r =>
      dsimp only at p1
      split at p1
      · rename_i ec
        subst ec
        split at p1
        · rename_i v ev
          obtain ⟨u, eu, ru⟩ := look_rel r ev
          exact ⟨_, _, _, _, u, rfl, s1.sub _ _ q rfl, hc, hn, by rw [ez]; exact eu, Post.here p1 s1 ru⟩
        · exact p1.elim
      · exact p1.elim
    | loc e =>
      obtain ⟨o, eo, r⟩ := s1.here e
      simp only [eo] at p1
      cases o with
      | ins c' fs =>
        dsimp only at p1
        split at p1
        · rename_i ec
          subst ec
          split at p1
          · rename_i v ev
            obtain ⟨dx, fvs, e1, e2, rr⟩ := r
            obtain ⟨u, eu, ru⟩ := look_rel2 e2 rr ev
            exact ⟨_, _, dx, fvs, u, rfl, e1, hc, hn, eu, Post.here p1 s1 ru⟩
          · exact p1.elim
        · exact p1.elim
      | _ => exact p1.elim
    | _ => exact p1.elim)
variable {X : Cx} {a : Expr} {ta : TE} {ma : M D} {pos : Pos} {f c : Str}
theorem je_attr (hc : Cls K (He.ga K c)) (hn : NoAttr K (He.ga K c) f) (ha : JE K E X a ta ma) (hb : attributeBase a f X.env (eval a X.env) = eval a X.env := by rfl) : JE K E X (.Attribute a f pos) (tFld K ta f) (mUn (attrD c f) ma) := by
  obtain ⟨hK, hp, hq⟩ := ha
  subst hK
  exact ⟨rfl, pe_fld hp hb, sd_attr hc hn hq⟩
/-- e.f as a target -/
def gFld (K : PySem.W.Frag) (to : TE) (f : Str) : TG := fun v σ H Q => to σ H fun x H1 => ∃ a C dx fs, x = .ref a ∧ H1 a = some (.ins C dx fs) ∧ Cls K C ∧ NoAttr K C f ∧ fs.length < 1000 ∧ Q σ (upd H1 a (.ins C dx (putF f v fs)))
theorem pg_fld (ho : PE X a ta) : PG X (.Attribute a f pos) (gFld X.K ta f) := by
  refine ⟨fun pins s σ H v u Q I r h => ?_⟩
  rw [arm_assign_Attribute]
  refine wpAny_bind (wpAny_holding (thn (ho.run pins s σ H _ I h) fun ov s1 ⟨x, H1, I1, rx, a', C, dx, fs, ex, ea, c', n, l, q⟩ => ?_))
  subst ex
  obtain rfl : ov = Value.ref a' := rx
  exact wpAny_bind (wpAny_standAt (wpAny_bind (wpAny_holding (setattr_ok I1 ea c' n l r fun s2 I2 => wpAny_release ⟨σ, _, I2, q⟩))))
def mgFld (c f : Str) (mo : M D) : MG := fun d env h => (mo env h).bind fun o h1 => match o with
  | .loc n => (match h1[n]? with
    | some (.ins c' fs) => if c' = c ∧ fs.length < 1000 then .ok env (h1.set n (.ins c' (putD f d fs))) else .bad
    | _ => .bad)
  | _ => .bad
theorem sg_fld (hc : Cls K (He.ga K c)) (hn : NoAttr K (He.ga K c) f) (ho : Sd K (RV K) E ta ma) : SdG K E (gFld K ta f) (mgFld c f ma) := fun ρ P σ H env h d v s re w Q p =>
  ho ρ P σ H env h s re _ (Post.bind p fun o h1 ρ1 P1 H1 x t1 s1 w1 p1 => by
    have re1 := re.step t1
    have w := w.step t1
    cases w1 with
    | loc e =>
      obtain ⟨o, eo, r⟩ := s1.here e
      simp only [eo] at p1
      cases o with
      | ins c' fs =>
        dsimp only at p1
        split at p1
        · rename_i hh
          obtain ⟨rfl, hl⟩ := hh
          obtain ⟨dx, fvs, e1, e2, rr⟩ := r
          have hlen : fvs.length = fs.length := by have := congrArg List.length e2; simpa using this
          obtain ⟨r1, r2⟩ := putD_rel (f := f) w e2 rr
          rename_i n a'
          obtain ⟨s3, t3⟩ := s1.put (u := .ins (He.ga K c') dx (putF f v fvs)) (o := .ins c' (putD f d fs)) e ⟨dx, _, upd_same, r1, r2⟩
          exact ⟨a', _, dx, fvs, rfl, e1, hc, hn, by omega, p1 _ _ _ _ t3 s3 (re1.step t3)⟩
        · exact p1.elim
      | _ => exact p1.elim
    | _ => exact p1.elim)
theorem jg_fld (hc : Cls K (He.ga K c)) (hn : NoAttr K (He.ga K c) f) (ha : JE K E X a ta ma) : JG K E X (.Attribute a f pos) (gFld K ta f) (mgFld c f ma) := by
  obtain ⟨hK, hp, hq⟩ := ha
  subst hK
  exact ⟨rfl, pg_fld hp, sg_fld hc hn hq⟩
end
/-! ### a def by its positional promise, no repr under way around -/
def FnQ (P : Program) (w : World) (K : PySem.W.Frag) (mg : Str → Option Value) (base : Heap) (CX : CXT) (k : Nat) (f : Addr) (sp : Sp) : Prop :=
  ∀ (A : Around) (outer : List PySem.Env) (s : Shared) (H : Hp) (us : List Value) (vs : List V) (Q : VK) (E : XK), Room k A → A.guards = some [] → Env0 P w K mg base A outer s H → Vals vs us → sp vs H Q E →
    codeAny (model P w) A (.call (.ref f) ⟨us, []⟩) (CR CX outer P w H s Q E) s
/-- def f(a, .., *v) -/
def spStar (K : PySem.W.Frag) (n : Nat) (F : Fn) : Sp := fun vs H Q E => ∃ ws rest, vs = ws ++ rest ∧ ws.length = n ∧ rest.length ≤ sizeLine ∧ ∀ p, H p = none → spD K (n + 1) F (ws ++ [V.ref p]) (upd H p (.tup rest)) Q E
section
variable {P : Program} {w : World} {K : PySem.W.Frag} {mg : Str → Option Value} {base : Heap} {x qual : Str} {params : Arguments} {body : List Stmt} {scope : Scope} {f : Addr} {fd : FuncData} {N ps : List Str} {pv : Str} {k : Nat} {m : MS}
theorem fn_starQ (F : FunD K x qual params body scope [] [] f fd) (S : FnScope N (ps ++ [pv]) scope)
    (hb : ∀ (q : Str) (kV doc pm : Value) (an : Option Addr) (cdv ct : Value), ∀ us rest : List Value, us.length = ps.length → bindArgs (PySem.W.fnOf x qual params body scope .none kV doc pm an cdv ct) ⟨us ++ rest, []⟩ = (newTuple rest >>= fun t => pure (ps.zip us ++ [(pv, t)])))
    (hbody : ∀ (cdv : Value) (A : Around) (outer : List PySem.Env) (s : Shared) (H : Hp) (E : XK), Room k (A.deeper (PyProof.Rows.envOfC qual scope s.heap.objs.size f cdv)) → A.guards = some [] → JB (cxOf CX0 P w K mg base N qual scope f cdv A outer s H E).nox E0 body m) :
    FnQ P w K mg base CX0 (k + 1) f (spStar K ps.length (mFnT N.length m)) := by
  obtain ⟨oc, od, dV, kV, doc, pm, an, cdv, ct, osl, rfl, lk, hcd, hdv, hkv⟩ := F.ex
  intro A outer s H us vs Q E hr hg e0 r hsp
  obtain ⟨ws, rest, ev, hl, hz, hq⟩ := hsp
  subst ev
  obtain ⟨u1, u2, eu, r1, r2⟩ := StX.vals_split r
  subst eu
  have hn : H s.heap.objs.size = Option.none := e0.hok.fresh (Nat.le_refl _)
  have hl1 : u1.length = ps.length := by rw [← r1.length]; exact hl
  have hl2 : u2.length ≤ sizeLine := by rw [← r2.length]; exact hz
  have edV : dV = .none := by
    rcases hdv with ⟨_, e⟩ | ⟨e, _⟩
    · exact e
    · exact absurd rfl e
  subst edV
  refine StX.run_bnd lk hcd S hr e0 (G := fun xs H2 => ∃ p, H p = Option.none ∧ xs = ws ++ [V.ref p] ∧ H2 = upd H p (.tup rest)) (fun A' Ex Q' h => ?_) fun s2 H2 xs ⟨p, hp, ex, eH⟩ hr' => ?_
  · rw [hb qual kV doc pm an cdv ct u1 u2 hl1]
    refine wpAny_bind (wpAny_newTuple (wpAny_pure ?_) hl2)
    have new : ObjOk P w (upd H s.heap.objs.size (.tup rest)) (s.heap.push ({ cls := .type "tuple", data := .seq u2.toArray } : Obj)) s.heap.objs.size (.tup rest) := ⟨hz, u2, r2, ⟨_, Heap.get?_push_size _ rfl, rfl, _, rfl⟩⟩
    have un := StX.un_laid (fs := frs outer) (s := s) (o := ({ cls := .type "tuple", data := .seq u2.toArray } : Obj)) (u := .tup rest) hn
    have z := h _ _ (ws ++ [V.ref s.heap.objs.size]) (u1 ++ [Value.ref s.heap.objs.size]) (StX.env0_laid e0 new) un rfl (fun e s' z => z) (r1.append (.cons rfl .nil))
      (by rw [List.length_append, List.length_append, hl] <;> rfl) ⟨_, hn, rfl, rfl⟩
    rw [List.zip_append hl1.symm] at z
    exact z
  · subst ex eH
    obtain ⟨t, ht, hs⟩ := hbody cdv A outer s2 _ E hr' hg
    obtain ⟨_, ρ, Pp, h0, ds, sr, rl, p⟩ := hq p hp
    exact ⟨t, ht.nox, hs ρ Pp _ _ _ h0 sr (re_start rl) _ (bodyR0_ok (post_exit sr p))⟩
theorem FnG.q {CX : CXT} {sp : Sp} (F : FnG P w K mg base CX k f fd ps sp) (hb : Binds K fd ps []) : FnQ P w K mg base CX k f sp := fun A outer s H us vs Q E hr hg e0 r hsp => by
  have hl : us.length = ps.length := by rw [← r.length]; exact F.len _ _ _ _ hsp
  have KX : K.In s.heap := e0.mod.kin.keeps fun b o e => (e0.bs b o e).1
  have hb1 := hb s us KX (by rw [List.append_nil]; exact hl)
  rw [List.append_nil] at hb1
  exact F.go A outer s H ⟨us, []⟩ us vs Q E ⟨hr, hg⟩ e0 hb1 r hsp
theorem FnQ.mono {CX : CXT} {sp : Sp} {j : Nat} (F : FnQ P w K mg base CX j f sp) (h : j ≤ k) : FnQ P w K mg base CX k f sp := fun A outer s H us vs Q E hr => F A outer s H us vs Q E (hr.mono h)
end
/-! ### an instance is made -/
/-- what C(..) computes: its __init__ over the new instance alone; the instance does not change any more -/
def makeP (c : Str) (F : Fn) (ds : List D) (h : AH) : R D := if belowL 0 ds = true then (match F [.loc 0, .tup ds] [.ins c []] with
  | .ok .non [.ins c' fs] => if c' = c ∧ belowL 0 (fs.map (·.2)) = true then .ok (.obj c (fs.map (·.1)) (fs.map (·.2))) h else .bad
  | .exc x fs _ => if belowL 0 (fs.map (·.2)) = true then .exc x fs h else .bad
  | _ => .bad) else .bad
section
variable {K : PySem.W.Frag} {E : XK} {ρ ρ' ρ1 : Ro} {P H P' H' P1 H1 : Hp}
/-- a new thing of no one's will not change any more -/
theorem frz_new {h' : AH} {a : Addr} {u : HO} (t : Step ρ P H ρ' P' H') (s1 : SR K ρ' P' H' h') (hp : H a = none) (np : P' a = none) (nr : NoR ρ' a) (e : H' a = some u) :
    Step ρ P H ρ' (upd P' a u) H' ∧ SR K ρ' (upd P' a u) H' h' ∧ ∀ b o, P' b = some o → upd P' a u b = some o := by
  have kp : ∀ b o, P' b = some o → upd P' a u b = some o := upd_keep np
  refine ⟨⟨t.mono, fun b o eb => kp b o (t.pure b o eb), t.newr, fun b eb hb => ?_, t.keep, t.there⟩, ⟨fun b o eb nd => ?_, fun b o eb => ?_, fun n b eb => ?_, s1.inj, fun n o eo => ?_, s1.dom⟩, kp⟩
  · have z : b ≠ a := fun z => by
      subst z
      rcases hb with ⟨n, e1⟩ | ⟨u, e1, _⟩
      · exact nr n (t.mono n b e1)
      · rw [hp] at e1; cases e1
    rw [upd_ne z]; exact t.newp b eb hb
  · by_cases z : b = a
    · subst z; rw [upd_same] at eb; cases eb; exact e
    · rw [upd_ne z] at eb; exact s1.sub b o eb nd
  · by_cases z : b = a
    · subst z; rw [upd_same] at eb; cases eb; exact .inl e
    · rw [upd_ne z] at eb; exact s1.subD b o eb
  · have z : b ≠ a := fun z => nr n (z ▸ eb)
    rw [upd_ne z]; exact s1.apart n b eb
  · obtain ⟨b, e1, r⟩ := s1.obj n o eo
    exact ⟨b, e1, r.up (fun _ _ e => e) kp fun _ e => e⟩
theorem sp_make {c : Str} {F : Fn} {ds : List D} {vs : List V} {h : AH} {Q : VK} (s : SR K ρ P H h) (w : RepL K ρ P ds vs) (hl : ds.length ≤ sizeLine) (p : Post K (RV K) E ρ P H Q (makeP c F ds h)) {x dx : Addr} (hx : H x = none) (hdx : H dx = none) (hne : dx ≠ x) :
    spStar K 1 F (V.ref x :: vs) (upd (upd H dx (.own x)) x (.ins (He.ga K c) dx [])) (fun v H2 => v = .non ∧ Q (.ref x) H2) E := by
  refine ⟨[V.ref x], vs, rfl, rfl, by rw [w.length]; exact hl, fun q hq => ?_⟩
  unfold makeP at p
  split at p
  · rename_i hb
    have sc : SR K (cutR 0 ρ) P H [] := by simpa using s.cut (h' := h) (n := 0) (by simp)
    have wc : RepL K (cutR 0 ρ) P ds vs := w.cut hb
    obtain ⟨s1, t1⟩ := sc.own hdx (.own x)
    have hx1 : (upd H dx (.own x)) x = none := by rw [upd_ne (Ne.symm hne)]; exact hx
    obtain ⟨s2, t2⟩ := s1.own hx1 (.ins (He.ga K c) dx [])
    have np2 : P x = none := s.noP hx
    have nr2 : NoR (cutR 0 ρ) x := s1.noR hx1
    have s3 := s2.number (o := .ins c []) np2 nr2 ⟨dx, [], upd_same, rfl, .nil⟩
    generalize eH : upd (upd H dx (.own x)) x (.ins (He.ga K c) dx []) = H2 at s2 t2 s3 hq ⊢
    have t12 := t1.trans t2
    have t3 : Step (cutR 0 ρ) P H (fun n => if n = ([] : AH).length then some x else cutR 0 ρ n) P H2 := by
      refine ⟨fun n a e => ?_, t12.pure, fun n a e e' => ?_, t12.newp, t12.keep, t12.there⟩
      · have e : (if n < 0 then ρ n else none) = some a := e
        rw [if_neg (Nat.not_lt_zero n)] at e; cases e
      · have e' : (if n = ([] : AH).length then some x else cutR 0 ρ n) = some a := e'
        split at e'
        · cases e'; exact hx
        · rw [e] at e'; cases e'
    have e1 : ([] : AH) ++ [AO.ins c []] = [.ins c []] := rfl
    rw [e1] at s3
    obtain ⟨s4, t4⟩ := s3.pure hq (.tup vs)
    have tt := t3.trans t4
    refine ⟨rfl, _, _, _, [.loc 0, .tup ds], s4, .cons (.loc (by simp)) (.cons (.tup upd_same (wc.up tt.mono tt.pure)) .nil), ?_⟩
    cases er : F [.loc 0, .tup ds] [.ins c []] with
    | bad => rw [er] at p; exact p.elim
    | exc y fs hh =>
      rw [er] at p
      intro ρ' P' H' dd t s' rx
      have p : Post K (RV K) E ρ P H Q (if belowL 0 (fs.map (·.2)) = true then .exc y fs h else .bad) := p
      split at p
      · rename_i hb2
        obtain ⟨st, sr⟩ := step_over s (tt.trans t) s'
        refine p _ P' H' dd st sr ?_
        rcases rx with z | ⟨da, fvs, e1, e2, e3, r⟩
        · exact .inl z
        · exact .inr ⟨da, fvs, e1, e2, e3, (r.cut hb2).up none_up (fun _ _ e => e)⟩
      · exact p.elim
    | ok d hh =>
      rw [er] at p
      intro ρ' P' H' v t s' wd
      cases d with
      | non =>
        cases wd
        match hh, p, s' with
        | [.ins c' fs], p, s' =>
          have p : Post K (RV K) E ρ P H Q (if c' = c ∧ belowL 0 (fs.map (·.2)) = true then .ok (.obj c (fs.map (·.1)) (fs.map (·.2))) h else .bad) := p
          split at p
          · rename_i hc
            obtain ⟨rfl, hb2⟩ := hc
            refine ⟨rfl, ?_⟩
            obtain ⟨st, sr⟩ := step_over s (tt.trans t) s'
            have e0 : ρ' 0 = some x := t.mono 0 x (t4.mono 0 x (by simp))
            obtain ⟨o, eo, r⟩ := s'.here e0
            cases eo
            obtain ⟨dx', fvs, ev, ek, rv⟩ := r
            have np := s'.apart 0 x e0
            have nr := s.noR hx
            obtain ⟨s5, s6, kp⟩ := frz_new st sr hx np nr ev
            have hlen := congrArg List.length ek
            simp only [List.length_map] at hlen
            exact p _ _ H' _ s5 s6 (.obj (vs := fvs.map (·.2)) upd_same (by rw [← ek]; exact zip_parts) (by simp only [List.length_map]; exact hlen.symm) ((rv.cut hb2).up none_up kp))
          · exact p.elim
        | [], p, _ => exact p.elim
        | [.lst _], p, _ => exact p.elim
        | [.dct _], p, _ => exact p.elim
        | .ins _ _ :: _ :: _, p, _ => exact p.elim
        | .lst _ :: _ :: _, p, _ => exact p.elim
        | .dct _ :: _ :: _, p, _ => exact p.elim
      | _ => exact p.elim
  · exact p.elim
end
/-- what the printer knows of a class with __init__(self, *rows) -/
structure MkS (P : Program) (w : World) (K : PySem.W.Frag) (mg : Str → Option Value) (base : Heap) (k : Nat) (c : Str) (F : Fn) : Prop where
  ex : ∃ g, Mk K (He.ga K c) g ∧ FnQ P w K mg base CX0 k g (spStar K 1 F) ∧ mg c = some (.ref (He.ga K c))
section
variable {X : Cx} {K : PySem.W.Frag} {E : XK} {k : Nat} {c : Str} {F : Fn} {e : Expr} {es : List Expr} {t : TA} {te : TE} {m : M (List D)} {me : M D} {p sp_ pos : Pos}
theorem guards_make {A : Around} {C : Addr} {us : List Value} {kw : List (Str × Value)} : (A.under (.builtin "type.__call__" ⟨.ref C :: us, kw⟩)).guards = A.guards := by
  first | rfl | simp [Around.under, Code.isGuard, guardIds]
theorem run_makeQ {pins : List (Addr × Obj)} {σ : L2.St} {H : Hp} {s : Shared} {Q : VK} {us : List Value} {vs : List V} {C f : Addr} {sp : Sp} (M : Mk X.K C f) (F : FnQ X.prog X.w X.K X.mg X.base CX0 k f sp) (hr : Room (k + 1) X.A) (hg : X.A.guards = some []) (hx : Passes CX0 X E) (I : Inv X pins σ H s) (r : Vals vs us)
    (h : ∀ x dx, H x = Option.none → H dx = Option.none → dx ≠ x → sp (V.ref x :: vs) (upd (upd H dx (.own x)) x (.ins C dx [])) (fun v H2 => v = .non ∧ Q (.ref x) H2) E) :
    wpAny (model X.prog X.w) X.A (call (.ref C) us) (EP X pins σ Q) X.xe s := by
  have hq := h (s.heap.objs.size + 1) s.heap.objs.size (I.hok.fresh (Nat.le_succ _)) (I.hok.fresh (Nat.le_refl _)) (Nat.ne_of_lt (Nat.lt_succ_self _))
  have I2 := Inv.made (C := C) I
  have r2 : Vals (V.ref (s.heap.objs.size + 1) :: vs) (Value.ref (s.heap.objs.size + 1) :: us) := .cons rfl r
  refine wpAny_call (make_map (f := f) I.kIn M.makes M.init (beq_iff_eq.mp M.fn) (codeAny_mono (F _ X.stack _ _ (Value.ref (s.heap.objs.size + 1) :: us) _ _ E (hr.make C us []) (guards_make.trans hg) (I2.env0.make C us []) r2 hq) fun r s' hq' => ?_))
  cases r with
  | error e => exact hx pins σ _ _ e s' I2 hq'
  | ok fl =>
    cases fl with
    | ret u =>
      obtain ⟨v, H', I3, rv, ev, q3⟩ := I2.after hq'
      subst ev
      exact ⟨rv, ⟨V.ref (s.heap.objs.size + 1), H', I3, rfl, q3⟩⟩
    | next => exact False.elim hq'
    | brk => exact False.elim hq'
    | cont => exact False.elim hq'
def mMake (c : Str) (F : Fn) (m : M (List D)) : M D := fun env h => (m env h).bind fun ds h1 => if ds.length ≤ sizeLine then makeP c F ds h1 else .bad
theorem sd_make (ha : Sd K (RVs K) E t m) : Sd K (RV K) E (StX.tMakeR (He.ga K c) (spStar K 1 F) E t) (mMake c F m) := fun ρ P σ H env h s re Q p =>
  ha ρ P σ H env h s re _ (Post.bind p fun ds h1 ρ1 P1 H1 vs t1 s1 w1 p1 => by
    by_cases hl : ds.length ≤ sizeLine
    · rw [if_pos hl] at p1
      exact fun x dx hx hdx hne => sp_make s1 w1 hl p1 hx hdx hne
    · rw [if_neg hl] at p1; exact p1.elim)
/-- C(a, ..) -/
theorem je_make (G : MkS X.prog X.w K X.mg X.base k c F) (hr : Room (k + 1) X.A) (hgu : X.A.guards = some []) (ha : JA K E X (e :: es) t m) (hx : Passes CX0 X E := by exact pass0) (hg : Gl X c := by rfl)
    (hdb : (c == ("__debug__" : Str)) = false := by decide) (he : starEach (e :: es) X.env = (false, eval e X.env) :: starEach es X.env := by rfl) (hpl : (backTo pos (starEach es X.env)).any (·.1) = false := by rfl) :
    JE K E X (.Call (.Name c p) (e :: es) [] pos) (StX.tMakeR (He.ga K c) (spStar K 1 F) E t) (mMake c F m) := by
  obtain ⟨hK, hp, hq⟩ := ha
  subst hK
  obtain ⟨g, M, FQ, hm⟩ := G.ex
  refine ⟨rfl, ⟨fun pins s σ H Q I h => ?_⟩, sd_make hq⟩
  refine wpAny_Call_Name_kw (ld_glob I hg hm ?_ hdb)
  refine PySem.W.callWith_K (h₀ := X.base) I.ok.mod.kin M.kp (thn (hp.run pos pins s σ H _ I h) fun us s1 ⟨vs, H1, I1, r, q⟩ => ⟨I1.kIn, ?_⟩) he hpl
  exact run_makeQ M FQ hr hgu hx I1 r q
/-- C(*xs) -/
def mMakeS (c : Str) (F : Fn) (me : M D) : M D := fun env h => (me env h).bind fun d h1 => match spreadD d h1 with
  | some ds => if ds.length ≤ sizeLine then makeP c F ds h1 else .bad
  | none => .bad
def tMakeS (K : PySem.W.Frag) (C : Addr) (sp : Sp) (E : XK) (te : TE) : TE := fun σ H Q => te σ H fun y H1 => ∃ a vs, y = V.ref a ∧ (SqT K H1 a vs ∨ SqL K H1 a vs) ∧ ∀ x dx, H1 x = Option.none → H1 dx = Option.none → dx ≠ x →
  sp (V.ref x :: vs) (upd (upd H1 dx (.own x)) x (.ins C dx [])) (fun v H2 => v = .non ∧ Q (.ref x) H2) E
end
end Ab

/-! Properties, classmethods, methods of objects that never change. -/
namespace Ab
open PySem PySem.Spec L2 PyProof.Rows
section
variable {X : Cx} {pins : List (Addr × Obj)} {σ : L2.St} {H : Hp} {s : Shared} {K : PySem.W.Frag} {E : XK} {k : Nat} {c m x : Str} {F : Fn} {e o : Expr} {es : List Expr} {t ts : TA} {ta te : TE} {ma : M D} {md : M (List D)} {p pos apos : Pos} {sp : Sp}
/-! properties -/
def noExc (r : R D) : R D := match r with
  | .ok d h => .ok d h
  | _ => .bad
theorem post_noExc {E' : XK} {ρ : Ro} {P H : Hp} {Q : VK} {r : R D} (p : Post K (RV K) E ρ P H Q (noExc r)) : Post K (RV K) E' ρ P H Q r := by
  cases r with
  | ok d h => exact p
  | exc x fs h => exact p.elim
  | bad => exact p.elim
structure PrC (P : Program) (w : World) (K : PySem.W.Frag) (mg : Str → Option Value) (base : Heap) (k : Nat) (c m : Str) (F : Fn) : Prop where
  ex : ∃ p g, Cls K (He.ga K c) ∧ PropOf K (He.ga K c) m p g ∧ FnQ P w K mg base CX0 k g (spD K 1 F)
def mProp (c : Str) (F : Fn) (ma : M D) : M D := fun env h => (ma env h).bind fun d h1 => match d with
  | .obj c' ns ds => if c' = c then noExc (callP 1 F [.obj c' ns ds] h1) else .bad
  | _ => .bad
theorem je_prop (G : PrC X.prog X.w K X.mg X.base k c m F) (hr : Room (k + 1) X.A) (hgu : X.A.guards = some []) (ha : JE K E X e ta ma) (hx : Passes CX0 X.nox E0 := by exact fun _ _ _ _ _ _ _ z => z) (hb : attributeBase e m X.env (eval e X.env) = eval e X.env := by rfl) :
    JE K E X (.Attribute e m pos) (tProp (He.ga K c) (spD K 1 F) [] E0 ta) (mProp c F ma) := by
  obtain ⟨hK, hp, hq⟩ := ha
  subst hK
  obtain ⟨p, g, hc, hpr, FQ⟩ := G.ex
  refine ⟨rfl, ⟨fun pins s σ H Q I h => ?_⟩, fun ρ P σ H env h s re Q pp => ?_⟩
  · refine attr_of hb (thn (hp.run pins s σ H _ I h) fun u s1 ⟨x, H1, I1, rx, a, dx, fs, ex, ea, q⟩ => ?_)
    subst ex
    obtain rfl : u = Value.ref a := rx
    obtain ⟨mA, O, _, _, _, _⟩ := ins_get I1.hok ea
    obtain ⟨od, J, _⟩ := O.look
    obtain ⟨rest, hrec⟩ := hpr.rec_
    have I2 := I1.tok (s1.toks + 1)
    have hcs : (PySem.W.clsIn X.K (He.ga X.K c)).isSome = true := by
      obtain ⟨cd, hc, _⟩ := PySem.W.any_some hc.hd
      rw [hc]
      rfl
    refine PySem.W.get_bind I1.kIn J (PySem.W.plainGet_of (hc.get m)).1 (PySem.W.findObj_data hcs hpr.at_ hpr.get hpr.tak) (PySem.W.plainGet_of (hc.get m)).2 (wpAny_call (PySem.W.prop_get (s := { s1 with toks := s1.toks + 1 }) I1.kIn hrec ?_))
    refine codeAny_mono (FQ X.A.in1 X.stack { s1 with toks := s1.toks + 1 } H1 [.ref a] [.ref a] Q E0 hr.in1 hgu I2.env0.in1 (.cons rfl .nil) q) fun r s' hq => ?_
    cases r with
    | error er => exact hq.elim
    | ok fl =>
      cases fl with
      | ret u =>
        obtain ⟨v, H', I3, rv, q3⟩ := I2.after hq
        show wpAny _ _ (handedOut u) _ _ _
        rw [PySem.W.handedOut_of (handed_of rv)]
        exact wpAny_pure ⟨v, H', I3, rv, q3⟩
      | next => exact False.elim hq
      | brk => exact False.elim hq
      | cont => exact False.elim hq
  · refine hq ρ P σ H env h s re _ (Post.bind pp fun d h1 ρ1 P1 H1 v t1 s1 w1 p1 => ?_)
    cases w1 with
    | obj q ez l r =>
      rename_i a dx c' ns ds fvs vs
      dsimp only at p1
      by_cases ec : c' = c
      · subst ec
        rw [if_pos rfl] at p1
        have w2 : RepL X.K ρ1 P1 [D.obj c' ns ds] [V.ref a] := .cons (.obj q ez l r) .nil
        have p2 : Post X.K (RV X.K) E0 ρ1 P1 H1 Q (callP 1 F [D.obj c' ns ds] h1) := post_noExc p1
        exact ⟨a, dx, fvs, rfl, s1.sub _ _ q rfl, sp_over s1 w2 p2⟩
      · rw [if_neg ec] at p1; exact p1.elim
    | _ => exact p1.elim
/-! classmethods, called on the class -/
structure CmC (P : Program) (w : World) (K : PySem.W.Frag) (mg : Str → Option Value) (base : Heap) (k : Nat) (c m : Str) (n : Nat) (F : Fn) : Prop where
  ex : ∃ p g, ClX.CRead K (He.ga K c) (.type "type") ∧ ClX.CMet K (He.ga K c) (.type "type") m p g ∧ FnQ P w K mg base CX0 k g (spD K (n + 1) F) ∧ mg c = some (.ref (He.ga K c))
def mCm2 (c : Str) (n : Nat) (F : Fn) (md : M (List D)) : M D := fun env h => (md env h).bind fun ds h1 => callP (n + 1) F (.glo c :: ds) h1
/-! a class as a value -/
theorem je_glo {pn : Pos} (hm : X.mg c = some (.ref (He.ga K c))) (hK : X.K = K := by rfl) (hg : Gl X c := by rfl) (hdb : (c == ("__debug__" : Str)) = false := by decide) : JE K E X (.Name c pn) (tC (.ref (He.ga K c))) (mC (.glo c)) := ⟨hK, pe_glob hg hm rfl hdb, sd_c fun _ _ => .glo c⟩
/-! methods of objects that never change -/
structure MtC (P : Program) (w : World) (K : PySem.W.Frag) (mg : Str → Option Value) (base : Heap) (k : Nat) (c m : Str) (n : Nat) (F : Fn) : Prop where
  ex : ∃ g, Cls K (He.ga K c) ∧ Meth K (He.ga K c) m g ∧ FnQ P w K mg base CX0 k g (spD K (n + 1) F)
end
/-! ### the head's facts, of any kind -/
namespace Hd
open PySem.W
abbrev Fb := Frag → Bool
def propB (c m : Str) : Fb := fun K => decide (findIn K (.ref (He.ga K c)) m = some (some (.ref (He.ma K (He.ga K c) m)))) && (decide (specialIn K (.ref (He.ma K (He.ga K c) m)) "__get__" = some (some (.builtin "property.__get__"))) &&
  (decide (takesIn K (.ref (He.ma K (He.ga K c) m)) = some true) && (match recIn K (He.ma K (He.ga K c) m) "property" with
    | some (.ref _ :: _) => true
    | _ => false)))
def creadB (c : Str) : Fb := fun K => readsIn K (He.ga K c) (.type "type") && decide (specialIn K (.ref (He.ga K c)) "__getattribute__" = some (some (.builtin "type.__getattribute__")))
def cmetB (c m : Str) : Fb := fun K => He5.wrapB K (He.ga K c) "classmethod" "classmethod.__get__" m && fnIn K (He5.wf K (He.ga K c) "classmethod" m)
/-- where defs stand -/
abbrev AtF := Frag → Addr
def atG (x : Str) : AtF := fun K => He.ga K x
def atM (c m : Str) : AtF := fun K => He.ma K (He.ga K c) m
def atP (c m : Str) : AtF := fun K => He5.wf K (He.ga K c) "property" m
def atC (c m : Str) : AtF := fun K => He5.wf K (He.ga K c) "classmethod" m
theorem prop_ok {K : Frag} {c m : Str} (h : propB c m K = true) : PropOf K (He.ga K c) m (He.ma K (He.ga K c) m) (atP c m K) := by
  unfold propB at h
  simp only [Bool.and_eq_true, decide_eq_true_eq] at h
  obtain ⟨h1, h2, h3, h4⟩ := h
  refine ⟨h1, h2, h3, ?_⟩
  unfold atP He5.wf
  split at h4
  · rename_i f r e
    exact ⟨r, by rw [e]⟩
  · cases h4
def obsB (fb : List Fb) (fn : List He5.DefA) (K : Frag) : He.AlD := ((fb.all fun f => f K) && fn.all fun d => d.ok K, fn.map fun d => He5.fnA K (d.at_ K))
def SaysB (fb : List Fb) (fn : List He5.DefA) (K : Frag) : Prop := obsB fb fn K = He5.valA fn
def obsBG (n : Nat) (fb : List Fb) (fn : List He5.DefA) (g : Addr → Option Obj) : He.AlD := obsB fb fn (He.frG g (He5.asA g n))
def hookB (n : Nat) (fb : List Fb) (fn : List He5.DefA) : PySem.W.Hook where
  α := He.AlD
  obs := fun s => obsBG n fb fn s.heap.get?
  val := fun _ => He5.valA fn
  says := fun _ h => ∃ K : Frag, K.In h ∧ SaysB fb fn K
  of := fun _ _ e => ⟨_, He.frG_in, e⟩
  keeps := fun _ _ _ ⟨K, hK, c⟩ k => ⟨K, Frag.In.keeps hK k, c⟩
theorem SaysB.fact {fb : List Fb} {fn : List He5.DefA} {K : Frag} (c : SaysB fb fn K) (i : Nat) {f : Fb} (h : fb[i]? = some f := by rfl) : f K = true := by
  have c1 := (He.ba (show ((fb.all fun f => f K) && fn.all fun d => d.ok K) = true from congrArg (fun z : He.AlD => z.1) c)).1
  exact List.all_eq_true.mp c1 f (List.mem_of_getElem? h)
theorem SaysB.def_ {fb : List Fb} {fn : List He5.DefA} {K : Frag} (c : SaysB fb fn K) (i : Nat) {d : He5.DefA} (h : fn[i]? = some d := by rfl) : ∃ fd, FunD K d.name d.qual d.params d.body d.scope (d.dvs K) (d.kws K) (d.at_ K) fd := by
  have c2 := (He.ba (show ((fb.all fun f => f K) && fn.all fun d => d.ok K) = true from congrArg (fun z : He.AlD => z.1) c)).2
  have e : fn.map (fun d => He5.fnA K (d.at_ K)) = fn.map He5.DefA.val := congrArg (fun z : He.AlD => z.2) c
  have e2 : (fn.map fun d => He5.fnA K (d.at_ K))[i]? = (fn.map He5.DefA.val)[i]? := by rw [e]
  rw [List.getElem?_map, List.getElem?_map, h] at e2
  exact He5.DefA.funD (Option.some.inj e2) (List.all_eq_true.mp c2 d (List.mem_of_getElem? h))
end Hd
end Ab

/-! One rule for lists, tuples, texts and dicts: x[i], x in y, x[i] = v, for, list(x), len(x), sorted(x). -/
namespace Ab
open PySem PySem.Spec L2 PyProof.Rows
section
variable {K : PySem.W.Frag} {E : XK} {ρ ρ' ρ1 : Ro} {P H P' H' P1 H1 : Hp} {X : Cx} {a b e : Expr} {ta tb : TE} {ma mb : M D} {pos : Pos} {k : Nat}
/-! x[i] -/
theorem ix_dict (hu : X.A.units + 1 < cLine) : IxR X (fun x y H Q => ∃ a v, x = .ref a ∧ DGet H a y (some v) ∧ Q v H) := by
  intro value slice pins s σ H x y v u Q I rx ry h hs
  obtain ⟨a, w, rfl, g, q⟩ := h
  cases rx
  exact tail_any (dict_typeIs I g) PySem.F.slot_dict_getitem.lookup (d_getItem hu I g ry fun w' s3 I3 rw' => ⟨w, H, I3, rw', q⟩) hs
def ixUD (a b : D) (h : AH) : R D := match dctD a h with
  | some kvs => (match keyT b with
    | some k => (match fGet kvs k with
      | some v => .ok v h
      | none => .bad)
    | none => .bad)
  | none => ixD a b h
abbrev rIxU (K : PySem.W.Frag) : R2 := fun x y H Q => rIx K x y H Q ∨ ∃ a v, x = .ref a ∧ DGet H a y (some v) ∧ Q v H
theorem os_ixU : OpS K E (rIxU K) ixUD := fun ρ P H h x y dx dy s wx wy Q p => by
  unfold ixUD at p
  cases ed : dctD dx h with
  | none => simp only [ed] at p; exact .inl (os_ix ρ P H h x y dx dy s wx wy Q p)
  | some kvs =>
    simp only [ed] at p
    cases ek : keyT dy with
    | none => simp only [ek] at p; exact p.elim
    | some ks =>
      simp only [ek] at p
      obtain ⟨q, eq, hq⟩ := keyT_ok s wy ek
      obtain ⟨d, kws, eu, hd, e4, r⟩ := dctD_ok s wx ed
      subst eq eu
      cases ey : fGet kvs ks with
      | none => simp only [ey] at p; exact p.elim
      | some z =>
        simp only [ey] at p
        rcases get_rel (k := ks) e4 r with ⟨h1, _⟩ | ⟨d', v', h1, h2, h3⟩
        · rw [h1] at ey; cases ey
        · rw [h1] at ey
          cases ey
          have g := dget_rd hd hq
          rw [h2] at g
          exact .inr ⟨d, v', rfl, g, Post.here p s h3⟩
theorem je_ixU (hr : Room k X.A) (ha : JE K E X a ta ma) (hb : JE K E X b tb mb) (hs : PlainIx b := by exact fun _ _ => rfl) : JE K E X (.Subscript a b pos) (tOp (rIxU K) ta tb) (mBin ixUD ma mb) := by
  obtain ⟨hK, hp, hq⟩ := ha
  subst hK
  exact ⟨rfl, pe_ix (ix_seq.or (ix_dict (hu_of hr))) hp hb.p hs, sd_op hq hb.s os_ixU⟩
/-! x in y -/
def rDin (neg : Bool) : R2 := fun y x H Q => ∃ a o, x = .ref a ∧ DGet H a y o ∧ Q (.bl (if neg then !o.isSome else o.isSome)) H
theorem op_dIn (hu : X.A.units + 1 < cLine) : OpR X (compareOp .In) (rDin false) := by
  intro pins s σ H y x u v Q I ry rx h
  obtain ⟨a, o, rfl, g, q⟩ := h
  cases rx
  exact d_in hu I g ry fun s3 I3 => ⟨.bl o.isSome, H, I3, rfl, q⟩
theorem op_dNotIn (hu : X.A.units + 1 < cLine) : OpR X (compareOp .NotIn) (rDin true) := by
  intro pins s σ H y x u v Q I ry rx h
  obtain ⟨a, o, rfl, g, q⟩ := h
  cases rx
  exact d_notIn hu I g ry fun s3 I3 => ⟨.bl (!o.isSome), H, I3, rfl, q⟩
def inUD (neg : Bool) (a b : D) (h : AH) : R D := match dctD b h with
  | some kvs => (match keyT a with
    | some k => .ok (.bl (if neg then !(fGet kvs k).isSome else (fGet kvs k).isSome)) h
    | none => .bad)
  | none => inD neg a b h
theorem os_inUU {neg : Bool} : OpS K E (fun x y H Q => rInU K neg x y H Q ∨ rDin neg x y H Q) (inUD neg) := fun ρ P H h x y dx dy s wx wy Q p => by
  unfold inUD at p
  cases ed : dctD dy h with
  | none => simp only [ed] at p; exact .inl (os_in ρ P H h x y dx dy s wx wy Q p)
  | some kvs =>
    simp only [ed] at p
    cases ek : keyT dx with
    | none => simp only [ek] at p; exact p.elim
    | some ks =>
      simp only [ek] at p
      obtain ⟨q, eq, hq⟩ := keyT_ok s wx ek
      obtain ⟨d, kws, eu, hd, e4, r⟩ := dctD_ok s wy ed
      subst eq eu
      refine .inr ⟨d, valV kws ks, rfl, dget_rd hd hq, ?_⟩
      have : (valV kws ks).isSome = (fGet kvs ks).isSome := by
        rcases get_rel (k := ks) e4 r with ⟨h1, h2⟩ | ⟨d, v, h1, h2, _⟩ <;> rw [h1, h2] <;> rfl
      rw [this]
      exact Post.here p s (.bl _)
theorem jc_inU (hr : Room k X.A) (hK : X.K = K := by rfl) : JC K E X .In (fun x y H Q => rInU K false x y H Q ∨ rDin false x y H Q) (inUD false) := by
  subst hK
  exact ⟨(op_inU (by have := hr.un; omega)).or (op_dIn (hu_of hr)), os_inUU⟩
theorem jc_notInU (hr : Room k X.A) (hK : X.K = K := by rfl) : JC K E X .NotIn (fun x y H Q => rInU K true x y H Q ∨ rDin true x y H Q) (inUD true) := by
  subst hK
  exact ⟨(op_notInU (by have := hr.un; omega)).or (op_dNotIn (hu_of hr)), os_inUU⟩
/-! x[i] = v -/
def rSetD : TSet := fun o i v H Q => ∃ a H4, o = .ref a ∧ DPut H a i v H4 ∧ Q H4
theorem set_dict (hu : X.A.units + 1 < cLine) : PSet X rSetD := by
  intro pins s σ H o i v ov iv u Q I ro ri rv h
  obtain ⟨a, H4, rfl, g, q⟩ := h
  cases ro
  exact d_setItem hu I g ri rv fun s4 I4 => ⟨H4, I4, q⟩
theorem PSet.or {t u : TSet} (h : PSet X t) (g : PSet X u) : PSet X (fun o i v H Q => t o i v H Q ∨ u o i v H Q) := by
  intro pins s σ H o i v ov iv w Q I ro ri rv q
  rcases q with q | q
  · exact h pins s σ H o i v ov iv w Q I ro ri rv q
  · exact g pins s σ H o i v ov iv w Q I ro ri rv q
def mgSubU (mo mi : M D) : MG := fun d env h => (mo env h).bind fun o h1 => (mi env h1).bind fun i h2 => match o with
  | .loc n => (match h2[n]? with
    | some (.lst ds) => (match i with
      | .int k => (match ixN ds.length k with
        | some j => .ok env (h2.set n (.lst (ds.set j d)))
        | none => .bad)
      | _ => .bad)
    | some (.dct kvs) => (match keyT i with
      | some k => if kvs.length < sizeLine then .ok env (h2.set n (.dct (fPut kvs k d))) else .bad
      | none => .bad)
    | _ => .bad)
  | _ => .bad
theorem sg_subU {to ti : TE} {mo mi : M D} (ho : Sd K (RV K) E to mo) (hi : Sd K (RV K) E ti mi) : SdG K E (gSub to ti (fun o i v H Q => rSetL o i v H Q ∨ rSetD o i v H Q)) (mgSubU mo mi) := fun ρ P σ H env h d v s re w Q p =>
  ho ρ P σ H env h s re _ (Post.bind p fun a h1 ρ1 P1 H1 x t1 s1 w1 p1 => hi _ _ _ _ _ _ s1 (re.step t1) _ (Post.bind p1 fun b h2 ρ2 P2 H2 y t2 s2 w2 p2 => by
    have w1 := w1.step t2
    have re2 := (re.step t1).step t2
    have w := (w.step t1).step t2
    cases w1 with
    | loc e =>
      rename_i n q
      obtain ⟨o, eo, r⟩ := s2.here e
      simp only [eo] at p2
      cases o with
      | lst ds =>
        obtain ⟨us, ev, rv⟩ := r
        cases w2 with
        | int k =>
          dsimp only at p2
          cases ej : ixN ds.length k with
          | none => simp only [ej] at p2; exact p2.elim
          | some j =>
            simp only [ej] at p2
            refine .inl ⟨q, us, k, j, rfl, rfl, ev, by rw [rv.length]; exact ej, ?_⟩
            obtain ⟨s3, t3⟩ := s2.put (u := .lst (us.set j v)) (o := .lst (ds.set j d)) e ⟨_, upd_same, rv.set w j⟩
            exact p2 _ _ _ _ t3 s3 (re2.step t3)
        | _ => exact p2.elim
      | dct kvs =>
        dsimp only at p2
        cases ek : keyT b with
        | none => simp only [ek] at p2; exact p2.elim
        | some ks =>
          simp only [ek] at p2
          by_cases hl : kvs.length < sizeLine
          · rw [if_pos hl] at p2
            obtain ⟨qb, eq, hq⟩ := keyT_ok s2 w2 ek
            obtain ⟨kws, e3, e4, r⟩ := r
            subst eq
            have hl2 : kws.length < sizeLine := by
              have := congrArg List.length e4
              simp only [List.length_map] at this
              omega
            obtain ⟨r1, r2⟩ := put_rel (k := ks) w e4 r
            obtain ⟨s4, t4⟩ := s2.put (u := .dT (putK kws ks v)) (o := .dct (fPut kvs ks d)) e ⟨_, upd_same, r1, r2⟩
            exact .inr ⟨q, _, rfl, DPut.t e3 hq hl2, p2 _ _ _ _ t4 s4 (re2.step t4)⟩
          · rw [if_neg hl] at p2; exact p2.elim
      | ins c fs => exact p2.elim
      | ndt kvs => exact p2.elim
    | _ => exact p2.elim))
theorem jg_subU (hr : Room k X.A) (ha : JE K E X a ta ma) (hb : JE K E X b tb mb) (has : ∀ v, assign (.Subscript a b pos) X.env v = (do
      let ov ← holding [v] (eval a X.env)
      let iv ← holding [v, ov] (eval b X.env)
      standAt pos
      holding [v, ov, iv] (setItem ov iv v)
      release [v, ov, iv] []) := by intro _; rfl) : JG K E X (.Subscript a b pos) (gSub ta tb (fun o i v H Q => rSetL o i v H Q ∨ rSetD o i v H Q)) (mgSubU ma mb) := ⟨ha.k, pg_sub ha.p hb.p (Ab.PSet.or set_list (set_dict (hu_of hr))) has, sg_subU ha.s hb.s⟩
/-! for -/
def iU (K : PySem.W.Frag) (ta : TE) : TI := fun σ H W => ta σ H fun x H1 => ((∃ a, x = .ref a ∧ (((∃ xs, SqL K H1 a xs) ∧ W (Itl K a) H1) ∨ ((∃ xs, SqT K H1 a xs) ∧ W (Itt K a) H1))) ∨ ∃ z, x = .str z ∧ W (Its z) H1) ∨
  ∃ d kvs, x = .ref d ∧ ((∃ o, H1 d = some (.frz o (.dT kvs)) ∧ W (Itkt d o kvs) H1) ∨ (H1 d = some (.dT kvs) ∧ ∀ o, W (Itkt d o kvs) (upd H1 d (.frz o (.dT kvs)))))
theorem pi_U {tg : Expr} (ha : PE X a ta) : PI X tg a (iU X.K ta) := by
  refine ⟨fun pins s σ H W I h => thn (ha.run pins s σ H _ I h) fun v s1 z => ?_⟩
  obtain ⟨y, H1, I1, r1, dd⟩ := z
  rcases dd with (⟨q, rfl, d⟩ | ⟨z, rfl, go⟩) | ⟨d, kvs, rfl, q⟩
  · obtain rfl : v = Value.ref q := r1
    rcases d with ⟨⟨xs, hq⟩, go⟩ | ⟨⟨xs, hq⟩, go⟩
    · obtain ⟨its, _, pl, _⟩ := I1.list hq
      refine wpAny_pyIter_list pl.isList ⟨_, [_], _, _, H1, rfl, I1.kept (t' := s1.toks) fun b o e => Heap.get?_push_of_some _ e, turn_list q _, ⟨_, Heap.get?_push_size _ rfl, rfl, rfl⟩, fun b hb => ?_, go⟩
      cases (List.mem_singleton.mp hb)
      exact I1.fpOk (Nat.le_refl _) I1.fresh
    · obtain ⟨its, _, pl, _⟩ := I1.tuple hq
      refine wpAny_pyIter_tuple (show s1.heap.IsTuple q its.toArray from pl) ⟨_, [_], _, _, H1, rfl, I1.kept (t' := s1.toks) fun b o e => Heap.get?_push_of_some _ e, turn_tuple q _, ⟨_, Heap.get?_push_size _ rfl, rfl, rfl⟩, fun b hb => ?_, go⟩
      cases (List.mem_singleton.mp hb)
      exact I1.fpOk (Nat.le_refl _) I1.fresh
  · obtain ⟨t, rfl⟩ := r1
    cases hz : z.cps.all (· < 128)
    · exact wpAny_pyIter_wide hz (pi_one (tk := s1.toks) I1 _ (turn_str _ z t "str_iterator" (.inr rfl)) ⟨_, Heap.get?_push_size _ rfl, rfl, rfl⟩ go)
    · exact wpAny_pyIter_ascii hz (pi_one (tk := s1.toks) I1 _ (turn_str _ z t "str_ascii_iterator" (.inl rfl)) ⟨_, Heap.get?_push_size _ rfl, rfl, rfl⟩ go)
  · obtain rfl : v = Value.ref d := r1
    have go : ∀ {H2 : Hp} {o : Obj}, Inv X pins σ H2 s1 → H2 d = some (.frz o (.dT kvs)) → W (Itkt d o kvs) H2 → wpAny (model X.prog X.w) X.A (pyIter (.ref d)) (PIE X pins σ tg W) X.xe s1 := fun {H2 o} I2 hd q => by
      obtain ⟨hs, hgd, hx, es, ep, hdt, hsz, ent⟩ := I2.frzT hd
      refine iter_keys hs hgd hx hdt (pi_one (tk := s1.toks) I2 _ (turn_keysT _ hdt) ⟨_, Heap.get?_push_size _ rfl, rfl, ?_⟩ q)
      rw [hsz] <;> rfl
    rcases q with ⟨o, hd, q⟩ | ⟨hd, q⟩
    · exact go I1 hd q
    · obtain ⟨od, I2⟩ := I1.lock hd True.intro
      exact go I2 upd_same (q od)
def miU (m : M D) : MI := fun env h => (m env h).bind fun d h1 => match d with
  | .str z => .ok (.items (signsD z)) h1
  | .lst ds => .ok (.items ds) h1
  | .scr ds => .ok (.items ds) h1
  | .tup ds => .ok (.items ds) h1
  | .dic ks ds => if ks.length = ds.length then .ok (.items (ks.map keyTD)) h1 else .bad
  | .loc n => (match h1[n]? with
    | some (.lst _) => .ok (.at_ n) h1
    | _ => .bad)
  | _ => .bad
theorem si_U (ha : Sd K (RV K) E ta ma) : SdI K E (iU K ta) (miU ma) := fun ρ P σ H env h s re Q p =>
  ha ρ P σ H env h s re _ (Post.bindI p fun a h1 ρ1 P1 H1 v t1 s1 w1 p1 => by
    cases w1 with
    | str z => exact .inl (.inr ⟨z, rfl, p1 ρ1 P1 H1 _ (Step.refl ..) s1 itOk_S⟩)
    | lst q r => exact .inl (.inl ⟨_, rfl, .inl ⟨⟨_, .of (s1.sub _ _ q rfl)⟩, p1 ρ1 P1 H1 _ (Step.refl ..) s1 (itOk_L (h := h1) (.of q) r)⟩⟩)
    | scr q r => exact .inl (.inl ⟨_, rfl, .inl ⟨⟨_, sqL_s s1.sub q⟩, p1 ρ1 P1 H1 _ (Step.refl ..) s1 (itOk_L (h := h1) q r)⟩⟩)
    | tup q r => exact .inl (.inl ⟨_, rfl, .inr ⟨⟨_, sqT_tk s1.sub q⟩, p1 ρ1 P1 H1 _ (Step.refl ..) s1 (itOk_T (h := h1) (.of q) r)⟩⟩)
    | loc e =>
      obtain ⟨o, eo, r⟩ := s1.here e
      cases o with
      | lst ds =>
        obtain ⟨vs, ev, rv⟩ := r
        simp only [eo] at p1
        exact .inl (.inl ⟨_, rfl, .inl ⟨⟨_, .of ev⟩, p1 ρ1 P1 H1 _ (Step.refl ..) s1 ⟨_, e, rfl⟩⟩⟩)
      | dct kvs =>
        simp only [eo] at p1
      | ins c fs =>
        simp only [eo] at p1
      | ndt kvs =>
        simp only [eo] at p1
    | dic q ez l r =>
      rename_i a ks ds kws vs
      by_cases hl : ks.length = ds.length
      · simp only [if_pos hl] at p1
        have ek : kws.map (·.1) = ks := by rw [ez, List.map_fst_zip (by omega)]
        refine .inr ⟨a, kws, rfl, ?_⟩
        rcases s1.subD _ _ q with hd | ⟨o, hd⟩
        · refine .inr ⟨hd, fun o => ?_⟩
          obtain ⟨s2, t2⟩ := s1.lock q hd o
          have j := itOk_K (K := K) (ρ := ρ1) (P := P1) (h := h1) (upd_same (H := H1) (a := a) (o := .frz o (.dT kws)))
          rw [ek] at j
          exact p1 ρ1 P1 _ _ t2 s2 j
        · refine .inl ⟨o, hd, ?_⟩
          have j := itOk_K (K := K) (ρ := ρ1) (P := P1) (h := h1) hd
          rw [ek] at j
          exact p1 ρ1 P1 H1 _ (Step.refl ..) s1 j
      · simp only [if_neg hl] at p1
    | _ => exact p1.elim)
theorem ji_U {tg : Expr} (ha : JE K E X a ta ma) : JI K E X tg a (iU K ta) (miU ma) := by
  obtain ⟨hK, hp, hq⟩ := ha
  subst hK
  exact ⟨rfl, pi_U hp, si_U hq⟩
/-! list(x), len(x), sorted(x) -/
theorem CallR.or {f : Value} {r r' : List V → Hp → VK → Prop} (h : CallR X f r) (g : CallR X f r') : CallR X f (fun xs H Q => r xs H Q ∨ r' xs H Q) := by
  intro pins s σ H xs us Q I rr q
  rcases q with q | q
  · exact h pins s σ H xs us Q I rr q
  · exact g pins s σ H xs us Q I rr q
def isDct (ds : List D) (h : AH) : Bool := match ds with
  | [d] => (dctD d h).isSome
  | _ => false
def listUD (ds : List D) (h : AH) : R (List D) := if isDct ds h = true then listDD ds h else listD ds h
theorem jb_listU (hK : X.K = K := by rfl) (hc : X.calm = true := by rfl) : JBl K E X (.type "list") (fun xs H Q => (∃ p ys, xs = [.ref p] ∧ (SqL K H p ys ∨ SqT K H p ys) ∧ ∀ l, H l = none → Q (.ref l) (upd H l (.lst ys))) ∨ ∃ d kvs, xs = [V.ref d] ∧ Rd H d (.dT kvs) ∧ ∀ p bs, H p = none → IsKeys H kvs bs → Q (.ref p) (upd H p (.lst (bs.map V.ref)))) listUD := by
  subst hK
  refine ⟨CallR.or call_list_of (call_list_dT hc), fun ρ P H h vs ds s w Q p => ?_⟩
  unfold listUD at p
  split at p
  · exact .inr (cb_listD ρ P H h vs ds s w Q p)
  · exact .inl (cb_list ρ P H h vs ds s w Q p)
def lenUD (ds : List D) (h : AH) : R D := if isDct ds h = true then lenDD ds h else lenD ds h
theorem jb_lenU (hK : X.K = K := by rfl) : JBf K E X (.builtin "len") (fun xs H Q => (∃ x n, xs = [x] ∧ LenV K x H n ∧ Q (.int n) H) ∨ ∃ (p : Addr) (kvs : List (List Key × V)), xs = [.ref p] ∧ Rd H p (.dT kvs) ∧ Q (.int ((kvs.length : Nat) : Int)) H) lenUD := by
  subst hK
  refine ⟨CallR.or call_len call_len_rd, fun ρ P H h vs ds s w Q p => ?_⟩
  unfold lenUD at p
  split at p
  · exact .inr (cb_lenD ρ P H h vs ds s w Q p)
  · exact .inl (cb_len ρ P H h vs ds s w Q p)
def isRows (ds : List D) (h : AH) : Bool := match ds with
  | [d] => (rowsD d h).isSome
  | _ => false
def sortedUD (ds : List D) (h : AH) : R (List D) := if isRows ds h = true then sortedTD ds h else sortedD ds h
theorem jb_sortedU (hK : X.K = K := by rfl) (hc : X.calm = true := by rfl) : JBl K E X (.builtin "sorted") (fun xs H Q => rSortedI K xs H Q ∨ rSortTO K xs H Q) sortedUD := by
  subst hK
  refine ⟨CallR.or cr_sortedI (cr_sortTO hc), fun ρ P H h vs ds s w Q p => ?_⟩
  unfold sortedUD at p
  split at p
  · exact .inr (cb_sortedT ρ P H h vs ds s w Q p)
  · exact .inl (cb_sorted ρ P H h vs ds s w Q p)
end
end Ab

/-! isinstance(x, C); min(list of tuples); keyword calls as pure calls. -/
namespace Ab
open PySem PySem.Spec L2 PyProof.Rows
section
variable {K : PySem.W.Frag} {E : XK} {ρ ρ' ρ1 : Ro} {P H P' H' P1 H1 : Hp} {X : Cx} {k : Nat} {c : Str}
/-- an own class, asked for by isinstance -/
structure IsiC (K : PySem.W.Frag) (c : Str) : Prop where
  cl : Cls K (He.ga K c)
  ha : PySem.W.findIn K (.ref (He.ga K c)) "__class__" = some (some (.builtin "object.__class__"))
  hn : PySem.W.specialIn K (.builtin "object.__class__") "__get__" = some (some (.builtin "getset_descriptor.__get__"))
  htk : PySem.W.takesIn K (.builtin "object.__class__") = some true
  hm : PySem.W.mroIn K (He.ga K c) (.type "object") = some true
  no : ∀ t ∈ ["NoneType", "bool", "int", "str", "list", "tuple", "dict"], PySem.W.kitOne K (.type t) (.ref (He.ga K c)) = some false
def Hd.isiB (c : Str) : Hd.Fb := fun K => (He.Fa.cls c).ok K && (He.eqO (PySem.W.findIn K (.ref (He.ga K c)) "__class__") (some (some (.builtin "object.__class__"))) && (He.eqO (PySem.W.specialIn K (.builtin "object.__class__") "__get__") (some (some (.builtin "getset_descriptor.__get__"))) &&
  (decide (PySem.W.takesIn K (.builtin "object.__class__") = some true) && (decide (PySem.W.mroIn K (He.ga K c) (.type "object") = some true) && ["NoneType", "bool", "int", "str", "list", "tuple", "dict"].all fun t => decide (PySem.W.kitOne K (.type t) (.ref (He.ga K c)) = some false)))))
theorem Hd.isi_ok (h : Hd.isiB c K = true) : IsiC K c := by
  unfold Hd.isiB at h
  simp only [Bool.and_eq_true, decide_eq_true_eq] at h
  obtain ⟨h1, h2, h3, h4, h5, h6⟩ := h
  exact ⟨He.cls_ok h1, He.eqO_ok h2, He.eqO_ok h3, h4, h5, fun t ht => by have := List.all_eq_true.mp h6 t ht; simpa using this⟩
def isiCD (c : Str) : List D → AH → R D
  | [.obj c' ns ds, .glo x], h => if c' = c ∧ x = c then .ok (.bl true) h else .bad
  | [.non, .glo x], h => if x = c then .ok (.bl false) h else .bad
  | [.bl _, .glo x], h => if x = c then .ok (.bl false) h else .bad
  | [.int _, .glo x], h => if x = c then .ok (.bl false) h else .bad
  | [.str _, .glo x], h => if x = c then .ok (.bl false) h else .bad
  | [.tup _, .glo x], h => if x = c then .ok (.bl false) h else .bad
  | [.lst _, .glo x], h => if x = c then .ok (.bl false) h else .bad
  | _, _ => .bad
theorem cb_isiC (G : IsiC K c) : CbS K E (rIsi K) (isiCD c) := fun ρ P H h vs ds s w Q p => by
  unfold isiCD at p
  split at p
  · obtain ⟨v, u, rfl, r1, r2⟩ := w.two
    cases r2
    split at p
    · rename_i hc
      obtain ⟨rfl, rfl⟩ := hc
      cases r1 with
      | obj q ez l r => exact ⟨_, _, _, _, true, rfl, .own _, .base (.ins (s.sub _ _ q rfl) G.cl G.ha G.hn G.htk G.hm), by unfold PySem.W.kitOne; rw [if_pos (by simp)], Post.here p s (.bl _)⟩
    · exact p.elim
  all_goals first
    | exact p.elim
    | (obtain ⟨v, u, rfl, r1, r2⟩ := w.two
       cases r2
       split at p
       · rename_i hc
         subst hc
         cases r1
         first
           | exact ⟨_, _, _, _, false, rfl, .own _, .base .non, G.no _ (by decide), Post.here p s (.bl _)⟩
           | exact ⟨_, _, _, _, false, rfl, .own _, .base (.bl _), G.no _ (by decide), Post.here p s (.bl _)⟩
           | exact ⟨_, _, _, _, false, rfl, .own _, .base (.int _), G.no _ (by decide), Post.here p s (.bl _)⟩
           | exact ⟨_, _, _, _, false, rfl, .own _, .base (.str _), G.no _ (by decide), Post.here p s (.bl _)⟩
           | (rename_i q r; exact ⟨_, _, _, _, false, rfl, .own _, .base (.tup (s.sub _ _ q rfl)), G.no _ (by decide), Post.here p s (.bl _)⟩)
           | (rename_i q r; exact ⟨_, _, _, _, false, rfl, .own _, .base (.lst (s.sub _ _ q rfl)), G.no _ (by decide), Post.here p s (.bl _)⟩)
       · exact p.elim)
theorem jb_isiC (G : IsiC X.K c) (hK : X.K = K := by rfl) : JBf K E X (.builtin "isinstance") (rIsi K) (isiCD c) := by subst hK; exact ⟨call_isi, cb_isiC G⟩
end
/-! min of a list of tuples of whole numbers -/
section
open PySem.W PySem.SeqAt
def tupP (ns : List Int) : PyData := .tuple (ns.map PyData.int)
end
section
open PySem.W (AlikeAll iter_listW cmpIn_lt moved_old)
variable {X : Cx}
abbrev minAt (ks : List (List Int)) : Nat := argBest (fun i j => lexI (ks.getD i []) (ks.getD j [])) (ks.length - 1)
def rMinT (K : PySem.W.Frag) : List V → Hp → VK → Prop := fun vs H Q => ∃ (a : Addr) (bs : List Addr) (k : Addr → List Int), vs = [V.ref a] ∧ SqL K H a (bs.map V.ref) ∧ bs ≠ [] ∧ (∀ b ∈ bs, H b = some (.tup ((k b).map V.int))) ∧
  ∀ b, bs[minAt (bs.map k)]? = some b → Q (.ref b) H
variable {K : PySem.W.Frag} {E : XK} {ρ ρ' ρ1 : Ro} {P H P' H' P1 H1 : Hp} {k : Nat}
def minTD (ds : List D) (h : AH) : R D := match ds with
  | [d] => (match seqD d h with
    | some es => (match intsTs es with
      | some ks => (match es[minAt ks]? with
        | some e => .ok e h
        | none => .bad)
      | none => .bad)
    | none => .bad)
  | _ => .bad
end
section
variable {X : Cx} {K : PySem.W.Frag} {E : XK} {k : Nat} {ps : List Str} {F : Fn} {st : Stmt} {x : Str} {pn pos : Pos} {e : Expr} {es : List Expr} {kws : List Keyword} {t tk : TA} {m mk : M (List D)}
end
end Ab

/-! (a, b, ..) = a list. -/
namespace Ab
open PySem PySem.Spec L2 PyProof.Rows
section
variable {prog : Program} {w : World} {A : Around} {E : Value → Shared → Prop} {I : Addr} {fp wr : List Addr} {n : Nat} {P : Nat → Value → Prop} {St : Nat → Heap → Prop}
theorem draw_walk (W : Walks prog w A I fp wr n P St) : ∀ (k i : Nat) (s : Shared) (Q : List Value → Shared → Prop), St i s.heap → i + k ≤ n →
    (∀ us h' tk, us.length = k → (∀ j u, us[j]? = some u → P (i + j) u) → St (i + k) h' → (∀ b o, b ∉ wr → s.heap.get? b = some o → h'.get? b = some o) → Q us { s with heap := h', toks := tk }) → wpAny (model prog w) A (draw (.ref I) k) Q E s
  | 0, i, s, Q, st, _, hQ => by
    show wpAny _ _ (pure []) Q E s
    exact wpAny_pure (hQ [] s.heap s.toks rfl (fun j u e => by cases e) st fun b o _ e => e)
  | k + 1, i, s, Q, st, hle, hQ => by
    show wpAny _ _ (pyNext (.ref I) >>= _) Q E s
    refine wpAny_bind (W.item i s _ _ (by omega) st fun v h₁ tk hP st₁ hk₁ => ?_)
    refine wpAny_bind (wpAny_holding (draw_walk W k (i + 1) _ _ st₁ (by omega) fun us h₂ tk₂ hl hp st₂ hk₂ => wpAny_pure ?_))
    refine hQ (v :: us) h₂ tk₂ (by simp [hl]) (fun j u e => ?_) (by rw [show i + (k + 1) = i + 1 + k by omega]; exact st₂) fun b o hb e => hk₂ b o hb (hk₁ b o hb e)
    cases j with
    | zero => cases e; exact hP
    | succ j => rw [show i + (j + 1) = i + 1 + j by omega]; exact hp j u e
theorem unpackItems_list {s : Shared} {l : Addr} {items : Array Value} {Q : List Value → Shared → Prop} (hh : A.handled = none) (hl : s.heap.IsList l items)
    (hQ : ∀ h' tk, (∀ b o, s.heap.get? b = some o → h'.get? b = some o) → Q items.toList { s with heap := h', toks := tk }) : wpAny (model prog w) A (unpackItems (.ref l) items.size none) Q E s := by
  have hlt : l ≠ s.heap.objs.size := by obtain ⟨o, ho, _⟩ := hl; exact Nat.ne_of_lt (Heap.lt_size ho)
  have W := Walks.list (prog := prog) (w := w) (A := A) hh s.heap.objs.size l hlt items
  unfold unpackItems
  refine wpAny_bind ?_
  · unfold notIterableAtAll
    refine wpAny_bind (wpAny_specialOf hl.typeIs PySem.F.slot_list_iter.lookup ?_)
    refine wpAny_pure ?_
    simp only [Bool.false_eq_true, if_false]
    refine wpAny_bind (wpAny_holding (wpAny_pyIter_list hl ?_))
    refine wpAny_bind (wpAny_holding (draw_walk W items.size 0 _ _ ⟨⟨_, Heap.get?_push_size _ rfl, rfl, rfl⟩, hl.push _⟩ (by omega) fun us h₁ tk₁ hlen hp st₁ hk₁ => ?_))
    have eu : us = items.toList := by
      apply List.ext_getElem?
      intro j
      cases e : us[j]? with
      | none =>
        have := List.getElem?_eq_none_iff.mp e
        rw [List.getElem?_eq_none (by rw [Array.length_toList]; omega)]
      | some u =>
        have := hp j u e
        rw [Nat.zero_add] at this
        rw [Array.getElem?_toList]; exact this.symm
    subst eu
    rw [if_neg (by simp)]
    rw [Nat.zero_add] at st₁
    refine wpAny_bind (wpAny_holding (W.done _ _ _ st₁ fun h₂ tk₂ hk₂ => ?_))
    simp only [Option.isSome_none, Bool.false_eq_true, if_false]
    refine wpAny_pure (hQ h₂ tk₂ fun b o e => ?_)
    have hb : b ∉ [s.heap.objs.size] := fun z => by
      have := Heap.lt_size e
      rw [List.mem_singleton.mp z] at this
      exact Nat.lt_irrefl _ this
    exact hk₂ b o hb (hk₁ b o hb (Heap.get?_push_of_some _ e))
theorem assign_Tuple_list {env : PySem.Env} {elts : List Expr} {x1} {pos : Pos} {s : Shared} {l : Addr} {items : Array Value} {Q : Unit → Shared → Prop} (hh : A.handled = none) (hl : s.heap.IsList l items)
    (hn : (assignEach elts env).length = items.size) (hstar : (assignEach elts env).findIdx? (·.1) = none)
    (h : ∀ h' tk, (∀ b o, s.heap.get? b = some o → h'.get? b = some o) → wpAny (model prog w) A (assignInOrder ((assignEach elts env).map (·.2)) items.toList) Q E { s with heap := h', toks := tk }) :
    wpAny (model prog w) A (assign (.Tuple elts x1 pos) env (.ref l)) Q E s := by
  rw [assign_Tuple]
  refine wpAny_bind (wpAny_standAt ?_)
  unfold unpack
  rw [hn, hstar]
  exact wpAny_bind (wpAny_holding (unpackItems_list hh hl h))
end
section
variable {K : PySem.W.Frag} {E : XK} {X : Cx} {pos : Pos} {es : List Expr} {gs : TGs} {mgs : List D → En → AH → R En}
/-- (a, b, ..) = a tuple or a list of that length -/
def gSeqT (K : PySem.W.Frag) (n : Nat) (t : TGs) : TG := fun v σ H Q => ∃ a xs, v = .ref a ∧ (SqL K H a xs ∨ SqT K H a xs) ∧ xs.length = n ∧ t xs σ H Q
theorem pg_seqT {k : Nat} {t : TGs} {n : Nat} (hc : X.calm = true) (h : PGs X es t)
    (hn : (assignEach es X.env).length = n := by rfl) (hst : (assignEach es X.env).findIdx? (·.1) = none := by rfl) : PG X (.Tuple es k pos) (gSeqT X.K n t) := by
  refine ⟨fun pins s σ H v u Q I r hw => ?_⟩
  obtain ⟨a, xs, e1, hq, hl, hw⟩ := hw
  rcases hq with hq | hq
  · subst e1
    cases r
    obtain ⟨its, rv, ht, hz⟩ := I.list hq
    refine assign_Tuple_list (I.ok.hd hc) ht.isList (by simp [hn, ← hl, rv.length]) hst fun h' tk hx => ?_
    have I1 : Inv X pins σ H { s with heap := h', toks := tk } := I.kept (t' := tk) hx
    exact h.run pins _ σ H xs _ Q I1 (by simpa using rv) hw
  · exact (pg_tup hc h hn hst).run pins s σ H v u Q I r ⟨a, xs, e1, hq, hl, hw⟩
def mgSeq (n : Nat) (m : List D → En → AH → R En) : MG := fun d env h => match spreadD d h with
  | some ds => if ds.length = n then m ds env h else .bad
  | none => .bad
theorem sg_seqT {n : Nat} (ha : SdGs K E gs mgs) : SdG K E (gSeqT K n gs) (mgSeq n mgs) := fun ρ P σ H env h d v s re w Q p => by
  unfold mgSeq at p
  split at p
  · rename_i ds e
    split at p
    · rename_i hl
      obtain ⟨a, vs, rfl, hsq, r⟩ := spreadD_ok s w e
      exact ⟨_, _, rfl, hsq, by rw [r.length]; exact hl, ha _ _ _ _ _ _ _ _ s re r Q p⟩
    · exact p.elim
  · exact p.elim
theorem jg_seqT {kk : Nat} {n : Nat} (h : JGs K E X es gs mgs) (hc : X.calm = true := by rfl) (hn : (assignEach es X.env).length = n := by rfl) (hst : (assignEach es X.env).findIdx? (·.1) = none := by rfl) : JG K E X (.Tuple es kk pos) (gSeqT K n gs) (mgSeq n mgs) := by
  obtain ⟨hK, hp, hq⟩ := h
  subst hK
  exact ⟨rfl, pg_seqT hc hp hn hst, sg_seqT hq⟩
theorem gw_seqT {vs : List Nat} {n : Nat} (b : GWs vs gs) : GW vs (gSeqT K n gs) := fun v σ H Q q => by
  obtain ⟨a, xs, e, h1, h2, q⟩ := q
  exact ⟨a, xs, e, h1, h2, b _ _ _ _ q⟩
end
end Ab

/-! One rule for texts and numbers, lists and tuples: int(x), x[a:b], x + y; a tuple once. -/
namespace Ab
open PySem PySem.Spec L2 PyProof.Rows
theorem tuple_mul1 (l : Addr) (items : Array Value) (n : Nat) (dd : Option Addr) (sl : Array (Option Value)) (u : Tok) :
    Meets (Builtin.«tuple.__mul__» ⟨[.ref l, .int 1 u], []⟩) (fun _ R s => s.heap.get? l = some { cls := .type "tuple", dict := dd, data := .seq items n, slots := sl } ∧
      R (.ok (.ret (Value.ref l))) s) :=
  .of_wp fun prog w A R s h => by
    obtain ⟨hp, g, d, tk, os⟩ := s
    obtain ⟨hl, h⟩ := h
    have f1 := AutoSeq1.idx_int
    wp_walk using wpAny_loadPart' hl
    repeat (first
      | (refine wpAny_ite_false (by decide) ?_; wp_walk using wpAny_loadPart' hl)
      | (refine wpAny_ite_true (by simp) ?_; wp_walk using wpAny_loadPart' hl))
    exact ⟨_, rfl, h⟩
section
variable {K : PySem.W.Frag} {E : XK} {ρ ρ' ρ1 : Ro} {P H P' H' P1 H1 : Hp} {X : Cx} {k : Nat}
/-- tuple * 1 -/
def rRep1 (K : PySem.W.Frag) : R2 := fun x y H Q => ∃ l xs, x = .ref l ∧ y = .int 1 ∧ SqT K H l xs ∧ xs.length ≤ 1000 ∧ Q (.ref l) H
theorem op_rep1 : OpR X (binaryOp .Mult) (rRep1 X.K) := by
  intro pins s σ H x y v u Q I rx ry h
  obtain ⟨l, xs, rfl, rfl, hT, hz, q⟩ := h
  cases rx
  obtain ⟨t, rfl⟩ := ry
  obtain ⟨its, r, ⟨⟨cls, dd, data, sl⟩, ho, hc, n, hd⟩, hs⟩ := I.tuple hT
  simp only at hc hd
  subst hc hd
  refine wpAny_binaryOp_repeat_ref (T := "tuple") (U := "int") (by decide) ⟨_, ho, rfl⟩ (fun s' => typeIs_int s' 1 t) noFill_tuple_mul F.fills_int_mul F.slot_int_rmul repeat_tuple F.slot_int_index.lookup
    (call_meets F.slot_int_rmul (typeIs_int s 1 t) F.entry_int_rmul (F.args_int_rmul_2 _ _) (int_rmul_tuple 1 t l its.toArray n dd sl)
      ⟨ho, rfl, ⟨_, ho, rfl⟩, call_meets F.slot_tuple_mul ⟨_, ho, rfl⟩ F.entry_tuple_mul (F.args_tuple_mul_2 _ _) (tuple_mul1 l its.toArray n dd sl t) ⟨ho, ?_⟩⟩)
  exact ⟨.ref l, H, I, rfl, q⟩
def mulUD : D → D → AH → R D
  | .tup xs, .int 1, h => if xs.length ≤ 1000 then .ok (.tup xs) h else .bad
  | a, b, h => mulD a b h
theorem os_mulU : OpS K E (fun x y H Q => rMulU K x y H Q ∨ rRep1 K x y H Q) mulUD := fun ρ P H h x y dx dy s wx wy Q p => by
  unfold mulUD at p
  split at p
  · split at p
    · rename_i hl
      cases wx with
      | tup q r =>
        cases wy
        exact .inr ⟨_, _, rfl, rfl, sqT_tk s.sub q, by rw [r.length]; exact hl, Post.here p s (.tup q r)⟩
    · exact p.elim
  · exact .inl (os_mul ρ P H h x y _ _ s wx wy Q p)
variable {a b e : Expr} {ta tb te : TE} {ma mb : M D} {pos p2 : Pos} {lo hi : Option Expr} {tl th : TO} {ml mh : M (Option Int)}
theorem je_mulU (ha : JE K E X a ta ma) (hb : JE K E X b tb mb) : JE K E X (.BinOp a .Mult b pos) (tOp (fun x y H Q => rMulU K x y H Q ∨ rRep1 K x y H Q) ta tb) (mBin mulUD ma mb) := je_bin (by have := ha.k; subst this; exact op_mulU.or op_rep1) os_mulU ha hb
/-! int(x) -/
def intUD : List D → AH → R D
  | [.str x], h => intSD [.str x] h
  | ds, h => intD ds h
theorem jb_intU : JBf K E X (.type "int") (fun xs H Q => (∃ a n, xs = [.str a] ∧ PySem.intText? a = some n ∧ a.length ≤ 640 ∧ Q (.int n) H) ∨ ((∃ i, xs = [.int i] ∧ Q (.int i) H) ∨ ∃ k, xs = [.bl k] ∧ Q (.int (if k then 1 else 0)) H)) intUD := by
  refine ⟨CallR.or call_int_str call_int1, fun ρ P H h vs ds s w Q p => ?_⟩
  unfold intUD at p
  split at p
  · exact .inl (cb_intS ρ P H h vs _ s w Q p)
  · exact .inr (cb_int ρ P H h vs _ s w Q p)
/-! x[a:b] -/
theorem Post.newLst {h : AH} {ds : List D} {vs : List V} {Q : VK} (p : Post K (RV K) E ρ P H Q (.ok (.lst ds) h)) (s : SR K ρ P H h) (w : RepL K ρ P ds vs) : ∀ q, H q = none → Q (.ref q) (upd H q (.lst vs)) := fun q hq => by
  obtain ⟨s', t⟩ := s.pure hq (.lst vs)
  exact p _ _ _ _ t s' (.lst upd_same (w.step t))
def mSlU (m : M D) (lo hi : M (Option Int)) : M D := fun env h => (m env h).bind fun d h1 => (lo env h1).bind fun l h2 => (hi env h2).bind fun u h3 => match d with
  | .tup ds => .ok (.tup (cutL ds l u)) h3
  | d => (match seqD d h3 with
    | some ds => .ok (.lst (cutL ds l u)) h3
    | none => .bad)
theorem sd_slU (ha : Sd K (RV K) E te ma) (hl : Sd K (RQ (Option Int)) E tl ml) (hh : Sd K (RQ (Option Int)) E th mh) : Sd K (RV K) E (tSl (fun x lo hi H Q => rSlL K x lo hi H Q ∨ rSlA K x lo hi H Q) te tl th) (mSlU ma ml mh) := fun ρ P σ H env h s re Q p =>
  ha ρ P σ H env h s re _ (Post.bind p fun a h1 ρ1 P1 H1 v t1 s1 w1 p1 => hl _ _ _ _ _ _ s1 (re.step t1) _ (Post.bind p1 fun b h2 ρ2 P2 H2 u t2 s2 w2 p2 =>
    hh _ _ _ _ _ _ s2 ((re.step t1).step t2) _ (Post.bind p2 fun c h3 ρ3 P3 H3 x t3 s3 w3 p3 => by
      cases w2; cases w3
      have w4 := (w1.step t2).step t3
      have go : ∀ (p3 : Post K (RV K) E ρ3 P3 H3 Q (match seqD a h3 with
          | some ds => .ok (.lst (cutL ds b c)) h3
          | none => .bad)), rSlL K v b c H3 Q := fun p3 => by
        cases e : seqD a h3 with
        | none => rw [e] at p3; exact p3.elim
        | some ds =>
          rw [e] at p3
          obtain ⟨q, us, rfl, sq, r⟩ := seqD_sq s3 w4 e
          exact ⟨q, us, rfl, sq, Post.newLst p3 s3 (r.cutL _ _)⟩
      cases w4 with
      | tup q r =>
        refine .inr ⟨_, _, rfl, sqT_tk s3.sub q, fun e => ?_, fun _ => Post.newT p3 s3 (r.cutL _ _)⟩
        rw [r.length] at e
        have p3 : Post K (RV K) E ρ3 P3 H3 Q (.ok (.tup (cutL _ _ _)) h3) := p3
        rw [cutL_whole e] at p3
        exact Post.here p3 s3 (.tup q r)
      | _ => exact .inl (go p3))))
theorem je_slU (ha : JE K E X a ta ma) (hl : JO K E X lo tl ml) (hh : JO K E X hi th mh) : JE K E X (.Subscript a (.Slice lo hi none p2) pos) (tSl (fun x lo hi H Q => rSlL K x lo hi H Q ∨ rSlA K x lo hi H Q) ta tl th) (mSlU ma ml mh) := by
  obtain ⟨hK, hp, hq⟩ := ha
  subst hK
  exact ⟨rfl, pe_slice (sl_list.or sl_tupA) hp hl.p hh.p, sd_slU hq hl.s hh.s⟩
/-! x + y -/
def addUD (a b : D) (h : AH) : R D := match lstD a h, lstD b h with
  | some xs, some ys => if xs.length + ys.length ≤ sizeLine then .ok (.lst (xs ++ ys)) h else .bad
  | _, _ => addD a b h
theorem os_addU : OpS K E (fun x y H Q => rAddU K x y H Q ∨ rCat x y H Q) addUD := fun ρ P H h x y dx dy s wx wy Q p => by
  unfold addUD at p
  split at p
  · rename_i xs ys ea eb
    split at p
    · rename_i hl
      obtain ⟨a1, vs, rfl, q1, r1⟩ := lstD_ok s wx ea
      obtain ⟨b1, us, rfl, q2, r2⟩ := lstD_ok s wy eb
      exact .inr ⟨a1, b1, vs, us, rfl, rfl, q1, q2, by rw [r1.length, r2.length]; exact hl, Post.newLst p s (r1.append r2)⟩
    · exact p.elim
  · exact .inl (os_add ρ P H h x y _ _ s wx wy Q p)
theorem je_addU (ha : JE K E X a ta ma) (hb : JE K E X b tb mb) : JE K E X (.BinOp a .Add b pos) (tOp (fun x y H Q => rAddU K x y H Q ∨ rCat x y H Q) ta tb) (mBin addUD ma mb) := je_bin (by have := ha.k; subst this; exact op_addU.or op_cat) os_addU ha hb
end
end Ab

/-! xs.count(x), xs.index(x) of data. -/
namespace Ab
open PySem PySem.Spec L2 PyProof.Rows
section
variable {X : Cx}
/-- l.count(x) -/
def rCountD (K : PySem.W.Frag) : V → List V → Hp → VK → Prop := fun x xs H Q => ∃ (a : Addr) (y : V) (d : PyData) (ds : List PyData), x = V.ref a ∧ xs = [y] ∧ Dp K H (V.ref a) (.list ds) ∧ Dp K H y d ∧
  SeqAt.shaped (.list ds) = true ∧ SeqAt.shaped d = true ∧ Q (.int ((ds.countP fun z => PyData.eqv z d : Nat) : Int)) H
end
section
variable {K : PySem.W.Frag} {E : XK} {ρ : Ro} {P H : Hp} {X : Cx} {k : Nat}
def isLst (d : D) (h : AH) : Bool := match d with
  | .lst _ => true
  | .scr _ => true
  | .loc n => (match h[n]? with
    | some (.lst _) => true
    | _ => false)
  | _ => false
def pyOk (d : D) (h : AH) : Option PyData := match toPy h d with
  | some p => if SeqAt.shaped p = true then some p else none
  | none => none
def countD : D → List D → AH → R D := fun o ds h => match ds with
  | [d] => (match pyOk o h, pyOk d h with
    | some (.list ps), some p => .ok (.int ((ps.countP fun z => PyData.eqv z p : Nat) : Int)) h
    | _, _ => .bad)
  | _ => .bad
def firstAt (q : PyData) : Nat → List PyData → Option Nat
  | _, [] => none
  | i, z :: ps => if PyData.eqv z q = true then some i else firstAt q (i + 1) ps
def indexD : D → List D → AH → R D := fun o ds h => match ds with
  | [d] => (match pyOk o h, pyOk d h with
    | some (.list ps), some p => (match firstAt p 0 ps with
      | some j => .ok (.int (j : Nat)) h
      | none => .bad)
    | _, _ => .bad)
  | _ => .bad
end
end Ab

/-! x < y of whole numbers and of tuples of them. -/
namespace Ab
open PySem PySem.Spec L2
section
variable {K : PySem.W.Frag} {E : XK} {ρ : Ro} {P H : Hp} {X : Cx} {k : Nat}
def ltUD : D → D → AH → R D := fun a b h => match intsT a, intsT b with
  | some ns, some ms => .ok (.bl (lexI ns ms)) h
  | _, _ => cmpD (fun i j => decide (i < j)) a b h
end
end Ab

/-! dict(d): a copy of a dict whose keys are tuples (their hashes all unlike). -/
namespace PySem
section
variable {prog : Program} {w : World} {K : Type} [DecidableEq K] {knd : HeapKind prog w K} {A : Around} {E : Value → Shared → Prop} {s : Shared}
theorem kt_call_dictH (hu : ∀ A' : Around, A'.units ≤ A.units + 4 → knd.room A') {o : Addr} {more : List (K × Addr × Value)} {Q : Value → Shared → Prop} (hoS : (o == sysModules) = false) (ho : s.heap.DictOfH knd o more) (hsz : more.length ≤ sizeLine)
    (hty : ∀ h' : Shared, (∀ b u, s.heap.get? b = some u → h'.heap.get? b = some u) → ∀ x ∈ more, h'.TypeIs (.ref x.2.1) "tuple") (hst : ∀ h' : Heap, (∀ b u, s.heap.get? b = some u → h'.get? b = some u) → ∀ x ∈ more, knd.is h' x.1 x.2.1) (hap : (more.map fun x => knd.hash x.1).Nodup)
    (h : ∀ h', h'.DictOfH knd s.heap.objs.size more → Heap.SameBut s.heap.objs.size (s.heap.push { cls := .type "dict", data := .dict #[] }) h' → Q (.ref s.heap.objs.size) { s with heap := h' }) :
    wpAny (model prog w) A (call (.type "dict") [.ref o]) Q E s := by
  refine callType_codes (Q₁ := fun obj s₁ => obj = .ref s.heap.objs.size ∧ s₁ = { s with heap := s.heap.push { cls := .type "dict", data := .dict #[] } }) F.kt_called_dict (F.kt_typeCall_dict_1 _) F.entry_dict_init (kt_code_dict_new _ ⟨rfl, rfl⟩) ?_
  rintro obj s₁ ⟨rfl, rfl⟩
  have kp : ∀ b u, s.heap.get? b = some u → (s.heap.push { cls := .type "dict", data := .dict #[] }).get? b = some u := fun b u e => Heap.get?_push_of_some _ e
  have hnew : (s.heap.push { cls := .type "dict", data := .dict #[] }).DictOfH knd s.heap.objs.size [] := ⟨{ cls := .type "dict", data := .dict #[] }, #[], 0, Heap.get?_push_size _ rfl, by first | exact ⟨rfl, rfl⟩ | exact ⟨rfl, by decide⟩ | exact rfl | (unfold Obj.ExactDict; simp), rfl, rfl, fun x hx => absurd hx List.not_mem_nil, List.nodup_nil⟩
  have hn : (more.map (·.1)).Nodup := ho.nodup
  have hdo : s.heap.objs.size ≠ o := by
    obtain ⟨_, _, _, hg, _⟩ := ho
    exact fun e => absurd (Heap.lt_size hg) (by rw [e]; exact Nat.lt_irrefl _)
  have ho' : (s.heap.push { cls := .type "dict", data := .dict #[] }).DictOfH knd o more := by
    obtain ⟨oo, es, ep, h1, h2, h3, h4, _, h6⟩ := ho
    exact ⟨oo, es, ep, kp _ _ h1, h2, h3, h4, hst _ kp, h6⟩
  refine ⟨hnew.typeIs, F.args_dict_init_2 _ _, ?_⟩
  unfold Builtin.«dict.__init__»
  refine wpAny_bind ?_
  unfold Builtin.Dict.selfAndRest
  refine wpAny_bind (wpAny_notOrdered_dict hnew.typeIs ?_)
  show wpAny _ _ (pure (s.heap.objs.size, [Value.ref o])) _ _ _
  refine wpAny_pure ?_
  show wpAny _ _ (Builtin.Dict.updateFrom "dict.__init__" s.heap.objs.size (.ref o) [] .none) _ _ _
  unfold Builtin.Dict.updateFrom
  refine wpAny_bind (wpAny_typeOf ho'.typeIs ?_)
  rw [if_neg (by decide)]
  refine wpAny_bind ?_
  unfold Builtin.Dict.merge
  refine wpAny_bind ?_
  unfold Builtin.Dict.readDirectly
  refine wpAny_bind (wpAny_isInstance ho'.typeIs isSubtype_dict_dict ?_)
  simp only [Bool.not_true, Bool.false_eq_true, if_false]
  refine wpAny_bind (wpAny_specialOf ho'.typeIs F.slot_dict_iter.lookup (wpAny_pure ?_))
  simp only [beq_self_eq_true, if_true]
  refine wpAny_bind (wpAny_pure ?_)
  refine wpAny_mergeDict_heap (hsz := by simpa using hsz) (hu _ ?_) hdo hoS hnew ho' (.inr ⟨hty _ kp, hap⟩) fun h' hd' _ hs' => ?_
  · first
      | exact Nat.le_refl _
      | (simp only [Around.in1]; omega)
      | trace_state
  show wpAny _ _ (Builtin.Dict.addKeywords s.heap.objs.size [] >>= _) _ _ _
  rw [storedAllH_nil_of_nodup more hn] at hd'
  exact wpAny_bind (wpAny_pure (wpAny_pure ⟨rfl, h h' hd' hs'⟩))
end
end PySem
namespace Ab
open PySem PySem.Spec L2 PyProof.Rows
section
variable {X : Cx}
/-- the hash of a tuple of whole numbers -/
def hashI (ns : List Int) : Int := reduceHash (Builtin.Tuple.tupleHashOf (ns.map hashInt))
theorem hash_kI {P : Program} {w : World} (ns : List Int) : (tupleKind (mixKind P w)).hash (ns.map Sum.inl) = hashI ns := by
  show reduceHash (Builtin.Tuple.tupleHashOf ((ns.map Sum.inl).map (keyH w))) = _
  rw [List.map_map]
  rfl
def rDictT : List V → Hp → VK → Prop := fun xs H Q => ∃ (a : Addr) (kvs : List (List Key × V)) (ks : List (List Int)), xs = [.ref a] ∧ Rd H a (.dT kvs) ∧ kvs.map (·.1) = ks.map (fun ns => ns.map Sum.inl) ∧ (ks.map hashI).Nodup ∧ ∀ p, H p = none → Q (.ref p) (upd H p (.dT kvs))
theorem kt_keys {H : Hp} : ∀ {kvs : List (List Key × V)} {xs : List (List Key × Addr × Value)}, KT H kvs xs → xs.map (·.1) = kvs.map (·.1)
  | _, _, .nil => rfl
  | _, _, .cons h t => by rw [List.map_cons, List.map_cons, kt_keys t, h.1]
theorem call_dict_dT (hu : X.A.units + 5 < cLine) : CallR X (.type "dict") rDictT := by
  intro pins s σ H xs us Q I r q
  obtain ⟨a, kvs, ks, ex, hd, ek, hh, q⟩ := q
  subst ex
  obtain ⟨u, eu, rx⟩ := vals1 r
  subst eu
  cases rx
  obtain ⟨z, lo, ys, rel, dd⟩ := dt_rd I.hok hd
  have ey := kt_keys rel
  have st : ∀ h' : Heap, (∀ b u, s.heap.get? b = some u → h'.get? b = some u) → ∀ x ∈ ys, (tupleKind (mixKind X.prog X.w)).is h' x.1 x.2.1 := fun h' kp x hx => by
    obtain ⟨_, _, _, _, _, _, _, hi, _⟩ := dd
    obtain ⟨o, its, n, h1, h2, h3, h4⟩ := hi x hx
    exact ⟨o, its, n, kp _ _ h1, h2, h3, h4⟩
  refine kt_call_dictH (knd := tupleKind (mixKind X.prog X.w)) (fun A' h => by show A'.units < cLine; omega) lo dd (by
    have : ys.length = kvs.length := by
      have := congrArg List.length ey
      simpa using this
    rw [this]; exact z) (fun s' kp x hx => IsTupleKey.typeIs (st s'.heap kp x hx)) st (by
      have : (ys.map fun x => (tupleKind (mixKind X.prog X.w)).hash x.1) = ks.map hashI := by
        have e2 : (ys.map fun x => (tupleKind (mixKind X.prog X.w)).hash x.1) = (ys.map (·.1)).map (tupleKind (mixKind X.prog X.w)).hash := by rw [List.map_map]; rfl
        rw [e2, ey, ek, List.map_map]
        exact List.map_congr_left fun ns _ => hash_kI ns
      rw [this]; exact hh) fun h' d' hs => ?_
  have hm : (s.heap.objs.size == sysModules) = false := beq_eq_false_iff_ne.mpr (Nat.ne_of_gt I.big)
  obtain ⟨o, es, ep, h1, h2, h3, h4, _, h6⟩ := d'
  have fr : H s.heap.objs.size = none := I.hok.fresh (Nat.le_refl _)
  have kt : ∀ {o : HO} {kvs : List (List Key × V)} {xs : List (List Key × Addr × Value)}, KT H kvs xs → KT (upd H s.heap.objs.size o) kvs xs := by
    intro o kvs xs q
    induction q with
    | nil => exact .nil
    | cons h t ih => exact .cons ⟨h.1, upd_keep fr _ _ h.2.1, h.2.2⟩ ih
  exact ⟨.ref s.heap.objs.size, upd H s.heap.objs.size (.dT kvs), I.laid (t' := s.toks) (fun b u e => (hs.2 b (Nat.ne_of_lt (Heap.lt_size e))).trans (Heap.get?_push_of_some _ e)) (Nat.le_refl _)
    (show ObjOk X.prog X.w _ _ _ (.dT kvs) from ⟨z, hm, ys, kt rel, o, es, ep, h1, h2, h3, h4, h6⟩), rfl, q _ fr⟩
end
section
variable {K : PySem.W.Frag} {E : XK} {ρ : Ro} {P H : Hp} {X : Cx} {k : Nat}
/-- keys of whole numbers -/
def keyZ : List Key → Option (List Int)
  | [] => some []
  | .inl i :: r => (keyZ r).map (i :: ·)
  | .inr _ :: _ => none
def keysZ : List (List Key) → Option (List (List Int))
  | [] => some []
  | k :: r => match keyZ k, keysZ r with
    | some a, some b => some (a :: b)
    | _, _ => none
theorem keyZ_ok : ∀ {k : List Key} {ns : List Int}, keyZ k = some ns → k = ns.map Sum.inl
  | [], ns, e => by cases e; rfl
  | .inl i :: r, ns, e => by
    simp only [keyZ] at e
    cases q : keyZ r with
    | none => rw [q] at e; cases e
    | some a => rw [q] at e; cases e; rw [keyZ_ok q]; rfl
  | .inr _ :: _, ns, e => by cases e
theorem keysZ_ok : ∀ {ks : List (List Key)} {l : List (List Int)}, keysZ ks = some l → ks = l.map fun ns => ns.map Sum.inl
  | [], l, e => by cases e; rfl
  | k :: r, l, e => by
    simp only [keysZ] at e
    cases q1 : keyZ k with
    | none => rw [q1] at e; cases e
    | some a =>
      cases q2 : keysZ r with
      | none => rw [q1, q2] at e; cases e
      | some b => rw [q1, q2] at e; cases e; rw [keyZ_ok q1, keysZ_ok q2]; rfl
def nodI : List Int → Bool
  | [] => true
  | x :: l => (l.all fun y => !decide (y = x)) && nodI l
theorem nodI_ok : ∀ {l : List Int}, nodI l = true → l.Nodup
  | [], _ => List.nodup_nil
  | x :: l, h => by
    simp only [nodI, Bool.and_eq_true, List.all_eq_true] at h
    exact List.nodup_cons.mpr ⟨fun q => by have := h.1 x q; simp at this, nodI_ok h.2⟩
/-- dict(d) of tuples of whole numbers, all of other hashes -/
def dictD : List D → AH → R D := fun ds h => match ds with
  | [d] => (match dctD d h with
    | some kvs => (match keysZ (kvs.map (·.1)) with
      | some ks => if nodI (ks.map hashI) = true then .ok (.loc h.length) (h ++ [.dct kvs]) else .bad
      | none => .bad)
    | none => .bad)
  | _ => .bad
theorem cb_dict : CbS K E (rDictT) dictD := fun ρ P H h vs ds s w Q p => by
  unfold dictD at p
  split at p
  · obtain ⟨v, rfl, r⟩ := w.one
    split at p
    · rename_i kvs ed
      split at p
      · rename_i ks eks
        split at p
        · rename_i hn
          obtain ⟨a, kws, rfl, rd, e4, rv⟩ := dctD_ok s r ed
          refine ⟨a, kws, ks, rfl, rd, by rw [e4]; exact keysZ_ok eks, nodI_ok hn, fun b hp => ?_⟩
          obtain ⟨s1, t⟩ := s.own hp (.dT kws)
          have np : P b = none := s.noP hp
          have nr : NoR ρ b := s.noR hp
          refine p (fun n => if n = h.length then some b else ρ n) P _ _ ⟨fun n c eb => ?_, t.pure, fun n c e0 eb => ?_, t.newp, t.keep, t.there⟩ (s1.number np nr ⟨kws, upd_same, e4, rv⟩) (.loc (by simp))
          · have z : n ≠ h.length := fun z => by rw [z, s.dom _ (Nat.le_refl _)] at eb; cases eb
            show (if n = h.length then some b else ρ n) = some c
            rw [if_neg z]; exact eb
          · have eb : (if n = h.length then some b else ρ n) = some c := eb
            split at eb
            · cases eb; exact hp
            · rw [e0] at eb; cases eb
        · exact p.elim
      · exact p.elim
    · exact p.elim
  · exact p.elim
theorem jb_dict (hr : Room k X.A) : JBf K E X (.type "dict") rDictT dictD := ⟨call_dict_dT (by have := hr.un; omega), cb_dict⟩
end
end Ab

/-! The head's facts, looked at in a part of the heap whose addresses are told. -/
namespace Ab
namespace Hd
open PySem PySem.W
def obsL (as : List Addr) (fb : List Fb) (fn : List He5.DefA) (g : Addr → Option Obj) : He.AlD := obsB fb fn (He.frG g as)
def hookL (as : List Addr) (fb : List Fb) (fn : List He5.DefA) : PySem.W.Hook where
  α := He.AlD
  obs := fun s => obsL as fb fn s.heap.get?
  val := fun _ => He5.valA fn
  says := fun _ h => ∃ K : Frag, K.In h ∧ SaysB fb fn K
  of := fun _ _ e => ⟨_, He.frG_in, e⟩
  keeps := fun _ _ _ ⟨K, hK, c⟩ k => ⟨K, Frag.In.keeps hK k, c⟩
theorem obsL_eq {as : List Addr} {fb : List Fb} {fn : List He5.DefA} {g : Addr → Option Obj} {s : Shared} (h : ∀ a, g a = s.heap.get? a) : obsL as fb fn g = (hookL as fb fn).obs s := by
  have e : g = s.heap.get? := funext h
  rw [e]
  rfl
end Hd
end Ab

/-! {**a, **b}: dicts put together. -/
namespace PySem
section
variable {prog : Program} {w : World} {K : Type} [DecidableEq K] {knd : HeapKind prog w K} {A : Around} {E : Value → Shared → Prop} {s : Shared}
end
end PySem

/-! {**a, **b}: the layer. -/
namespace Ab
open PySem PySem.Spec L2 PyProof.Rows HT
section
variable {K : PySem.W.Frag} {E : XK} {ρ ρ' ρ1 : Ro} {P H P' H' P1 H1 : Hp} {X : Cx} {ax bx e : Expr} {pos : Pos} {ta tb te : TE} {ma mb me : M D} {k : Nat}
def tMrg (ta tb : TE) : TE := fun σ H Q => ∀ p, H p = none → ta σ (upd H p (.dT [])) fun x H1 => ∃ (a : Addr) (kvs : List (List Key × V)) (ks : List (List Int)), x = .ref a ∧ a ≠ p ∧ Rd H1 a (.dT kvs) ∧ kvs.map (·.1) = ks.map (fun ns => ns.map Sum.inl) ∧ (ks.map hashI).Nodup ∧ kvs ≠ [] ∧ H1 p = some (.dT []) ∧
  tb σ (upd H1 p (.dT kvs)) fun y H2 => ∃ (b : Addr) (kws : List (List Key × V)), y = .ref b ∧ b ≠ p ∧ Rd H2 b (.dT kws) ∧ ((kvs ++ kws).map (·.1)).Nodup ∧ kvs.length + kws.length ≤ sizeLine ∧ H2 p = some (.dT kvs) ∧ Q (.ref p) (upd H2 p (.dT (kvs ++ kws)))
/-- {**a, **b} of dicts whose keys are unlike; nobody changes it -/
def mMrgF (ma mb : M D) : M D := fun env h => (ma env h).bind fun d h1 => match dctD d h1 with
  | some kvs => (match keysZ (kvs.map (·.1)) with
    | some ks => if kvs ≠ [] ∧ nodI (ks.map hashI) = true then (mb env h1).bind fun e h2 => (match dctD e h2 with
      | some kws => if ((kvs ++ kws).map (·.1)).Nodup ∧ kvs.length + kws.length ≤ sizeLine then .ok (.dic ((kvs ++ kws).map (·.1)) ((kvs ++ kws).map (·.2))) h2 else .bad
      | none => .bad) else .bad
    | none => .bad)
  | none => .bad
end
end Ab

/-! len(x) of an object whose class has __len__. -/
namespace Ab
open PySem PySem.Spec L2 PyProof.Rows PySem.Calls
section
variable {X : Cx} {c : Str} {k : Nat} {F : Fn}
def rLenO (C : Addr) (sp : Sp) : List V → Hp → VK → Prop := fun xs H Q => ∃ a dx fs, xs = [.ref a] ∧ H a = some (.ins C dx fs) ∧ sp [.ref a] H (fun v H' => ∃ i : Int, v = .int i ∧ 0 ≤ i ∧ i < 2 ^ 63 ∧ Q (.int i) H') E0
end
section
variable {K : PySem.W.Frag} {E : XK} {X : Cx} {c : Str} {k : Nat} {F : Fn}
def lenOD (c : Str) (F : Fn) : List D → AH → R D := fun ds h => match ds with
  | [.obj c' ns fs] => if c' = c then (match callP 1 F [.obj c' ns fs] h with
    | .ok (.int i) h1 => if 0 ≤ i ∧ i < 2 ^ 63 then .ok (.int i) h1 else .bad
    | _ => .bad) else .bad
  | _ => .bad
end
end Ab

/-! `[x for x in d]` over a dict that may change later: it is locked meanwhile. -/
namespace Ab
open PySem PySem.Spec L2 PyProof.Rows PySem.Calls
section
variable {K : PySem.W.Frag} {E : XK} {X : Cx}
/-- the keys of an owned dict -/
def mKeysV (i j : Nat) : M (List D) := fun env h => match env[i]? with
  | some (some (.loc n)) => (match h[n]? with
    | some (.dct kvs) => if kvs.length ≤ sizeLine ∧ j < env.length then .ok ((kvs.map (·.1)).map keyTD) h else .bad
    | _ => .bad)
  | _ => .bad
abbrev tKy (K : PySem.W.Frag) (i j : Nat) : TE := tLc (iU K (tVar i)) (gName j) tYes (tVar j) [j]
end
end Ab

/-! `range(i, j, -1)`. -/
namespace Ab
open PySem PySem.Spec L2 PyProof.Rows PySem.Calls
section
variable {K : PySem.W.Frag} {E : XK} {X : Cx} {ρ : Ro} {P H : Hp}
def dwnD (i j : Int) : List D := (List.range (i - j).toNat).map fun q => D.int (i + (q : Nat) * (-1))
def kR3 (ds : List D) (h : AH) : R AI := match ds with
  | [.int i, .int j, .int c] => if (InW i ∧ InW j) ∧ c = -1 then .ok (.items (dwnD i j)) h else .bad
  | _ => .bad
def miRng3 (m : M (List D)) : MI := fun env h => (m env h).bind kR3
end
end Ab

/-! A tuple and a list side by side. -/
namespace Ab
open PySem PySem.Spec L2 PyProof.Rows PySem.Calls
/-- the tuple at a with n1 items, the list at b with n2 -/
def ItzM (K : PySem.W.Frag) (a b : Addr) (n1 n2 : Nat) : It where
  go := fun i H => ∃ (xs ys : List V) (x y : V), (SqT K H a xs ∧ xs.length = n1 ∧ xs[i]? = some x) ∧ SqL K H b ys ∧ ys.length = n2 ∧ ys[i]? = some y
  yld := fun i H v H' => ∃ T x y, (v = .ref T ∧ H T = none ∧ H' = upd H T (.tup [x, y])) ∧ (∀ xs, SqT K H a xs → xs[i]? = some x) ∧ ∀ ys, SqL K H b ys → ys[i]? = some y
  stop := fun i H => (∃ xs : List V, SqT K H a xs ∧ xs.length = n1) ∧ (∃ ys : List V, SqL K H b ys ∧ ys.length = n2) ∧ (n1 ≤ i ∨ n2 ≤ i)
def iZipM (K : PySem.W.Frag) (ta : TA) : TI := fun σ H R => ta σ H fun vs H1 => ∃ a b xs ys, (vs = [.ref a, .ref b] ∧ SqT K H1 a xs ∧ SqL K H1 b ys) ∧ R (ItzM K a b xs.length ys.length) H1
section
variable {K : PySem.W.Frag} {E : XK} {ρ ρ' ρ1 : Ro} {P H P' H' P1 H1 : Hp}
def zipMA : List D → Option (List D)
  | [.tup xs, .lst ys] => some (zipD xs ys)
  | _ => none
def kZipM (ds : List D) (h : AH) : R AI := match zipMA ds with
  | some l => .ok (.items l) h
  | none => .bad
def miZipM (m : M (List D)) : MI := fun env h => (m env h).bind kZipM
variable {X : Cx} {e e2 : Expr} {t : TA} {m : M (List D)} {pos pn tpos : Pos} {elts : List Expr} {kk : Nat}
end
end Ab

/-! A dict of the module with text keys and whole numbers; a try whose body raises nothing. -/
namespace Ab
namespace Hd
open PySem PySem.W
abbrev AlM : Type := He.AlD × List (Option (List (Option (Str × Int))))
def obsM (as : List Addr) (fb : List Fb) (fn : List He5.DefA) (ts : List He.Tab) (g : Addr → Option Obj) : AlM := (obsB fb fn (He.frG g as), ts.map fun t : He.Tab => He.dicW (He.frG g as) (t.1 (He.frG g as)))
def SaysM (fb : List Fb) (fn : List He5.DefA) (ts : List He.Tab) (w : World) (K : Frag) : Prop := SaysB fb fn K ∧ (ts.map fun t : He.Tab => He.dicW K (t.1 K)) = ts.map fun t : He.Tab => some (He.keysIn w.params t.2)
def valM (fn : List He5.DefA) (ts : List He.Tab) (w : World) : AlM := (He5.valA fn, ts.map fun t : He.Tab => some (He.keysIn w.params t.2))
def hookM (as : List Addr) (fb : List Fb) (fn : List He5.DefA) (ts : List He.Tab) : PySem.W.Hook where
  α := AlM
  obs := fun s => obsM as fb fn ts s.heap.get?
  val := fun w => valM fn ts w
  says := fun w h => ∃ K : Frag, K.In h ∧ SaysM fb fn ts w K
  of := fun w s e => ⟨He.frG s.heap.get? as, He.frG_in, (congrArg Prod.fst e : _), (congrArg Prod.snd e : _)⟩
  keeps := fun _ _ _ ⟨K, hK, c⟩ k => ⟨K, Frag.In.keeps hK k, c⟩
def tabB (c : Str) (kv : List (Str × Int)) : Fb := fun K => kv.all fun p => match nsIn K (He.ga K c) p.1 with
  | some (some (.int i _)) => decide (i = p.2)
  | _ => false
end Hd
open PySem PySem.Spec L2 PyProof.Rows PySem.Calls
/-- the module's table c has these keys and numbers (some of them) -/
structure Kd (K : PySem.W.Frag) (w : World) (c : Str) (kv : List (Str × Int)) : Prop where
  d : ∃ es n, KDict K w (He.ga K c) es n
  v : ∀ p ∈ kv, ∃ t, PySem.W.nsIn K (He.ga K c) p.1 = some (some (.int p.2 t))
section
variable {K : PySem.W.Frag} {E : XK} {X : Cx} {c : Str} {kv : List (Str × Int)}
def getS (kv : List (Str × Int)) (z : Str) : Option Int := (kv.find? fun p => decide (p.1 = z)).map (·.2)
def inGD (neg : Bool) (c : Str) (kv : List (Str × Int)) : D → D → AH → R D
  | .str z, .glo g, h => if g = c ∧ (getS kv z).isSome = true then .ok (.bl (!neg)) h else .bad
  | _, _, _ => .bad
def ixGD (c : Str) (kv : List (Str × Int)) : D → D → AH → R D
  | .glo g, .str z, h => if g = c then (match getS kv z with
    | some i => .ok (.int i) h
    | none => .bad) else .bad
  | _, _, _ => .bad
abbrev rIxG (K : PySem.W.Frag) (c : Str) : R2 := fun x y H Q => ∃ (z : Str) (u0 : Value) (v0 : V), x = .ref (He.ga K c) ∧ y = .str z ∧ PySem.W.nsIn K (He.ga K c) z = some (some u0) ∧ RelV v0 u0 ∧ Q v0 H
/-! a try whose body raises nothing -/
def mTry (m : MS) : MS := fun env h => match m env h with
  | .exc _ _ _ => .bad
  | r => r
end
end Ab

/-! len(set(t)) of a tuple of whole numbers. -/
namespace Ab
open PySem PySem.Spec L2 PyProof.Rows PySem.Calls
section
variable {K : PySem.W.Frag} {E : XK} {X : Cx}
/-- each once -/
def onceI (ns : List Int) : List Int := ns.foldl (fun a x => if x ∈ a then a else a ++ [x]) []
def tLenSetT (K : PySem.W.Frag) (ta : TE) : TE := fun σ H Q => ta σ H fun x H1 => ∃ (l : Addr) (ns : List Int), (x = .ref l ∧ ns.length ≤ 1000) ∧ SqT K H1 l (ns.map V.int) ∧ Q (.int ((onceI ns).length : Nat)) H1
def kLenSet (d : D) (h : AH) : R D := match d with
  | .tup ds => (match intsD ds with
    | some ns => if ns.length ≤ 1000 then .ok (.int ((onceI ns).length : Nat)) h else .bad
    | none => .bad)
  | _ => .bad
def mLenSet (m : M D) : M D := fun env h => (m env h).bind kLenSet
end
end Ab

/-! `x is True` of truths. -/
namespace Ab
open PySem PySem.Spec L2 PyProof.Rows PySem.Calls
section
variable {K : PySem.W.Frag} {E : XK} {X : Cx}
def isBD (neg : Bool) : D → D → AH → R D
  | .bl a, .bl b, h => .ok (.bl (if neg then !decide (a = b) else decide (a = b))) h
  | _, _, _ => .bad
end
end Ab

/-! `[x for x in d if x != y]` over a dict that may change later. -/
namespace Ab
open PySem PySem.Spec L2 PyProof.Rows PySem.Calls
section
variable {K : PySem.W.Frag} {E : XK} {X : Cx}
def keyPy : Key → PyData
  | .inl i => .int i
  | .inr x => .str x
def keyDy (k : List Key) : PyData := .tuple (k.map keyPy)
abbrev keepK (q : PyData) (kv : List Key × D) : Bool := !PyData.eqv (keyDy kv.1) q
def mKeysNe (i j k : Nat) : M (List D) := fun env h => match env[i]?, env[k]? with
  | some (some (.loc n)), some (some dk) => (match h[n]?, toPy0 dk with
    | some (.dct kvs), some q => if (kvs.length ≤ sizeLine ∧ j < env.length ∧ j ≠ k) ∧ SeqAt.shaped q = true ∧ (kvs.all fun kv => SeqAt.shaped (keyDy kv.1)) = true then .ok (((kvs.filter (keepK q)).map (·.1)).map keyTD) h else .bad
    | _, _ => .bad)
  | _, _ => .bad
abbrev tKyNe (K : PySem.W.Frag) (i j k : Nat) : TE := tLc (iU K (tVar i)) (gName j) (tTest (tOp (rNeU K) (tVar j) (tVar k))) (tVar j) [j]
end
end Ab

/-! Dicts whose keys are tuples of tuples of whole numbers, over the model. -/
namespace Ab
open PySem PySem.Spec L2 PyProof.Rows
def nkOf (k : List (List Int)) : NestedKey := .tup (k.map fun t => .tup (t.map .num))
theorem hashes_map {α : Type} (w : World) (f : α → NestedKey) : ∀ l : List α, NestedKey.hashes w (l.map f) = l.map fun a => (f a).hash w
  | [] => rfl
  | a :: l => by rw [List.map_cons, List.map_cons, NestedKey.hashes, hashes_map w f l]
theorem hash_of (w : World) (k : List (List Int)) : (nkOf k).hash w = hash2 k := by
  have e : ∀ t : List Int, NestedKey.hash w (.tup (t.map .num)) = reduceHash (Builtin.Tuple.tupleHashOf (t.map hashInt)) := fun t => by
    rw [NestedKey.hash, hashes_map]; rfl
  unfold nkOf hash2
  rw [NestedKey.hash, hashes_map]
  simp only [e]
theorem num_inj : ∀ {a b : List Int}, a.map NestedKey.num = b.map NestedKey.num → a = b
  | [], [], _ => rfl
  | x :: a, y :: b, e => by
    injection e with e1 e2
    injection e1 with e1
    rw [e1, num_inj e2]
  | [], _ :: _, e => by cases e
  | _ :: _, [], e => by cases e
theorem nk_inj {a b : List (List Int)} (e : nkOf a = nkOf b) : a = b := by
  unfold nkOf at e
  injection e with e
  have go : ∀ {a b : List (List Int)}, (a.map fun t => NestedKey.tup (t.map .num)) = (b.map fun t => NestedKey.tup (t.map .num)) → a = b := by
    intro a
    induction a with
    | nil => intro b e; cases b with
      | nil => rfl
      | cons _ _ => cases e
    | cons x a ih =>
      intro b e
      cases b with
      | nil => cases e
      | cons y b =>
        injection e with e1 e2
        injection e1 with e1
        rw [num_inj e1, ih e2]
  exact go e
theorem depth_all {α : Type} (f : α → NestedKey) (c : Nat) (h : ∀ a, (f a).depth ≤ c) : ∀ l : List α, NestedKey.depthAll (l.map f) ≤ c
  | [] => Nat.zero_le _
  | a :: l => by
    rw [List.map_cons, NestedKey.depthAll]
    exact Nat.max_le.mpr ⟨h a, depth_all f c h l⟩
theorem depth_of (k : List (List Int)) : (nkOf k).depth ≤ 8 := by
  have e : ∀ t : List Int, (NestedKey.tup (t.map NestedKey.num)).depth ≤ 1 := fun t => by
    rw [NestedKey.depth]
    have := depth_all NestedKey.num 0 (fun a => by rw [NestedKey.depth]; exact Nat.le_refl _) t
    omega
  unfold nkOf
  rw [NestedKey.depth]
  have := depth_all (fun t : List Int => NestedKey.tup (t.map .num)) 1 e k
  omega
section
variable {P : Program} {w : World} {H H' : Hp} {h : Heap} {a b : Addr}
theorem nested_ints {h : Heap} : ∀ {t : List Int} {its : List Value}, Vals (t.map V.int) its → NestedAll h (t.map NestedKey.num) its
  | [], _, .nil => .nil
  | i :: t, _, .cons r q => by
    obtain ⟨k, rfl⟩ := r
    exact .cons (.int i k) (nested_ints q)
theorem is_of {k : List (List Int)} (ok : HOk P w H h) (e : NK H b k) : (nestedKind P w).is h (nkOf k) b := by
  obtain ⟨cs, eb, l, q⟩ := e
  obtain ⟨_, its, r, o, h1, h2, n, h3⟩ := (show ObjOk P w H h b (.tup (cs.map V.ref)) from ok b _ eb)
  have all : ∀ {cs : List Addr} {k : List (List Int)} {its : List Value}, cs.length = k.length → (∀ p ∈ cs.zip k, H p.1 = some (.tup (p.2.map V.int))) → Vals (cs.map V.ref) its → NestedAll h (k.map fun t => NestedKey.tup (t.map .num)) its := by
    intro cs
    induction cs with
    | nil =>
      intro k its l q r
      cases k with
      | nil => cases r; exact .nil
      | cons _ _ => cases l
    | cons c cs ih =>
      intro k its l q r
      cases k with
      | nil => cases l
      | cons t k =>
        cases r with
        | cons rc r =>
          cases (show _ = Value.ref c from rc)
          obtain ⟨_, its2, r2, o2, g1, g2, n2, g3⟩ := (show ObjOk P w H h c (.tup (t.map V.int)) from ok c _ (q (c, t) (by simp)))
          exact .cons (.tup g1 g2 g3 (by simpa using nested_ints r2)) (ih (by simpa using l) (fun p hp => q p (by rw [List.zip_cons_cons]; exact List.mem_cons_of_mem _ hp)) r)
  exact ⟨.tup h1 h2 h3 (by simpa using all l q r), depth_of k⟩
/-- the entries -/
def rowsN (xs : List (List (List Int) × Addr × V)) (ys : List Value) : List (NestedKey × Addr × Value) := (xs.zip ys).map fun p => (nkOf p.1.1, p.1.2.1, p.2)
def valN (xs : List (List (List Int) × Addr × V)) (k : List (List Int)) : Option V := (xs.find? fun x => decide (x.1 = k)).map (·.2.2)
theorem keys_rows : ∀ {xs : List (List (List Int) × Addr × V)} {ys : List Value}, xs.length = ys.length → (rowsN xs ys).map (·.1) = xs.map fun x => nkOf x.1
  | [], _, _ => rfl
  | x :: xs, [], l => by cases l
  | x :: xs, y :: ys, l => by
    show nkOf x.1 :: (rowsN xs ys).map (·.1) = _
    rw [keys_rows (by simpa using l)]; rfl
theorem nodup_nk {xs : List (List (List Int) × Addr × V)} (n : (xs.map (·.1)).Nodup) : (xs.map fun x => nkOf x.1).Nodup := by
  have : (xs.map fun x => nkOf x.1) = (xs.map (·.1)).map nkOf := by rw [List.map_map]; rfl
  rw [this]
  exact (List.pairwise_map.mpr (n.imp fun ne e => ne (nk_inj e)))
theorem val_rows {k : List (List Int)} : ∀ {xs : List (List (List Int) × Addr × V)} {ys : List Value}, Vals (xs.map (·.2.2)) ys → RelO (valN xs k) ((atKey (rowsN xs ys) (nkOf k)).map (·.2))
  | [], _, .nil => True.intro
  | x :: xs, u :: ys, .cons r q => by
    have ih := val_rows (k := k) q
    unfold valN atKey at ih ⊢
    show RelO (((x :: xs).find? fun x => decide (x.1 = k)).map (·.2.2)) ((((nkOf x.1, x.2.1, u) :: rowsN xs ys).find? fun x => decide (x.1 = nkOf k)).map (·.2) |>.map (·.2))
    rw [List.find?_cons, List.find?_cons]
    by_cases e : x.1 = k
    · have e2 : nkOf x.1 = nkOf k := by rw [e]
      simp only [e, e2, decide_true]
      exact r
    · have e2 : ¬ nkOf x.1 = nkOf k := fun z => e (nk_inj z)
      simp only [e, e2, decide_false]
      exact ih
theorem nd_rd {xs : List (List (List Int) × Addr × V)} (ok : HOk P w H h) (e : H a = some (NdO a xs)) (kk : ∀ x ∈ xs, NK H x.2.1 x.1) : (a == sysModules) = false ∧ xs.length ≤ sizeLine ∧ (xs.map (·.1)).Nodup ∧
    ∃ ys, Vals (xs.map (·.2.2)) ys ∧ h.DictOfH (nestedKind P w) a (rowsN xs ys) := by
  obtain ⟨h1, h2, h3, ys, r, o, es, ep, g1, g2, g3, g4⟩ := (ok a _ e).1
  have l : xs.length = ys.length := by have := r.length; rw [List.length_map] at this; exact this
  refine ⟨h1, h2, h3, ys, r, o, es, ep, g1, g2, g3, ?_, fun x hx => ?_, by rw [keys_rows l]; exact nodup_nk h3⟩
  · rw [g4]
    unfold rowsN
    rw [List.map_map]
    refine List.map_congr_left fun p _ => ?_
    show (⟨hash2 p.1.1, .ref p.1.2.1, p.2⟩ : DictEntry) = ⟨(nkOf p.1.1).hash w, .ref p.1.2.1, p.2⟩
    rw [hash_of]
  · obtain ⟨p, hp, rfl⟩ := List.mem_map.mp hx
    exact is_of ok (kk p.1 (List.of_mem_zip hp).1)
end
section
variable {X : Cx} {pins : List (Addr × Obj)} {σ : L2.St} {H : Hp} {s : Shared} {a b : Addr} {y v : V} {u r : Value} {A : Around} {E : Value → Shared → Prop} {xs : List (List (List Int) × Addr × V)} {k : List (List Int)}
theorem n_getItem {Q : Value → Shared → Prop} (hu : A.units + 9 < cLine) (I : Inv X pins σ H s) (e : H a = some (NdO a xs)) (kk : ∀ x ∈ xs, NK H x.2.1 x.1) (ek : NK H b k) (ev : valN xs k = some v) (q : ∀ w' s', Inv X pins σ H s' → RelV v w' → Q w' s') :
    wpAny (model X.prog X.w) A (getItem (.ref a) (.ref b)) Q E s := by
  obtain ⟨h1, h2, h3, ys, rr, dd⟩ := nd_rd I.hok e kk
  obtain ⟨w', hw, rw'⟩ := RelO.some_of (v := v) (o := (atKey (rowsN xs ys) (nkOf k)).map (·.2)) (by rw [← ev]; exact val_rows rr)
  obtain ⟨p, hp, hp2⟩ := Option.map_eq_some_iff.mp hw
  refine wpAny_getItem_heap (knd := nestedKind X.prog X.w) (show A.in1.units + 8 < cLine by show A.units + 1 + 8 < cLine; omega) (is_of I.hok ek) dd hp ?_
  rw [hp2]
  exact q w' _ (I.tok _) rw'
theorem n_notIn {Q : Value → Shared → Prop} (hu : A.units + 9 < cLine) (I : Inv X pins σ H s) (e : H a = some (NdO a xs)) (kk : ∀ x ∈ xs, NK H x.2.1 x.1) (ek : NK H b k) (q : ∀ s', Inv X pins σ H s' → Q (.bool (!(valN xs k).isSome)) s') :
    wpAny (model X.prog X.w) A (compareOp .NotIn (.ref b) (.ref a)) Q E s := by
  obtain ⟨h1, h2, h3, ys, rr, dd⟩ := nd_rd I.hok e kk
  refine wpAny_notIn_heap (knd := nestedKind X.prog X.w) (show A.in1.units + 8 < cLine by show A.units + 1 + 8 < cLine; omega) (is_of I.hok ek) h1 dd ?_
  have z := (val_rows (k := k) rr).isSome_eq
  rw [Option.isSome_map] at z
  rw [← z]
  exact q _ (I.tok _)
theorem n_get {Q : Value → Shared → Prop} (hu : X.A.units + 40 < cLine) (I : Inv X pins σ H s) (e : H a = some (NdO a xs)) (kk : ∀ x ∈ xs, NK H x.2.1 x.1) (ek : NK H b k) (q : ∀ w' s', Inv X pins σ H s' → RelV ((valN xs k).getD .non) w' → Q w' s') :
    wpAny (model X.prog X.w) X.A (call (.builtin "dict.get") [.ref a, .ref b]) Q E s := by
  obtain ⟨h1, h2, h3, ys, rr, dd⟩ := nd_rd I.hok e kk
  refine call_meetsIn F.slot_dict_get dd.typeIs F.entry_dict_get (F.args_dict_get_2 _ _) (meetsH_dict_get (nestedKind X.prog X.w) a b h1) ⟨?_, nkOf k, rowsN xs ys, is_of I.hok ek, dd, ?_⟩
  · show _ + 8 < cLine
    simp only [Around.in1, Around.under]
    omega
  · have z := val_rows (k := k) rr
    refine q _ _ (I.tok _) ?_
    cases h1 : valN xs k with
    | none =>
      rw [h1] at z
      cases h2 : (atKey (rowsN xs ys) (nkOf k)).map (·.2) with
      | none => exact rfl
      | some v => rw [h2] at z; exact z.elim
    | some v =>
      rw [h1] at z
      cases h2 : (atKey (rowsN xs ys) (nkOf k)).map (·.2) with
      | none => rw [h2] at z; exact z.elim
      | some v' => rw [h2] at z; exact z
end
end Ab

/-! Dicts whose keys are tuples of tuples: what is put, and the abstract layer. -/
namespace Ab
open PySem PySem.Spec L2 PyProof.Rows
abbrev NdL := List (List (List Int) × Addr × V)
section
variable {X : Cx} {pins : List (Addr × Obj)} {σ : L2.St} {H : Hp} {s : Shared} {a b : Addr} {y v : V} {u r : Value} {A : Around} {E : Value → Shared → Prop} {xs : NdL} {k : List (List Int)}
theorem nd_new {Q : Unit → Shared → Prop} {h' : Heap} (I : Inv X pins σ H s) (e : H a = some (NdO a xs)) (nv : valN xs k = none) (l : xs.length < sizeLine) (rv : RelV v r) {ys : List Value} (rr : Vals (xs.map (·.2.2)) ys) (h1 : (a == sysModules) = false) (h3 : (xs.map (·.1)).Nodup) {t : Nat}
    (dd : h'.DictOfH (nestedKind X.prog X.w) a (storedH (rowsN xs ys) (nkOf k) b r)) (hs : Heap.SameBut a s.heap h') : Inv X pins σ (upd H a (NdO a (xs ++ [(k, b, v)]))) { s with heap := h', toks := t } := by
  have ln : xs.length = ys.length := by have := rr.length; rw [List.length_map] at this; exact this
  have none_ : atKey (rowsN xs ys) (nkOf k) = none := by
    have z := val_rows (k := k) rr
    rw [nv] at z
    cases q : atKey (rowsN xs ys) (nkOf k) with
    | none => rfl
    | some w' => rw [q] at z; exact z.elim
  rw [storedH_new none_] at dd
  obtain ⟨q, es, ep, hq, h2, hd, he, _, _⟩ := dd
  refine d_write I (by rw [e]; exact True.intro) hs ⟨q, hq⟩ ⟨⟨h1, by rw [List.length_append]; exact l, ?_, ys ++ [r], ?_, q, es, ep, hq, h2, hd, ?_⟩, ⟨q, hq⟩, ?_⟩
  · rw [List.map_append]
    refine List.nodup_append.mpr ⟨h3, by simp, fun x hx z hz ez => ?_⟩
    have hz : z = k := by simpa using hz
    rw [hz] at ez
    obtain ⟨p, hp, ep⟩ := List.mem_map.mp hx
    rw [ez] at ep
    have : (valN xs k).isSome = true := by
      unfold valN
      rw [Option.isSome_map, List.find?_isSome]
      exact ⟨p, hp, by simpa using ep⟩
    rw [nv] at this
    cases this
  · rw [List.map_append]
    exact rr.append (.cons rv .nil)
  · rw [he, List.zip_append ln, List.map_append, List.map_append]
    congr 1
    · unfold rowsN
      rw [List.map_map]
      refine List.map_congr_left fun p _ => ?_
      show (⟨(nkOf p.1.1).hash X.w, .ref p.1.2.1, p.2⟩ : DictEntry) = ⟨hash2 p.1.1, .ref p.1.2.1, p.2⟩
      rw [hash_of]
    · show [(⟨(nkOf k).hash X.w, .ref b, r⟩ : DictEntry)] = [⟨hash2 k, .ref b, r⟩]
      rw [hash_of]
  · rintro g1 g2 ⟨a1, a2, a3, zs, a4, o, es, ep, b1, b2⟩ up
    exact ⟨a1, a2, a3, zs, a4, o, es, ep, up o b1, b2⟩
theorem n_setItem {Q : Unit → Shared → Prop} (hu : A.units + 9 < cLine) (I : Inv X pins σ H s) (e : H a = some (NdO a xs)) (kk : ∀ x ∈ xs, NK H x.2.1 x.1) (ek : NK H b k) (nv : valN xs k = none) (l : xs.length < sizeLine) (rv : RelV v r)
    (h : ∀ s', Inv X pins σ (upd H a (NdO a (xs ++ [(k, b, v)]))) s' → Q () s') : wpAny (model X.prog X.w) A (setItem (.ref a) (.ref b) r) Q E s := by
  obtain ⟨h1, h2, h3, ys, rr, dd⟩ := nd_rd I.hok e kk
  have ln : xs.length = ys.length := by have := rr.length; rw [List.length_map] at this; exact this
  have hz : (rowsN xs ys).length ≤ sizeLine := by unfold rowsN; rw [List.length_map, List.length_zip]; omega
  refine wpAny_setItem_heap (knd := nestedKind X.prog X.w) (hsz := hz) (show A.in1.units + 8 < cLine by show A.units + 1 + 8 < cLine; omega) (is_of I.hok ek) dd fun h' dd' hs => h _ ?_
  exact nd_new (Q := Q) I e nv l rv rr h1 h3 dd' hs
theorem n_dictSet {Q : Unit → Shared → Prop} (hu : A.units + 9 < cLine) (I : Inv X pins σ H s) (e : H a = some (NdO a xs)) (kk : ∀ x ∈ xs, NK H x.2.1 x.1) (ek : NK H b k) (nv : valN xs k = none) (l : xs.length < sizeLine) (rv : RelV v r)
    (h : ∀ s', Inv X pins σ (upd H a (NdO a (xs ++ [(k, b, v)]))) s' → Q () s') : wpAny (model X.prog X.w) A (dictSet a (.ref b) r) Q E s := by
  obtain ⟨h1, h2, h3, ys, rr, dd⟩ := nd_rd I.hok e kk
  have ln : xs.length = ys.length := by have := rr.length; rw [List.length_map] at this; exact this
  have hz : (rowsN xs ys).length ≤ sizeLine := by unfold rowsN; rw [List.length_map, List.length_zip]; omega
  refine wpAny_dictSet_heap (knd := nestedKind X.prog X.w) (hsz := hz) (show A.units + 8 < cLine by omega) (is_of I.hok ek) dd fun h' dd' hs => h _ ?_
  exact nd_new (Q := Q) I e nv l rv rr h1 h3 dd' hs
end
theorem nd_empty {P : Program} {w : World} {H : Hp} (h : Heap) (hb : sysModules < h.objs.size) : ObjOk P w H (h.push { cls := .type "dict", data := .dict #[] }) h.objs.size (NdO h.objs.size []) :=
  ⟨⟨beq_eq_false_iff_ne.mpr (Ne.symm (Nat.ne_of_lt hb)), Nat.zero_le _, List.nodup_nil, [], .nil, _, #[], 0, Heap.get?_push_size _ rfl, ⟨rfl, rfl, rfl⟩, rfl, rfl⟩, ⟨_, Heap.get?_push_size _ rfl⟩, by
    rintro g1 g2 ⟨a1, a2, a3, zs, a4, o, es, ep, b1, b2⟩ up
    exact ⟨a1, a2, a3, zs, a4, o, es, ep, up o b1, b2⟩⟩
/-! over the abstract layer -/
section
variable {K : PySem.W.Frag} {E : XK} {ρ ρ' ρ1 : Ro} {P H P' H' P1 H1 : Hp}
def key2L : List D → Option (List (List Int))
  | [] => some []
  | d :: ds => match intsT d, key2L ds with
    | some k, some ks => some (k :: ks)
    | _, _ => none
def key2 (d : D) : Option (List (List Int)) := match d with
  | .tup ds => key2L ds
  | _ => none
theorem intsN_ok {d : D} {v : V} {k : List Int} (r : Rep K ρ P d v) (e : intsT d = some k) : ∃ b, v = .ref b ∧ P b = some (.tup (k.map V.int)) := by
  cases r with
  | tup q r =>
    have ed := intsD_ok (show intsD _ = some k from e)
    subst ed
    have ev := r.ints_iff
    subst ev
    exact ⟨_, rfl, q⟩
  | _ => cases e
theorem key2L_ok : ∀ {ds : List D} {vs : List V} {ks : List (List Int)}, RepL K ρ P ds vs → key2L ds = some ks → ∃ cs : List Addr, vs = cs.map V.ref ∧ cs.length = ks.length ∧ ∀ p ∈ cs.zip ks, P p.1 = some (.tup (p.2.map V.int))
  | [], _, ks, r, e => by cases r; cases e; exact ⟨[], rfl, rfl, fun _ z => nomatch z⟩
  | d :: ds, _, ks, r, e => by
    cases r with
    | cons a b =>
      unfold key2L at e
      cases q : intsT d with
      | none => rw [q] at e; cases e
      | some k =>
        cases q2 : key2L ds with
        | none => rw [q, q2] at e; cases e
        | some ks2 =>
          rw [q, q2] at e
          cases e
          obtain ⟨c, e1, e2⟩ := intsN_ok a q
          obtain ⟨cs, e3, e4, e5⟩ := key2L_ok b q2
          subst e1 e3
          refine ⟨c :: cs, rfl, by simp [e4], fun p hp => ?_⟩
          rw [List.zip_cons_cons] at hp
          rcases List.mem_cons.mp hp with rfl | hp
          · exact e2
          · exact e5 p hp
theorem key2_ok {d : D} {v : V} {ks : List (List Int)} (r : Rep K ρ P d v) (e : key2 d = some ks) : ∃ b, v = .ref b ∧ NK P b ks := by
  cases r with
  | tup q w =>
    obtain ⟨cs, e1, e2, e3⟩ := key2L_ok w (show key2L _ = some ks from e)
    subst e1
    exact ⟨_, rfl, cs, q, e2, e3⟩
  | _ => cases e
theorem NK.live {h : AH} {b : Addr} {k : List (List Int)} (s : SR K ρ P H h) (x : NK P b k) : NK H b k := by
  obtain ⟨cs, e, l, q⟩ := x
  exact ⟨cs, s.sub _ _ e rfl, l, fun p hp => s.sub _ _ (q p hp) rfl⟩
/-- fast -/
def intEq : Int → Int → Bool
  | .ofNat a, .ofNat b => Nat.beq a b
  | .negSucc a, .negSucc b => Nat.beq a b
  | _, _ => false
theorem intEq_is : ∀ a b : Int, intEq a b = decide (a = b)
  | .ofNat a, .ofNat b => by
    show Nat.beq a b = _
    by_cases e : a = b
    · subst e; simp
    · have h1 : Nat.beq a b = false := by
        cases q : Nat.beq a b with
        | false => rfl
        | true => exact absurd (Nat.eq_of_beq_eq_true q) e
      rw [h1]; symm; exact decide_eq_false fun z => e (by injection z)
  | .negSucc a, .negSucc b => by
    show Nat.beq a b = _
    by_cases e : a = b
    · subst e; simp
    · have h1 : Nat.beq a b = false := by
        cases q : Nat.beq a b with
        | false => rfl
        | true => exact absurd (Nat.eq_of_beq_eq_true q) e
      rw [h1]; symm; exact decide_eq_false fun z => e (by injection z)
  | .ofNat a, .negSucc b => rfl
  | .negSucc a, .ofNat b => rfl
def rowEq : List Int → List Int → Bool
  | [], [] => true
  | a :: r, b :: s => match intEq a b with
    | true => rowEq r s
    | false => false
  | _, _ => false
theorem rowEq_is : ∀ a b : List Int, rowEq a b = decide (a = b)
  | [], [] => rfl
  | [], _ :: _ => rfl
  | _ :: _, [] => rfl
  | a :: r, b :: s => by
    unfold rowEq
    rw [intEq_is]
    by_cases e : a = b
    · subst e
      simp only [decide_true]
      rw [rowEq_is]
      by_cases e2 : r = s
      · subst e2; simp
      · have : ¬ (a :: r = a :: s) := fun z => e2 (by injection z)
        rw [decide_eq_false e2, decide_eq_false this]
    · have : ¬ (a :: r = b :: s) := fun z => e (by injection z)
      rw [decide_eq_false e, decide_eq_false this]
def lotEq : List (List Int) → List (List Int) → Bool
  | [], [] => true
  | a :: r, b :: s => match rowEq a b with
    | true => lotEq r s
    | false => false
  | _, _ => false
theorem lotEq_is : ∀ a b : List (List Int), lotEq a b = decide (a = b)
  | [], [] => rfl
  | [], _ :: _ => rfl
  | _ :: _, [] => rfl
  | a :: r, b :: s => by
    unfold lotEq
    rw [rowEq_is]
    by_cases e : a = b
    · subst e
      simp only [decide_true]
      rw [lotEq_is]
      by_cases e2 : r = s
      · subst e2; simp
      · have : ¬ (a :: r = a :: s) := fun z => e2 (by injection z)
        rw [decide_eq_false e2, decide_eq_false this]
    · have : ¬ (a :: r = b :: s) := fun z => e (by injection z)
      rw [decide_eq_false e, decide_eq_false this]
/-- what stands at a key -/
def getN : List (List (List Int) × D) → List (List Int) → Option D
  | [], _ => none
  | p :: l, k => match lotEq p.1 k with
    | true => some p.2
    | false => getN l k
theorem getN_rel {k : List (List Int)} : ∀ {kvs : List (List (List Int) × D)} {xs : NdL}, xs.map (·.1) = kvs.map (·.1) → RepL K ρ P (kvs.map (·.2)) (xs.map (·.2.2)) →
    (getN kvs k = none ∧ valN xs k = none) ∨ ∃ d v, getN kvs k = some d ∧ valN xs k = some v ∧ Rep K ρ P d v
  | [], [], _, _ => .inl ⟨rfl, rfl⟩
  | [], _ :: _, e, _ => by cases e
  | _ :: _, [], e, _ => by cases e
  | p :: kvs, x :: xs, e, r => by
    injection e with e1 e2
    rw [List.map_cons, List.map_cons] at r
    cases r with
    | cons r1 r2 =>
      have ih := getN_rel (k := k) e2 r2
      unfold getN valN
      have e1 : x.1 = p.1 := e1
      rw [List.find?_cons, lotEq_is, ← e1]
      by_cases z : x.1 = k
      · simp only [z, decide_true]
        exact .inr ⟨_, _, rfl, rfl, r1⟩
      · simp only [z, decide_false]
        exact ih
/-- the dict that a value is -/
def ndD (d : D) (h : AH) : Option (List (List (List Int) × D)) := match d with
  | .loc n => (match h[n]? with
    | some (.ndt kvs) => some kvs
    | _ => none)
  | _ => none
theorem ndD_ok {h : AH} {d : D} {v : V} {kvs : List (List (List Int) × D)} (s : SR K ρ P H h) (r : Rep K ρ P d v) (e : ndD d h = some kvs) :
    ∃ a xs, v = .ref a ∧ H a = some (NdO a xs) ∧ xs.map (·.1) = kvs.map (·.1) ∧ (∀ x ∈ xs, NK P x.2.1 x.1) ∧ RepL K ρ P (kvs.map (·.2)) (xs.map (·.2.2)) := by
  cases r with
  | loc q =>
    rename_i n a
    unfold ndD at e
    cases eo : h[n]? with
    | none => simp only [eo] at e; cases e
    | some o =>
      simp only [eo] at e
      cases o with
      | ndt kv =>
        simp only [Option.some.injEq] at e
        subst e
        obtain ⟨b, eb, xs, hx, e1, e2, e3⟩ := s.obj n _ eo
        rw [q] at eb
        cases eb
        exact ⟨a, xs, rfl, hx, e1, e2, e3⟩
      | _ => cases e
  | _ => cases e
end
end Ab

/-! Dicts whose keys are tuples of tuples: d[k], k in d, d[k] = v, d.get(k), {k: v}. -/
namespace Ab
open PySem PySem.Spec L2 PyProof.Rows
section
variable {K : PySem.W.Frag} {E : XK} {ρ ρ' ρ1 : Ro} {P H P' H' P1 H1 : Hp} {X : Cx} {a b e kx vx : Expr} {es : List Expr} {ta tb tk tv : TE} {t : TA} {ma mb mk mv : M D} {m : M (List D)} {pos cpos apos : Pos} {k : Nat} {name : Str}
theorem nk_all {h : AH} {xs : NdL} (s : SR K ρ P H h) (kk : ∀ x ∈ xs, NK P x.2.1 x.1) : ∀ x ∈ xs, NK H x.2.1 x.1 := fun x hx => (kk x hx).live s
/-- what a dict of that kind at a tells of the key at b -/
def NGet (H : Hp) (a : Addr) (y : V) (o : Option V) : Prop := ∃ b xs k, y = .ref b ∧ H a = some (NdO a xs) ∧ (∀ x ∈ xs, NK H x.2.1 x.1) ∧ NK H b k ∧ o = valN xs k
/-! d[k] -/
abbrev rIxN : R2 := fun x y H Q => ∃ a v, x = .ref a ∧ NGet H a y (some v) ∧ Q v H
theorem ix_nd (hu : X.A.units + 9 < cLine) : IxR X rIxN := by
  intro value slice pins s σ H x y v u Q I rx ry h hs
  obtain ⟨a, w, rfl, ⟨b, xs, k, rfl, e, kk, ek, ev⟩, q⟩ := h
  cases rx
  cases ry
  obtain ⟨h1, h2, h3, ys, rr, dd⟩ := nd_rd I.hok e kk
  exact tail_any dd.typeIs PySem.F.slot_dict_getitem.lookup (n_getItem hu I e kk ek ev.symm fun w' s3 I3 rw' => ⟨w, H, I3, rw', q⟩) hs
def ixND (a b : D) (h : AH) : R D := match ndD a h with
  | some kvs => (match key2 b with
    | some k => (match getN kvs k with
      | some v => .ok v h
      | none => .bad)
    | none => .bad)
  | none => .bad
theorem os_ixN : OpS K E rIxN ixND := fun ρ P H h x y dx dy s wx wy Q p => by
  unfold ixND at p
  cases ed : ndD dx h with
  | none => simp only [ed] at p; exact p.elim
  | some kvs =>
    simp only [ed] at p
    cases ek : key2 dy with
    | none => simp only [ek] at p; exact p.elim
    | some ks =>
      simp only [ek] at p
      obtain ⟨q, eq, hq⟩ := key2_ok wy ek
      obtain ⟨d, xs, eu, hd, e4, kk, r⟩ := ndD_ok s wx ed
      subst eq eu
      cases ey : getN kvs ks with
      | none => simp only [ey] at p; exact p.elim
      | some z =>
        simp only [ey] at p
        rcases getN_rel (k := ks) e4 r with ⟨h1, _⟩ | ⟨d', v', h1, h2, h3⟩
        · rw [h1] at ey; cases ey
        · rw [h1] at ey
          cases ey
          exact ⟨d, v', rfl, ⟨q, xs, ks, rfl, hd, nk_all s kk, hq.live s, h2.symm⟩, Post.here p s h3⟩
theorem je_ixN (hr : Room k X.A) (ha : JE K E X a ta ma) (hb : JE K E X b tb mb) (hs : PlainIx b := by exact fun _ _ => rfl) : JE K E X (.Subscript a b pos) (tOp rIxN ta tb) (mBin ixND ma mb) :=
  ⟨ha.k, pe_ix (ix_nd (by have := hr.un; omega)) ha.p hb.p hs, sd_op ha.s hb.s os_ixN⟩
/-! k in d -/
def rNin (neg : Bool) : R2 := fun y x H Q => ∃ a o, x = .ref a ∧ NGet H a y o ∧ Q (.bl (if neg then !o.isSome else o.isSome)) H
theorem op_nNotIn (hu : X.A.units + 9 < cLine) : OpR X (compareOp .NotIn) (rNin true) := by
  intro pins s σ H y x u v Q I ry rx h
  obtain ⟨a, o, rfl, ⟨b, xs, k, rfl, e, kk, ek, ev⟩, q⟩ := h
  cases rx
  cases ry
  subst ev
  exact n_notIn hu I e kk ek fun s3 I3 => ⟨.bl (!(valN xs k).isSome), H, I3, rfl, q⟩
def inND (neg : Bool) (a b : D) (h : AH) : R D := match ndD b h with
  | some kvs => (match key2 a with
    | some k => .ok (.bl (if neg then !(getN kvs k).isSome else (getN kvs k).isSome)) h
    | none => .bad)
  | none => .bad
theorem os_inN {neg : Bool} : OpS K E (rNin neg) (inND neg) := fun ρ P H h x y dx dy s wx wy Q p => by
  unfold inND at p
  cases ed : ndD dy h with
  | none => simp only [ed] at p; exact p.elim
  | some kvs =>
    simp only [ed] at p
    cases ek : key2 dx with
    | none => simp only [ek] at p; exact p.elim
    | some ks =>
      simp only [ek] at p
      obtain ⟨q, eq, hq⟩ := key2_ok wx ek
      obtain ⟨d, xs, eu, hd, e4, kk, r⟩ := ndD_ok s wy ed
      subst eq eu
      refine ⟨d, valN xs ks, rfl, ⟨q, xs, ks, rfl, hd, nk_all s kk, hq.live s, rfl⟩, ?_⟩
      have : (valN xs ks).isSome = (getN kvs ks).isSome := by
        rcases getN_rel (k := ks) e4 r with ⟨h1, h2⟩ | ⟨d, v, h1, h2, _⟩ <;> rw [h1, h2] <;> rfl
      rw [this]
      exact Post.here p s (.bl _)
theorem jc_notInN (hr : Room k X.A) (hK : X.K = K := by rfl) : JC K E X .NotIn (rNin true) (inND true) := by
  subst hK
  exact ⟨op_nNotIn (by have := hr.un; omega), os_inN⟩
/-! d[k] = v, a new key -/
def rSetN : TSet := fun o i v H Q => ∃ a b xs k, o = .ref a ∧ i = .ref b ∧ H a = some (NdO a xs) ∧ (∀ x ∈ xs, NK H x.2.1 x.1) ∧ NK H b k ∧ valN xs k = none ∧ xs.length < sizeLine ∧ Q (upd H a (NdO a (xs ++ [(k, b, v)])))
theorem set_nd (hu : X.A.units + 9 < cLine) : PSet X rSetN := by
  intro pins s σ H o i v ov iv u Q I ro ri rv h
  obtain ⟨a, b, xs, k, rfl, rfl, e, kk, ek, nv, l, q⟩ := h
  cases ro
  cases ri
  exact n_setItem hu I e kk ek nv l rv fun s4 I4 => ⟨_, I4, q⟩
def mgSubN (mo mi : M D) : MG := fun d env h => (mo env h).bind fun o h1 => (mi env h1).bind fun i h2 => match o with
  | .loc n => (match h2[n]? with
    | some (.ndt kvs) => (match key2 i with
      | some k => (match getN kvs k with
        | none => if kvs.length < sizeLine then .ok env (h2.set n (.ndt (kvs ++ [(k, d)]))) else .bad
        | some _ => .bad)
      | none => .bad)
    | _ => .bad)
  | _ => .bad
theorem sg_subN {to ti : TE} {mo mi : M D} (ho : Sd K (RV K) E to mo) (hi : Sd K (RV K) E ti mi) : SdG K E (gSub to ti rSetN) (mgSubN mo mi) := fun ρ P σ H env h d v s re w Q p =>
  ho ρ P σ H env h s re _ (Post.bind p fun a h1 ρ1 P1 H1 x t1 s1 w1 p1 => hi _ _ _ _ _ _ s1 (re.step t1) _ (Post.bind p1 fun b h2 ρ2 P2 H2 y t2 s2 w2 p2 => by
    have w1 := w1.step t2
    have re2 := (re.step t1).step t2
    have w := (w.step t1).step t2
    cases w1 with
    | loc e =>
      rename_i n q
      obtain ⟨o, eo, r⟩ := s2.here e
      simp only [eo] at p2
      cases o with
      | ndt kvs =>
        dsimp only at p2
        cases ek : key2 b with
        | none => simp only [ek] at p2; exact p2.elim
        | some ks =>
          simp only [ek] at p2
          cases eg : getN kvs ks with
          | some _ => simp only [eg] at p2; exact p2.elim
          | none =>
            simp only [eg] at p2
            by_cases hl : kvs.length < sizeLine
            · rw [if_pos hl] at p2
              obtain ⟨qb, eq, hq⟩ := key2_ok w2 ek
              obtain ⟨xs, e3, e4, kk, r⟩ := r
              subst eq
              have hl2 : xs.length < sizeLine := by
                have := congrArg List.length e4
                simp only [List.length_map] at this
                omega
              have nv : valN xs ks = none := by
                rcases getN_rel (k := ks) e4 r with ⟨_, h2⟩ | ⟨d, v, h1, _, _⟩
                · exact h2
                · rw [h1] at eg; cases eg
              obtain ⟨s4, t4⟩ := s2.put (u := NdO q (xs ++ [(ks, qb, v)])) (o := .ndt (kvs ++ [(ks, d)])) e ⟨_, upd_same, by rw [List.map_append, List.map_append, e4]; rfl, fun x hx => by
                rcases List.mem_append.mp hx with hx | hx
                · exact kk x hx
                · obtain rfl : x = _ := by simpa using hx
                  exact hq, by rw [List.map_append, List.map_append]; exact r.append (.cons w .nil)⟩
              exact ⟨q, qb, xs, ks, rfl, rfl, e3, nk_all s2 kk, hq.live s2, nv, hl2, p2 _ _ _ _ t4 s4 (re2.step t4)⟩
            · rw [if_neg hl] at p2; exact p2.elim
      | _ => exact p2.elim
    | _ => exact p2.elim))
theorem jg_subN (hr : Room k X.A) (ha : JE K E X a ta ma) (hb : JE K E X b tb mb) (has : ∀ v, assign (.Subscript a b pos) X.env v = (do
      let ov ← holding [v] (eval a X.env)
      let iv ← holding [v, ov] (eval b X.env)
      standAt pos
      holding [v, ov, iv] (setItem ov iv v)
      release [v, ov, iv] []) := by intro _; rfl) : JG K E X (.Subscript a b pos) (gSub ta tb rSetN) (mgSubN ma mb) := ⟨ha.k, pg_sub ha.p hb.p (set_nd (by have := hr.un; omega)) has, sg_subN ha.s hb.s⟩
/-! d.get(k) -/
def rGetN : V → List V → Hp → VK → Prop := fun x xs H Q => ∃ a y o, x = .ref a ∧ xs = [y] ∧ NGet H a y o ∧ Q (o.getD .non) H
def tGetN (to : TE) (t : TA) : TE := fun σ H Q => to σ H fun x H1 => (∃ a xs, x = .ref a ∧ H1 a = some (NdO a xs)) ∧ t σ H1 fun xs H2 => rGetN x xs H2 Q
theorem pe_getN (hu : X.A.units + 40 < cLine) (ho : PE X a ta) (ha : PA X (e :: es) t)
    (hbase : attributeBase a "get" X.env (eval a X.env) = eval a X.env := by rfl)
    (hfew : ((backTo cpos (starEach (e :: es) X.env)).all (fun x => !x.1) && (backToKw cpos (keywordEach [] X.env)).all (fun x => x.1.isSome)
      && decide ((e :: es).length + ([] : List Keyword).length + (if ([] : List Keyword).isEmpty then 0 else 1) < 30)) = true := by rfl)
    (hline : (apos.endLine == cpos.line) = true := by rfl) (hs : starEach (e :: es) X.env = (false, eval e X.env) :: starEach es X.env := by rfl) (hplain : (backTo cpos (starEach es X.env)).any (·.1) = false := by rfl) :
    PE X (.Call (.Attribute a "get" apos) (e :: es) [] cpos) (tGetN ta t) := by
  refine ⟨fun pins s σ H Q I h => ?_⟩
  refine wpAny_Call_method_late hbase hfew hline rfl (thn (ho.run pins s σ H _ I h) fun v s1 ⟨x, H1, I1, r1, ty, q1⟩ => ?_)
  obtain ⟨d, xs, rfl, hd⟩ := ty
  cases r1
  have nd : (∃ o, s1.heap.get? d = some o ∧ o.cls = .type "dict" ∧ o.dict = none) := by
    obtain ⟨_, _, _, ys, _, o, es, ep, g1, g2, _⟩ := (I1.hok d _ hd).1
    exact ⟨o, g1, g2.1, g2.2.1⟩
  obtain ⟨o, g1, g2, g3⟩ := nd
  refine ⟨"dict", "dict.get", PySem.F.plainAttrs_dict, PySem.F.slot_dict_get, PySem.F.type_dict_get, ⟨o, g1, g2⟩, fun a ea => by cases ea; exact ⟨o, g1, g3⟩, ?_⟩
  have hA := ha.run cpos pins s1 σ H1 _ I1 q1
  rw [hs] at hA ⊢
  refine Calls.callWith_builtin (by show (false || (backTo cpos (starEach es X.env)).any (·.1)) = false; rw [hplain] <;> rfl) (Calls.evalArgs_plain ?_)
  refine thn hA fun us s2 ⟨vs, H2, I2, r2, q2⟩ => ?_
  obtain ⟨d', y, o', ed, rfl, ⟨b, xs', k, rfl, e', kk, ek, rfl⟩, q⟩ := q2
  cases ed
  cases r2 with
  | cons r3 r4 =>
    cases r4
    cases r3
    exact n_get hu I2 e' kk ek fun w' s' I' rw' => ⟨_, H2, I', rw', q⟩
def isNd (d : D) (h : AH) : Bool := (ndD d h).isSome
def getND : D → List D → AH → R D := fun o ds h => match ds with
  | [d] => (match ndD o h, key2 d with
    | some kvs, some k => .ok ((getN kvs k).getD .non) h
    | _, _ => .bad)
  | _ => .bad
theorem sd_getN (ho : Sd K (RV K) E ta ma) (ha : Sd K (RVs K) E t m) : Sd K (RV K) E (tGetN ta t) (mMethT isNd getND ma m) := fun ρ P σ H env h s re Q p =>
  ho ρ P σ H env h s re _ (Post.bind p fun a h1 ρ1 P1 H1 x t1 s1 w1 p1 => by
    split at p1
    · rename_i hk
      obtain ⟨kv, ekv⟩ := Option.isSome_iff_exists.mp (show (ndD a h1).isSome = true from hk)
      obtain ⟨q, xs, eq, hq, _, _, _⟩ := ndD_ok s1 w1 ekv
      refine ⟨⟨q, xs, eq, hq⟩, ha _ _ _ _ _ _ s1 (re.step t1) _ (Post.bind p1 fun b h2 ρ2 P2 H2 y t2 s2 w2 p2 => ?_)⟩
      unfold getND at p2
      split at p2
      · rename_i d
        obtain ⟨v, rfl, r⟩ := w2.one
        split at p2
        · rename_i kvs k eo ed
          obtain ⟨d', xs', eu, hd, e4, kk, r4⟩ := ndD_ok s2 (w1.step t2) eo
          obtain ⟨b', eb, hb⟩ := key2_ok r ed
          subst eb
          refine ⟨d', .ref b', valN xs' k, eu, rfl, ⟨b', xs', k, rfl, hd, nk_all s2 kk, hb.live s2, rfl⟩, ?_⟩
          rcases getN_rel (k := k) e4 r4 with ⟨h1, h2⟩ | ⟨d, v, h1, h2, h3⟩
          · rw [h1] at p2
            rw [h2]
            exact Post.here p2 s2 .non
          · rw [h1] at p2
            rw [h2]
            exact Post.here p2 s2 h3
        · exact p2.elim
      · exact p2.elim
    · exact p1.elim)
theorem je_getN (hr : Room k X.A) (ho : JE K E X a ta ma) (hA : JA K E X (e :: es) t m)
    (hbase : attributeBase a "get" X.env (eval a X.env) = eval a X.env := by rfl)
    (hfew : ((backTo cpos (starEach (e :: es) X.env)).all (fun x => !x.1) && (backToKw cpos (keywordEach [] X.env)).all (fun x => x.1.isSome) && decide ((e :: es).length + ([] : List Keyword).length + (if ([] : List Keyword).isEmpty then 0 else 1) < 30)) = true := by rfl)
    (hline : (apos.endLine == cpos.line) = true := by rfl) (hs : starEach (e :: es) X.env = (false, eval e X.env) :: starEach es X.env := by rfl) (hplain : (backTo cpos (starEach es X.env)).any (·.1) = false := by rfl) :
    JE K E X (.Call (.Attribute a "get" apos) (e :: es) [] cpos) (tGetN ta t) (mMethT isNd getND ma m) :=
  ⟨ho.k, pe_getN (by have := hr.un; omega) ho.p hA.p hbase hfew hline hs hplain, sd_getN ho.s hA.s⟩
/-! {k: v} -/
def tDispN (tk tv : TE) : TE := fun σ H Q => ∀ p, H p = none → tk σ (upd H p (NdO p [])) fun y H1 => tv σ H1 fun z H2 => ∃ b ks, y = .ref b ∧ NK H2 b ks ∧ H2 p = some (NdO p []) ∧ Q (.ref p) (upd H2 p (NdO p [(ks, b, z)]))
theorem pe_dispN (hu : X.A.units + 9 < cLine) (hk : PE X kx tk) (hv : PE X vx tv) : PE X (.Dict [some kx] [vx] pos) (tDispN tk tv) := by
  refine ⟨fun pins s σ H Q I h => ?_⟩
  have hn := I.hok.fresh (Nat.le_refl s.heap.objs.size)
  have I1 := I.laid (a := s.heap.objs.size) (o := NdO s.heap.objs.size []) (h' := s.heap.push { cls := .type "dict", data := .dict #[] }) (t' := s.toks) (fun _ _ q => Heap.get?_push_of_some _ q) (Nat.le_refl _) (nd_empty s.heap I.big)
  have hl := pairTrees_length [some kx] [vx] X.env pos rfl rfl
  have hl : (pairTrees [some kx] [vx] X.env pos).length = 1 := hl
  rw [arm_eval_Dict, zip_pairTrees [some kx] [vx] X.env pos rfl rfl, dictDisplay_pairs _ (fun z => by rw [z] at hl; cases hl) (by rw [hl]; decide)]
  refine wpAny_bind (wpAny_standAt (wpAny_bind ?_))
  unfold subDict
  refine wpAny_bind (wpAny_alloc (wpAny_bind (wpAny_holding ?_)))
  rw [if_pos (by rw [hl]; decide)]
  refine wpAny_bind (pairTrees_cons_walk (thn (hk.run pins _ σ _ _ I1 (h _ hn)) fun kv s1 ⟨y, H1, I2, ry, q1⟩ => thn (hv.run pins s1 σ H1 _ I2 q1) fun vv s2 ⟨z, H2, I3, rz, b, ks, ey, hb, hD, q2⟩ => evalPairs_nil ?_))
  subst ey
  cases ry
  refine wpAny_holding ?_
  rw [List.forIn_cons]
  refine wpAny_bind (wpAny_bind (wpAny_bind (n_dictSet hu I3 hD (fun _ z => nomatch z) hb rfl (by show 0 < sizeLine; decide) rz fun s3 I4 => wpAny_pure ?_)))
  show wpAny _ _ (forIn ([] : List (Value × Value)) PUnit.unit _) _ _ _
  rw [List.forIn_nil]
  exact wpAny_pure (wpAny_pure (wpAny_pure (wpAny_pure ⟨.ref s.heap.objs.size, _, I4, rfl, q2⟩)))
def mDispN (mk mv : M D) : M D := fun env h => (mk env h).bind fun y h1 => (mv env h1).bind fun z h2 => match key2 y with
  | some ks => .ok (.loc h2.length) (h2 ++ [.ndt [(ks, z)]])
  | none => .bad
theorem sd_dispN (hk : Sd K (RV K) E tk mk) (hv : Sd K (RV K) E tv mv) : Sd K (RV K) E (tDispN tk tv) (mDispN mk mv) := fun ρ P σ H env h s re Q p => by
  intro d hd
  obtain ⟨sD, tD⟩ := s.own hd (NdO d [])
  refine hk ρ P σ _ env h sD (re.step tD) _ (Post.bindB p tD fun y h1 ρ1 P1 H1 v t1 s1 w1 p1 => hv _ _ _ _ _ _ s1 ((re.step tD).step t1) _ (Post.bindB p1 (tD.trans t1) fun z h2 ρ2 P2 H2 u t2 s2 w2 p2 => ?_))
  cases ek : key2 y with
  | none => simp only [ek] at p2; exact p2.elim
  | some ks =>
    simp only [ek] at p2
    obtain ⟨b, ev, hb⟩ := key2_ok (w1.step t2) ek
    subst ev
    have t12 := t1.trans t2
    have ed : (upd H d (NdO d [])) d = some (NdO d []) := upd_same
    have nr0 : NoR ρ d := s.noR hd
    have np0 : P d = none := s.noP hd
    have np : P2 d = none := t12.noP np0 (.inr ⟨_, ed, rfl⟩)
    have nr : NoR ρ2 d := t12.noR (by rw [ed]; simp) nr0
    have eD : H2 d = some (NdO d []) := t12.keep _ _ ed nr0 (.inl np0)
    refine ⟨b, ks, rfl, hb.live s2, eD, ?_⟩
    have tt : Step ρ P H ρ2 P2 H2 := tD.trans t12
    have st := tt.loose (o := NdO d [(ks, b, u)]) hd
    have sr := s2.loose (o := NdO d [(ks, b, u)]) np nr
    have sn := sr.number (o := .ndt [(ks, z)]) np nr ⟨_, upd_same, rfl, fun x hx => by
      obtain rfl : x = _ := by simpa using hx
      exact hb, .cons w2 .nil⟩
    refine p2 (fun n => if n = h2.length then some d else ρ2 n) P2 _ _ ⟨fun n c eb => ?_, st.pure, fun n c e0 eb => ?_, st.newp, st.keep, st.there⟩ sn (.loc (by simp))
    · have eb := st.mono n c eb
      have z : n ≠ h2.length := fun z => by rw [z, s2.dom _ (Nat.le_refl _)] at eb; cases eb
      show (if n = h2.length then some d else ρ2 n) = some c
      rw [if_neg z]; exact eb
    · have eb : (if n = h2.length then some d else ρ2 n) = some c := eb
      split at eb
      · cases eb; exact hd
      · exact st.newr n c e0 eb
theorem je_dispN (hr : Room k X.A) (hk : JE K E X kx tk mk) (hv : JE K E X vx tv mv) : JE K E X (.Dict [some kx] [vx] pos) (tDispN tk tv) (mDispN mk mv) := ⟨hk.k, pe_dispN (by have := hr.un; omega) hk.p hv.p, sd_dispN hk.s hv.s⟩
end
end Ab

/-! Dict comprehensions whose keys are tuples of tuples. -/
namespace Ab
open PySem PySem.Spec L2 PyProof.Rows
/-- a pair whose key is a tuple of tuples is put -/
def taNT (tk tv : TE) : TAct := fun D σ H Q => tk σ H fun y H1 => tv σ H1 fun z H2 => ∃ b xs ks, y = .ref b ∧ NK H2 b ks ∧ H2 D = some (NdO D xs) ∧ (∀ x ∈ xs, NK H2 x.2.1 x.1) ∧ valN xs ks = none ∧ xs.length < sizeLine ∧ Q (upd H2 D (NdO D (xs ++ [(ks, b, z)])))
theorem actNT {X : Cx} {kx vx : Expr} {tk tv : TE} {vs : List Nat} (hu : X.A.units + 9 < cLine) (hx : X.xe = Nox) (hk : PE X kx tk) (hv : PE X vx tv) : ActOk X (actD X.prog X.w X.A kx vx) vs (taNT tk tv) := fun D pins s σ H Q I h => by
  have r1 := hk.run pins s σ H _ I h
  rw [hx] at r1
  refine thnF r1 fun k s1 ⟨y, H1, I1, ry, q1⟩ => ?_
  have r2 := hv.run pins s1 σ H1 _ I1 q1
  rw [hx] at r2
  refine thnF r2 fun v s2 ⟨z, H2, I2, rz, b, xs, ks, ey, hb, hD, kk, nv, hl, q2⟩ => ?_
  subst ey
  cases ry
  exact n_dictSet hu I2 hD kk hb nv hl rz fun s3 I3 => ⟨σ, _, I3, rfl, fun _ _ _ e => e, q2⟩
section
variable {X : Cx}
theorem mk_nT {pins : List (Addr × Obj)} (s : Shared) (σ : L2.St) (H : Hp) (R : Value → Shared → Prop) (I : Inv X pins σ H s)
    (h : ∀ z : Shared, z.heap.objs.size = s.heap.objs.size + 1 → (∀ b o, s.heap.get? b = some o → z.heap.get? b = some o) → Inv X pins σ (upd H s.heap.objs.size (NdO s.heap.objs.size [])) z → R (.ref s.heap.objs.size) z) : wpAny (model X.prog X.w) X.A newDict R X.xe s :=
  wpAny_newObj_type (h _ (Heap.size_push ..) (fun _ _ e => Heap.get?_push_of_some _ e) (I.laid (t' := s.toks) (fun _ _ e => Heap.get?_push_of_some _ e) (Nat.le_refl _) (nd_empty s.heap I.big)))
theorem pe_dcN2 {kx vx tg iter tg1 iter1 : Expr} {ifs ifs1 : List Expr} {scope : Scope} {own : List (PySem.Str × Nat)} {vs1 : List Nat} {pos : Pos} {wi wi1 : TI} {g g1 : TG} {tt tt1 : TT} {tk tv : TE} (hu : X.A.units + 9 < cLine) (hc : X.calm = true) (hN : X.N.Nodup) (hi : PI X tg iter wi) (ok : BlkOk X.N X.env.scope scope own) (hvs : ∀ i ∈ vs1, i ∈ own.map (·.2))
    (hg : ∀ (s : Shared) (H : Hp) (C : Addr) (cl : List (PySem.Str × Addr)) (fp : List Addr), PG (X.blk s H scope (compEnvC scope cl C X.env) fp) tg g) (ht : ∀ (s : Shared) (H : Hp) (C : Addr) (cl : List (PySem.Str × Addr)) (fp : List Addr), PTs (X.blk s H scope (compEnvC scope cl C X.env) fp) ifs tt)
    (hi1 : ∀ (s : Shared) (H : Hp) (C : Addr) (cl : List (PySem.Str × Addr)) (fp : List Addr), PI (X.blk s H scope (compEnvC scope cl C X.env) fp) tg1 iter1 wi1)
    (hg1 : ∀ (s : Shared) (H : Hp) (C : Addr) (cl : List (PySem.Str × Addr)) (fp : List Addr), PG (X.blk s H scope (compEnvC scope cl C X.env) fp) tg1 g1) (ht1 : ∀ (s : Shared) (H : Hp) (C : Addr) (cl : List (PySem.Str × Addr)) (fp : List Addr), PTs (X.blk s H scope (compEnvC scope cl C X.env) fp) ifs1 tt1)
    (hk : ∀ (s : Shared) (H : Hp) (C : Addr) (cl : List (PySem.Str × Addr)) (fp : List Addr), PE (X.blk s H scope (compEnvC scope cl C X.env) fp) kx tk)
    (hv : ∀ (s : Shared) (H : Hp) (C : Addr) (cl : List (PySem.Str × Addr)) (fp : List Addr), PE (X.blk s H scope (compEnvC scope cl C X.env) fp) vx tv) (hs : ∀ x, foldedSetIterable iter X.env x = pure x := by intro _; rfl) (hs1 : ∀ env x, foldedSetIterable iter1 env x = pure x := by intro _ _; rfl) :
    PE X (.DictComp kx vx [⟨tg, iter, ifs, 0⟩, ⟨tg1, iter1, ifs1, 0⟩] scope pos) (tCore (fun D => NdO D []) wi g tt (taIn wi1 g1 tt1 (taNT tk tv) vs1) (own.map (·.2))) := by
  refine ⟨fun pins s σ H Q I h => ?_⟩
  rw [arm_eval_DictComp]
  refine core_run (vs1 := vs1) rfl mk_nT (fun R s it acc e h1 h2 => codeAny_compStart_dict h1 (thnF h2 fun _ _ q => q)) (loop_of turnD2 (emit2_ok hs1) (fun _ _ _ => rfl) (fun _ _ _ => rfl)) act2_mono hc hN I hi ok hvs hg ht
    (fun s H C cl fp => act2_ok rfl hc startD2 (loop_of turnD2in emitD_ok (fun _ _ _ => rfl) (fun _ _ _ => rfl)) actD_mono (hi1 s H C cl fp) (hg1 s H C cl fp) (ht1 s H C cl fp) (actNT (vs := []) hu rfl (hk s H C cl fp) (hv s H C cl fp)) (fun _ z => nomatch z)) hs h fun D C z m Z I' q hn f => ⟨m, hn, fun h2 sb => ?_⟩
  obtain ⟨f0, f1, f2, f3, f4, f5⟩ := f
  exact ⟨.ref D, Z, I'.turned (t' := z.toks) (fun b o hb e => (sb.2 b hb).trans e) f0 f1 f3 f4 f5, rfl, q⟩
end
section
variable {K : PySem.W.Frag} {E : XK} {ρ ρ' ρ1 : Ro} {P H P' H' P1 H1 : Hp}
def accN (K : PySem.W.Frag) : Acc K (List (List (List Int) × D)) where
  R kvs ρ P D o := ∃ xs : NdL, o = NdO D xs ∧ xs.map (·.1) = kvs.map (·.1) ∧ (∀ x ∈ xs, NK P x.2.1 x.1) ∧ RepL K ρ P (kvs.map (·.2)) (xs.map (·.2.2))
  up := by
    rintro a ρ P D o ρ' P' ⟨kws, e, ek, kk, r⟩ hm hp
    exact ⟨kws, e, ek, fun x hx => (kk x hx).up hp, r.up hm hp⟩
  noT := fun ⟨kws, e, _, _, _⟩ => by subst e; rfl
def acN (mk mv : M D) : List (List (List Int) × D) → En → AH → R (List (List (List Int) × D)) := fun acc env h => (mk env h).bind fun k h1 => (mv env h1).bind fun v h2 => match key2 k with
  | some ks => (match getN acc ks with
    | none => if acc.length < sizeLine then .ok (acc ++ [(ks, v)]) h2 else .bad
    | some _ => .bad)
  | none => .bad
theorem acN_ok {tk tv : TE} {mk mv : M D} (hk : Sd K (RV K) E tk mk) (hv : Sd K (RV K) E tv mv) : AcOk (accN K) E (taNT tk tv) (acN mk mv) := fun ρ0 P0 H0 D0 hD ρ P H h σ env acc x re Q p => by
  refine hk ρ P σ H env h x.s re _ (PostA.bindA p x fun d h1 ρ1 P1 H1 v t1 x1 w1 p1 => ?_)
  refine hv ρ1 P1 σ H1 env h1 x1.s (re.step t1) _ (PostA.bindA p1 x1 fun e h2 ρ2 P2 H2 u t2 x2 w2 p2 => ?_)
  cases ek : key2 d with
  | none => simp only [ek] at p2; exact p2.elim
  | some ks =>
    simp only [ek] at p2
    cases eg : getN acc ks with
    | some _ => simp only [eg] at p2; exact p2.elim
    | none =>
      simp only [eg] at p2
      by_cases hl : acc.length < sizeLine
      · rw [if_pos hl] at p2
        obtain ⟨b, ev, hb⟩ := key2_ok (w1.step t2) ek
        subst ev
        obtain ⟨o, eo, xs, e1, e2, kk, r⟩ := x2.at_
        subst e1
        have hlen : xs.length = acc.length := by have := congrArg List.length e2; simpa using this
        have nv : valN xs ks = none := by
          rcases getN_rel (k := ks) e2 r with ⟨_, h2⟩ | ⟨d, v, h1, _, _⟩
          · exact h2
          · rw [h1] at eg; cases eg
        refine ⟨b, xs, ks, rfl, hb.live x2.s, eo, nk_all x2.s kk, nv, by omega, ?_⟩
        have nf : ∀ r u, H2 D0 ≠ some (.frz r u) := fun r u z => by rw [eo] at z; cases z
        obtain ⟨x3, u3⟩ := x2.put (acc' := acc ++ [(ks, e)]) (o := NdO D0 (xs ++ [(ks, b, u)])) hD ⟨_, rfl, by rw [List.map_append, List.map_append, e2]; rfl, fun x hx => by
          rcases List.mem_append.mp hx with hx | hx
          · exact kk x hx
          · obtain rfl : x = _ := by simpa using hx
            exact hb, by rw [List.map_append, List.map_append]; exact r.append (.cons w2 .nil)⟩ nf
        exact p2 _ _ _ x3 u3
      · rw [if_neg hl] at p2; exact p2.elim
def mNdO (m : M (List (List (List Int) × D))) : M D := fun env h => (m env h).bind fun kvs h1 => .ok (.loc h1.length) (h1 ++ [.ndt kvs])
theorem sd_ndO {t : TE} {m : M (List (List (List Int) × D))} (hr : SdX (accN K) E t m) : Sd K (RV K) E t (mNdO m) := fun ρ P σ H env h s re Q p => by
  refine hr ρ P σ H env h s re Q ?_
  have p : Post K (RV K) E ρ P H Q ((m env h).bind fun kvs h1 => .ok (.loc h1.length) (h1 ++ [.ndt kvs])) := p
  cases q : m env h with
  | bad => rw [q] at p; exact p
  | exc x fs h => rw [q] at p; exact p
  | ok kvs h1 =>
    rw [q] at p
    intro ρ' P' H' a o t s1 hp np nr e ra
    obtain ⟨kws, e1, e2, kk, w⟩ := ra
    subst e1
    refine p (fun n => if n = h1.length then some a else ρ' n) P' H' _ ⟨fun n b eb => ?_, t.pure, fun n b e0 eb => ?_, t.newp, t.keep, t.there⟩ (s1.number (o := .ndt kvs) np nr ⟨kws, e, e2, kk, w⟩) (.loc (by simp))
    · have eb := t.mono n b eb
      have z : n ≠ h1.length := fun z => by rw [z, s1.dom _ (Nat.le_refl _)] at eb; cases eb
      show (if n = h1.length then some a else ρ' n) = some b
      rw [if_neg z]; exact eb
    · have eb : (if n = h1.length then some a else ρ' n) = some b := eb
      split at eb
      · cases eb; exact hp
      · exact t.newr n b e0 eb
end
section
variable {K : PySem.W.Frag} {E : XK} {X : Cx} {kx vx tg iter tg1 iter1 ex : Expr} {ifs ifs1 : List Expr} {scope : Scope} {own : List (PySem.Str × Nat)} {vs1 : List Nat} {pos pn : Pos} {wi wi1 : TI} {g g1 : TG} {tt tt1 : TT} {tk tv te : TE} {mi mi1 : MI} {mg mg1 : MG} {mt mt1 : M Bool} {mk mv me : M D} {k : Nat}
theorem jx_dn2 (hr : Room k X.A) (hN : X.N.Nodup) (hi : JI K E X tg iter wi mi) (ok : BlkOk X.N X.env.scope scope own) (hv : GW (own.map (·.2)) g) (hv1 : GW vs1 g1) (hvs : ∀ i ∈ vs1, i ∈ own.map (·.2))
    (hg : ∀ (s : Shared) (H : Hp) (C : Addr) (cl : List (PySem.Str × Addr)) (fp : List Addr), JG K E (X.blk s H scope (compEnvC scope cl C X.env) fp) tg g mg) (ht : ∀ (s : Shared) (H : Hp) (C : Addr) (cl : List (PySem.Str × Addr)) (fp : List Addr), JTs K E (X.blk s H scope (compEnvC scope cl C X.env) fp) ifs tt mt)
    (hi1 : ∀ (s : Shared) (H : Hp) (C : Addr) (cl : List (PySem.Str × Addr)) (fp : List Addr), JI K E (X.blk s H scope (compEnvC scope cl C X.env) fp) tg1 iter1 wi1 mi1)
    (hg1 : ∀ (s : Shared) (H : Hp) (C : Addr) (cl : List (PySem.Str × Addr)) (fp : List Addr), JG K E (X.blk s H scope (compEnvC scope cl C X.env) fp) tg1 g1 mg1) (ht1 : ∀ (s : Shared) (H : Hp) (C : Addr) (cl : List (PySem.Str × Addr)) (fp : List Addr), JTs K E (X.blk s H scope (compEnvC scope cl C X.env) fp) ifs1 tt1 mt1)
    (hk : ∀ (s : Shared) (H : Hp) (C : Addr) (cl : List (PySem.Str × Addr)) (fp : List Addr), JE K E (X.blk s H scope (compEnvC scope cl C X.env) fp) kx tk mk)
    (hvv : ∀ (s : Shared) (H : Hp) (C : Addr) (cl : List (PySem.Str × Addr)) (fp : List Addr), JE K E (X.blk s H scope (compEnvC scope cl C X.env) fp) vx tv mv) (hc : X.calm = true := by rfl) (hs : ∀ x, foldedSetIterable iter X.env x = pure x := by intro _; rfl) (hs1 : ∀ env x, foldedSetIterable iter1 env x = pure x := by intro _ _; rfl) :
    JX K E X (accN K) (.DictComp kx vx [⟨tg, iter, ifs, 0⟩, ⟨tg1, iter1, ifs1, 0⟩] scope pos) (tCore (fun D => NdO D []) wi g tt (taIn wi1 g1 tt1 (taNT tk tv) vs1) (own.map (·.2))) (mCm mi mg mt (ac2 mi1 mg1 mt1 (acN mk mv) vs1) [] (own.map (·.2))) := by
  have hg0 := hg X.s_0 X.H_0 default [] []
  have ht0 := ht X.s_0 X.H_0 default [] []
  have hi0 := hi1 X.s_0 X.H_0 default [] []
  have hg10 := hg1 X.s_0 X.H_0 default [] []
  have ht10 := ht1 X.s_0 X.H_0 default [] []
  have hk0 := hk X.s_0 X.H_0 default [] []
  have hv0 := hvv X.s_0 X.H_0 default [] []
  exact ⟨hi.k, pe_dcN2 (by have := hr.un; omega) hc hN hi.p ok hvs (fun s H C cl fp => (hg s H C cl fp).p) (fun s H C cl fp => (ht s H C cl fp).p) (fun s H C cl fp => (hi1 s H C cl fp).p) (fun s H C cl fp => (hg1 s H C cl fp).p) (fun s H C cl fp => (ht1 s H C cl fp).p) (fun s H C cl fp => (hk s H C cl fp).p) (fun s H C cl fp => (hvv s H C cl fp).p) hs hs1,
    sx_cm (A := accN K) (fun ρ P D => ⟨[], rfl, rfl, (fun _ z => nomatch z), .nil⟩) hi.s hg0.s hv ht0.s (ac2_ok hi0.s hg10.s hv1 ht10.s (acN_ok hk0.s hv0.s))⟩
theorem JX.nO {te : TE} {m : M (List (List (List Int) × D))} (h : JX K E X (accN K) ex te m) : JE K E X ex te (mNdO m) := ⟨h.k, h.p, sd_ndO h.s⟩
end
end Ab

namespace K33
open PySem PySem.Spec PyProof.Rows L2 Ab
def top (i : Nat) : Stmt := PySem.Challenge.pw_turnedblind_k33_tables_known_by_name.main.body.getD i (.Pass ⟨0, 0, 0, 0⟩)
def clsBody : Stmt → List Stmt
  | .ClassDef _ _ _ b .. => b
  | _ => []
def topM (i j : Nat) : Stmt := (clsBody (top i)).getD j (.Pass ⟨0, 0, 0, 0⟩)
abbrev FnP (K : PySem.W.Frag) (x q : Str) (st : Stmt) (f : Addr) (fd : FuncData) : Prop := FunD K x q (defArgs st) (defBody st) (defScope st) [] [] f fd
/-! what each def computes -/
abbrev s_is_integer : Stmt := top 16
def m_is_integer : MS :=
  (mRet (mAnd (mCB isiD (mCons (mVar 0) (mCons (mC (.ty "int")) mNil))) (mNot (mCB isiD (mCons (mVar 0) (mCons (mC (.ty "bool")) mNil))))))
def F_is_integer : Fn := mFnT 1 m_is_integer
abbrev s_number_in : Stmt := top 18
def m_number_in : MS :=
  (mSeq (mIfS (mOrT (mBl (mBin eqD (mVar 0) (mC (.str "")))) (mNotT (mTru (mCB (allD false) (mCons (mFrz (mLc (miU (mVar 0)) (mgName 1) (fun _ h => .ok true h) (mBin (inUD false) (mVar 1) (mC (.str "0123456789"))) [1])) mNil))))) (mRet (mC .non)) mNext)
  (mRet (mIf (mOrT (mBl (mBin neD (mBin ixUD (mVar 0) (mC (.int 0))) (mC (.str "0")))) (mBl (mBin eqD (mVar 0) (mC (.str "0"))))) (mCB intUD (mCons (mVar 0) mNil)) (mC .non))))
def F_number_in : Fn := mFnT 2 m_number_in
abbrev s_power_of : Stmt := top 19
def m_power_of : MS :=
  (mSeq (mAsg (mC (.int 1)) (mgName 2))
  (mSeq (mFor (miRng1 (mCons (mVar 1) mNil)) (mgName 3) (mAsg (mBin mulUD (mVar 2) (mVar 0)) (mgName 2)))
  (mRet (mVar 2))))
def F_power_of : Fn := mFnT 4 m_power_of
abbrev s_behind_turn : Stmt := top 23
def m_behind_turn : MS :=
  (mSeq (mAsg (mOwn (mCBF listUD (mCons (mVar 0) mNil))) (mgName 2))
  (mSeq (mFor (miEnum (mCons (mVar 1) mNil)) (mgSeq 2 (mgCons (mgName 3) (mgCons (mgName 4) mgNil))) (mAsg (mBin ixUD (mVar 0) (mVar 3)) (mgSubU (mVar 2) (mVar 4))))
  (mRet (mCB tupleD (mCons (mVar 2) mNil)))))
def F_behind_turn : Fn := mFnT 5 m_behind_turn
abbrev s_all_turns : Stmt := top 24
def b_all_turns_1 : MS :=
  (mSeq (mAsg (mCB tupleD (mCons (mFrz (mLc (miU (mVar 4)) (mgName 7) (fun _ h => .ok true h) (mBin ixUD (mVar 5) (mVar 7)) [7])) mNil)) (mgName 6))
  (mIfS (mBl (mBin (inUD true) (mVar 6) (mVar 2))) (mSeq (mAsg (mC (.bl true)) (mgSubU (mVar 2) (mVar 6)))
  (mDrop (mMethT isLoc appendD (mVar 3) (mCons (mVar 6) mNil)))) mNext))
def m_all_turns : MS :=
  (mSeq (mPar 2 3 (mCons (mDisp1 (mTupRg (mRg1 (mVar 0))) (mC (.bl true))) (mCons (mOwn (mLst (mCons (mTupRg (mRg1 (mVar 0))) mNil))) mNil)))
  (mSeq (mWhile (mTru (mVar 3)) (mSeq (mAsg (mMethT0 isLoc popD (mVar 3)) (mgName 4))
  (mFor (miU (mVar 1)) (mgName 5) b_all_turns_1)) 100000)
  (mRet (mCB tupleD (mCons (mFrz (mCBF sortedUD (mCons (mVar 2) mNil))) mNil)))))
def F_all_turns : Fn := mFnT 8 m_all_turns
abbrev s_Table_turns : Stmt := topM 25 6
def m_Table_turns : MS :=
  (mRet (mUn (attrD "Table" "group") (mVar 0)))
def F_Table_turns : Fn := mFnT 1 m_Table_turns
abbrev s_shifted : Stmt := top 26
def m_shifted : MS :=
  (mRet (mCB tupleD (mCons (mFrz (mLc (miU (mVar 0)) (mgName 3) (fun _ h => .ok true h) (mBin modD (mBin addUD (mVar 3) (mVar 1)) (mVar 2)) [3])) mNil)))
def F_shifted : Fn := mFnT 4 m_shifted
abbrev s_all_standings : Stmt := top 28
def m_all_standings : MS :=
  (mSeq (mAsg (mFrz (mLst (mCons (mTup mNil) mNil))) (mgName 2))
  (mSeq (mFor (miRng1 (mCons (mVar 0) mNil)) (mgName 3) (mAsg (mFrz (mLc2 (miU (mVar 2)) (mgName 4) (fun _ h => .ok true h) (miRng1 (mCons (mVar 1) mNil)) (mgName 5) (fun _ h => .ok true h) (mTup (mStar (mVar 4) (mCons (mVar 5) mNil))) [4, 5] [5])) (mgName 2)))
  (mRet (mVar 2))))
def F_all_standings : Fn := mFnT 6 m_all_standings
abbrev s_check_table : Stmt := top 30
def m_check_table : MS :=
  (mIfS (mNotT (mTru (mCB (isiCD "Table") (mCons (mVar 0) (mCons (mC (.glo "Table")) mNil))))) (fun _ _ => .bad) mNext)
def F_check_table : Fn := mFnT 1 m_check_table
abbrev s_is_bell : Stmt := top 33
def m_is_bell : MS :=
  (mRet (mCB (allD false) (mCons (mFrz (mLc (miU (mVar 0)) (mgName 1) (fun _ h => .ok true h) (mBin eqD (mVar 1) (mBin ixUD (mVar 0) (mC (.int 0)))) [1])) mNil)))
def F_is_bell : Fn := mFnT 2 m_is_bell
abbrev s_added : Stmt := top 34
def m_added : MS :=
  (mRet (mCB tupleD (mCons (mFrz (mLc (miZip (mCons (mVar 0) (mCons (mVar 1) mNil))) (mgSeq 2 (mgCons (mgName 3) (mgCons (mgName 4) mgNil))) (fun _ h => .ok true h) (mBin modD (mBin addUD (mVar 3) (mVar 4)) (mVar 2)) [3, 4])) mNil)))
def F_added : Fn := mFnT 5 m_added
abbrev s_lessened : Stmt := top 35
def m_lessened : MS :=
  (mRet (mCB tupleD (mCons (mFrz (mLc (miZip (mCons (mVar 0) (mCons (mVar 1) mNil))) (mgSeq 2 (mgCons (mgName 3) (mgCons (mgName 4) mgNil))) (fun _ h => .ok true h) (mBin modD (mBin subD (mVar 3) (mVar 4)) (mVar 2)) [3, 4])) mNil)))
def F_lessened : Fn := mFnT 5 m_lessened
abbrev s_kind_of : Stmt := top 36
def m_kind_of : MS :=
  (mRet (mBin ixUD (mUn (attrD "Table" "known") (mVar 0)) (mVar 1)))
def F_kind_of : Fn := mFnT 2 m_kind_of
abbrev s_zeros : Stmt := top 39
def m_zeros : MS :=
  (mRet (mBin mulUD (mTup (mCons (mC (.int 0)) mNil)) (mUn (attrD "Table" "many") (mVar 0))))
def F_zeros : Fn := mFnT 1 m_zeros
abbrev s_is_prime : Stmt := top 46
def m_is_prime : MS :=
  (mSeq (mIfS (mBl (mBin (cmpD fun i j => decide (i < j)) (mVar 0) (mC (.int 2)))) (mRet (mC (.bl false))) mNext)
  (mSeq (mAsg (mC (.int 2)) (mgName 1))
  (mSeq (mWhile (mBl (mBin (cmpD fun i j => decide (i ≤ j)) (mBin mulUD (mVar 1) (mVar 1)) (mVar 0))) (mSeq (mIfS (mBl (mBin eqD (mBin modD (mVar 0) (mVar 1)) (mC (.int 0)))) (mRet (mC (.bl false))) mNext)
  (mAug 1 addI (mC (.int 1)))) 100000)
  (mRet (mC (.bl true))))))
def F_is_prime : Fn := mFnT 2 m_is_prime
abbrev s_plan_of : Stmt := top 56
def m_plan_of : MS :=
  (mSeq (mAsg (mTup mNil) (mgName 1))
  (mSeq (mFor (miU (mVar 0)) (mgSeq 2 (mgCons (mgName 2) (mgCons (mgName 3) mgNil))) (mAsg (mBin addUD (mVar 1) (mBin mulUD (mBin addUD (mTup (mCons (mVar 3) mNil)) (mVar 1)) (mBin subD (mVar 2) (mC (.int 1))))) (mgName 1)))
  (mRet (mVar 1))))
def F_plan_of : Fn := mFnT 4 m_plan_of
abbrev s_check_kinds : Stmt := top 61
def m_check_kinds : MS :=
  (mIfS (mBl (mBin (cmpD fun i j => decide (j < i)) (mCB lenUD (mCons (mUn (attrD "Table" "swept") (mVar 0)) mNil)) (mC (.int 12)))) (fun _ _ => .bad) mNext)
def F_check_kinds : Fn := mFnT 1 m_check_kinds
abbrev s_is_between : Stmt := top 17
def m_is_between : MS :=
  (mRet (mAnd (mCallP 1 F_is_integer (mCons (mVar 0) mNil)) (mChain (cmpD fun i j => decide (i ≤ j)) (cmpD fun i j => decide (i ≤ j)) (mVar 1) (mVar 0) (mVar 2))))
def F_is_between : Fn := mFnT 3 m_is_between
abbrev s_turn_in : Stmt := top 21
def m_turn_in : MS :=
  (mSeq (mAsg (mIf (mTru (mCB isiD (mCons (mVar 0) (mCons (mC (.ty "str")) mNil)))) (mFrz (mSplit (mVar 0) (mC (.str " ")))) (mFrz (mLst (mCons (mC (.str "")) mNil)))) (mgName 2))
  (mSeq (mIfS (mBl (mBin neD (mBin ixUD (mVar 2) (mC (.int 0))) (mC (.str "turn")))) (mRet (mC .non)) mNext)
  (mSeq (mIfS (mBl (mBin eqD (mVar 2) (mFrz (mLst (mCons (mC (.str "turn")) (mCons (mC (.str "ring")) mNil)))))) (mRet (mCB tupleD (mCons (mFrz (mLc (miRng1 (mCons (mVar 1) mNil)) (mgName 4) (fun _ h => .ok true h) (mBin modD (mBin addUD (mVar 4) (mC (.int 1))) (mVar 1)) [4])) mNil))) mNext)
  (mSeq (mIfS (mBl (mBin eqD (mVar 2) (mFrz (mLst (mCons (mC (.str "turn")) (mCons (mC (.str "over")) mNil)))))) (mRet (mRevT (mTupRg (mRg1 (mVar 1))))) mNext)
  (mSeq (mAsg (mFrz (mLc (miU (mFrz (mSlL (mVar 2) (mPart (mC (.int 1))) mNoPart))) (mgName 5) (fun _ h => .ok true h) (mCallP 1 F_number_in (mCons (mVar 5) mNil)) [5])) (mgName 3))
  (mSeq (mIfS (mOrT (mBl (mBin (inUD false) (mC .non) (mVar 3))) (mBl (mBin neD (mFrz (mCBF sortedUD (mCons (mVar 3) mNil))) (mFrz (mLstRg (mRg1 (mVar 1))))))) (mRet (mC .non)) mNext)
  (mRet (mCB tupleD (mCons (mVar 3) mNil)))))))))
def F_turn_in : Fn := mFnT 6 m_turn_in
abbrev s_alike_to : Stmt := top 27
def m_alike_to : MS :=
  (mRet (mFrz (mCBF listUD (mCons (mDicF (mCm (miU (mVar 2)) (mgName 3) (fun _ h => .ok true h) (ac2 (miRng1 (mCons (mVar 1) mNil)) (mgName 4) (fun _ h => .ok true h) (acD (mCallP 3 F_shifted (mCons (mCallP 2 F_behind_turn (mCons (mVar 0) (mCons (mVar 3) mNil))) (mCons (mVar 4) (mCons (mVar 1) mNil)))) (mC (.bl true))) [4]) [] [3, 4])) mNil))))
def F_alike_to : Fn := mFnT 5 m_alike_to
abbrev s_coming_from : Stmt := top 37
def m_coming_from : MS :=
  (mRet (mFrz (mCBF listUD (mCons (mDicF (mCm (miU (mUn (attrD "Table" "group") (mVar 0))) (mgName 3) (fun _ h => .ok true h) (acD (mCallP 3 F_added (mCons (mCallP 2 F_behind_turn (mCons (mVar 1) (mCons (mVar 3) mNil))) (mCons (mVar 2) (mCons (mUn (attrD "Table" "size") (mVar 0)) mNil)))) (mC (.bl true))) [] [3])) mNil))))
def F_coming_from : Fn := mFnT 4 m_coming_from
abbrev s_first_reached : Stmt := top 47
def m_first_reached : MS :=
  (mRet (mDicF (mCm (miRng1 (mCons (mUn (attrD "Table" "size") (mVar 0)) mNil)) (mgName 1) (fun _ h => .ok true h) (acD (mCallP 3 F_shifted (mCons (mCallP 1 F_zeros (mCons (mVar 0) mNil)) (mCons (mVar 1) (mCons (mUn (attrD "Table" "size") (mVar 0)) mNil)))) (mC (.bl true))) [] [1])))
def F_first_reached : Fn := mFnT 2 m_first_reached
abbrev s_differences : Stmt := top 48
def m_differences : MS :=
  (mRet (mFrz (mLc (miU (mUn (attrD "Table" "group") (mVar 0))) (mgName 2) (fun _ h => .ok true h) (mCallP 3 F_lessened (mCons (mCallP 2 F_behind_turn (mCons (mVar 1) (mCons (mVar 2) mNil))) (mCons (mVar 1) (mCons (mUn (attrD "Table" "size") (mVar 0)) mNil)))) [2])))
def F_differences : Fn := mFnT 3 m_differences
abbrev s_times_until : Stmt := top 49
def m_times_until : MS :=
  (mSeq (mPar 3 4 (mCons (mC (.int 1)) (mCons (mVar 1) mNil)))
  (mSeq (mWhile (mBl (mBin (inUD true) (mVar 4) (mVar 2))) (mPar 3 4 (mCons (mBin addUD (mVar 3) (mC (.int 1))) (mCons (mCallP 3 F_added (mCons (mVar 4) (mCons (mVar 1) (mCons (mUn (attrD "Table" "size") (mVar 0)) mNil)))) mNil))) 100000)
  (mRet (mVar 3))))
def F_times_until : Fn := mFnT 5 m_times_until
abbrev s_reached_by : Stmt := top 51
def m_reached_by : MS :=
  (mSeq (mAsg (mTup (mCons (mCB dictD (mCons (mVar 2) mNil)) (mCons (mFrz (mCBF listUD (mCons (mVar 2) mNil))) mNil))) (mgSeq 2 (mgCons (mgName 3) (mgCons (mgName 4) mgNil))))
  (mSeq (mWhile (mTru (mVar 4)) (mSeq (mAsg (mFrz (mLc (miU (mVar 4)) (mgName 5) (fun _ h => .ok true h) (mCallP 3 F_added (mCons (mVar 5) (mCons (mVar 1) (mCons (mUn (attrD "Table" "size") (mVar 0)) mNil)))) [5])) (mgName 4))
  (mSeq (mAsg (mFrz (mLc (miU (mVar 4)) (mgName 5) (mBl (mBin (inUD true) (mVar 5) (mVar 3))) (mVar 5) [5])) (mgName 4))
  (mFor (miU (mVar 4)) (mgName 5) (mAsg (mC (.bl true)) (mgSubU (mVar 3) (mVar 5)))))) 100000)
  (mRet (mVar 3))))
def F_reached_by : Fn := mFnT 6 m_reached_by
abbrev s_head_in : Stmt := top 20
def m_head_in : MS :=
  (mSeq (mAsg (mIf (mTru (mCB isiD (mCons (mVar 0) (mCons (mC (.ty "str")) mNil)))) (mFrz (mSplit (mVar 0) (mC (.str " ")))) (mFrz (mLst mNil))) (mgName 1))
  (mSeq (mIfS (mOrT (mBl (mBin neD (mCB lenUD (mCons (mVar 1) mNil)) (mC (.int 4)))) (mOrT (mBl (mBin neD (mBin ixUD (mVar 1) (mC (.int 0))) (mC (.str "dials")))) (mBl (mBin neD (mBin ixUD (mVar 1) (mC (.int 2))) (mC (.str "marks")))))) (mRet (mC .non)) mNext)
  (mSeq (mPar 2 3 (mCons (mCallP 1 F_number_in (mCons (mBin ixUD (mVar 1) (mC (.int 1))) mNil)) (mCons (mCallP 1 F_number_in (mCons (mBin ixUD (mVar 1) (mC (.int 3))) mNil)) mNil)))
  (mSeq (mIfS (mOrT (mNotT (mTru (mCallP 3 F_is_between (mCons (mVar 2) (mCons (mC (.int 1)) (mCons (mC (.int 6)) mNil)))))) (mNotT (mTru (mCallP 3 F_is_between (mCons (mVar 3) (mCons (mC (.int 2)) (mCons (mC (.int 9)) mNil))))))) (mRet (mC .non)) mNext)
  (mRet (mIf (mBl (mBin (cmpD fun i j => decide (i ≤ j)) (mCallP 2 F_power_of (mCons (mVar 3) (mCons (mBin subD (mVar 2) (mC (.int 1))) mNil))) (mC (.int 32)))) (mTup (mCons (mVar 2) (mCons (mVar 3) mNil))) (mC .non)))))))
def F_head_in : Fn := mFnT 4 m_head_in
abbrev s_sweep : Stmt := top 29
def m_sweep : MS :=
  (mSeq (mAsg mDNew (mgName 3))
  (mSeq (mFor (miU (mCallP 2 F_all_standings (mCons (mVar 0) (mCons (mVar 1) mNil)))) (mgName 4) (mIfS (mBl (mBin (inUD true) (mVar 4) (mVar 3))) (mFor (miU (mCallP 3 F_alike_to (mCons (mVar 4) (mCons (mVar 1) (mCons (mVar 2) mNil))))) (mgName 5) (mAsg (mVar 4) (mgSubU (mVar 3) (mVar 5)))) mNext))
  (mRet (mVar 3))))
def F_sweep : Fn := mFnT 6 m_sweep
abbrev s_are_marks : Stmt := top 32
def m_are_marks : MS :=
  (mSeq (mIfS (mOrT (mNotT (mTru (mCB isiD (mCons (mVar 1) (mCons (mC (.ty "tuple")) mNil))))) (mBl (mBin neD (mCB lenUD (mCons (mVar 1) mNil)) (mUn (attrD "Table" "many") (mVar 0))))) (mRet (mC (.bl false))) mNext)
  (mRet (mCB (allD false) (mCons (mFrz (mLc (miU (mVar 1)) (mgName 2) (fun _ h => .ok true h) (mCallP 3 F_is_between (mCons (mVar 2) (mCons (mC (.int 0)) (mCons (mBin subD (mUn (attrD "Table" "size") (mVar 0)) (mC (.int 1))) mNil)))) [2])) mNil))))
def F_are_marks : Fn := mFnT 3 m_are_marks
abbrev s_left_of : Stmt := top 38
def m_left_of : MS :=
  (mSeq (mAsg (mFrz (mLc2 (miU (mVar 1)) (mgName 4) (fun _ h => .ok true h) (miU (mCallP 3 F_coming_from (mCons (mVar 0) (mCons (mVar 4) (mCons (mVar 2) mNil))))) (mgName 5) (mNotT (mTru (mCallP 1 F_is_bell (mCons (mVar 5) mNil)))) (mVar 5) [4, 5] [5])) (mgName 3))
  (mRet (mCB tupleD (mCons (mFrz (mSortS (mCm (miU (mVar 3)) (mgName 5) (fun _ h => .ok true h) (acS (mCallP 2 F_kind_of (mCons (mVar 0) (mCons (mVar 5) mNil)))) [] [5]))) mNil))))
def F_left_of : Fn := mFnT 6 m_left_of
abbrev s_is_step : Stmt := top 50
def m_is_step : MS :=
  (mSeq (mIfS (mOrT (mBl (mBin (inUD false) (mVar 2) (mVar 3))) (mOrT (mBl (mBin neD (mCallP 3 F_times_until (mCons (mVar 0) (mCons (mVar 2) (mCons (mVar 3) mNil)))) (mVar 1))) (mNotT (mTru (mCallP 1 F_is_prime (mCons (mVar 1) mNil)))))) (mRet (mC (.bl false))) mNext)
  (mRet (mCB (allD false) (mCons (mFrz (mLc (miU (mCallP 2 F_differences (mCons (mVar 0) (mCons (mVar 2) mNil)))) (mgName 4) (fun _ h => .ok true h) (mBin (inUD false) (mVar 4) (mVar 3)) [4])) mNil))))
def F_is_step : Fn := mFnT 5 m_is_step
abbrev s_wrong_rows : Stmt := top 22
def m_wrong_rows : MS :=
  (mSeq (mIfS (mNotT (mBl (mChain (cmpD fun i j => decide (i ≤ j)) (cmpD fun i j => decide (i ≤ j)) (mC (.int 1)) (mCB lenUD (mCons (mVar 0) mNil)) (mBin addUD (mC (.int 3)) (mC (.int 1)))))) (mRet (mTup (mCons (mC .non) mNil))) mNext)
  (mSeq (mAsg (mCallP 1 F_head_in (mCons (mBin ixUD (mVar 0) (mC (.int 0))) mNil)) (mgName 1))
  (mSeq (mIfS (mBl (mBin (isND false) (mVar 1) (mC .non))) (mRet (mTup (mCons (mC (.int 0)) mNil))) mNext)
  (mSeq (mFor (miEnum (mCons (mVar 0) mNil)) (mgSeq 2 (mgCons (mgName 2) (mgCons (mgName 3) mgNil))) (mIfS (mAndT (mBl (mBin (cmpD fun i j => decide (j < i)) (mVar 2) (mC (.int 0)))) (mBl (mBin (isND false) (mCallP 2 F_turn_in (mCons (mVar 3) (mCons (mBin ixUD (mVar 1) (mC (.int 0))) mNil))) (mC .non)))) (mRet (mTup (mCons (mVar 2) mNil))) mNext))
  (mRet (mTup mNil))))))
def F_wrong_rows : Fn := mFnT 4 m_wrong_rows
abbrev s_check_plan : Stmt := top 41
def m_check_plan : MS :=
  (mSeq (mIfS (mNotT (mTru (mCB isiD (mCons (mVar 1) (mCons (mC (.ty "tuple")) mNil))))) (fun _ _ => .bad) mNext)
  (mFor (miEnum (mCons (mVar 1) mNil)) (mgSeq 2 (mgCons (mgName 2) (mgCons (mgName 3) mgNil))) (mIfS (mNotT (mTru (mCallP 2 F_are_marks (mCons (mVar 0) (mCons (mVar 3) mNil))))) (fun _ _ => .bad) mNext)))
def F_check_plan : Fn := mFnT 4 m_check_plan
abbrev s_course_of : Stmt := top 42
def m_course_of : MS :=
  (mSeq (mAsg (mOwn (mLst (mCons (mUn (attrD "Table" "swept") (mVar 0)) mNil))) (mgName 2))
  (mSeq (mFor (miU (mVar 1)) (mgName 3) (mDrop (mMethT isLoc appendD (mVar 2) (mCons (mCallP 3 F_left_of (mCons (mVar 0) (mCons (mBin ixUD (mVar 2) (mUn negD (mC (.int 1)))) (mCons (mVar 3) mNil)))) mNil))))
  (mRet (mVar 2))))
def F_course_of : Fn := mFnT 4 m_course_of
abbrev s_next_step : Stmt := top 52
def m_next_step : MS :=
  (mSeq (mFor (miU (mCallP 2 F_all_standings (mCons (mUn (attrD "Table" "many") (mVar 0)) (mCons (mUn (attrD "Table" "size") (mVar 0)) mNil)))) (mgName 2) (mIfS (mBl (mBin (inUD true) (mVar 2) (mVar 1))) (mSeq (mAsg (mCallP 3 F_times_until (mCons (mVar 0) (mCons (mVar 2) (mCons (mVar 1) mNil)))) (mgName 3))
  (mIfS (mTru (mCallP 4 F_is_step (mCons (mVar 0) (mCons (mVar 3) (mCons (mVar 2) (mCons (mVar 1) mNil)))))) (mRet (mTup (mCons (mVar 3) (mCons (mVar 2) mNil)))) mNext)) mNext))
  (mRet (mC .non)))
def F_next_step : Fn := mFnT 4 m_next_step
abbrev s_shortest_from : Stmt := top 60
def b_shortest_from_1 : MS :=
  (mSeq (mAsg (mCB tupleD (mCons (mFrz (mSortS (mCm (miU (mVar 7)) (mgName 11) (fun _ h => .ok true h) (ac2 (miU (mBin ixND (mVar 3) (mTup (mCons (mVar 11) (mCons (mVar 8) mNil))))) (mgName 10) (fun _ h => .ok true h) (acS (mVar 10)) [10]) [] [11, 10]))) mNil)) (mgName 9))
  (mIfS (mBl (mBin (inND true) (mVar 9) (mVar 4))) (mSeq (mAsg (mTup (mStar (mBin ixND (mVar 4) (mVar 7)) (mCons (mVar 8) mNil))) (mgSubN (mVar 4) (mVar 9)))
  (mDrop (mMethT isLoc appendD (mVar 6) (mCons (mVar 9) mNil)))) mNext))
def m_shortest_from : MS :=
  (mSeq (mAsg (mFrz (mLc (miU (mCallP 2 F_all_standings (mCons (mUn (attrD "Table" "many") (mVar 0)) (mCons (mUn (attrD "Table" "size") (mVar 0)) mNil)))) (mgName 8) (mBl (mBin eqD (mBin ixUD (mVar 8) (mC (.int 0))) (mC (.int 0)))) (mVar 8) [8])) (mgName 2))
  (mSeq (mAsg (mNdO (mCm (miU (mUn (attrD "Table" "swept") (mVar 0))) (mgName 10) (fun _ h => .ok true h) (ac2 (miU (mVar 2)) (mgName 8) (fun _ h => .ok true h) (acN (mTup (mCons (mVar 10) (mCons (mVar 8) mNil))) (mCallP 3 F_left_of (mCons (mVar 0) (mCons (mTup (mCons (mVar 10) mNil)) (mCons (mVar 8) mNil))))) [8]) [] [10, 8])) (mgName 3))
  (mSeq (mPar 4 5 (mCons (mDispN (mVar 1) (mTup mNil)) (mCons (mFrz (mLst (mCons (mVar 1) mNil))) mNil)))
  (mSeq (mWhile (mAndT (mTru (mVar 5)) (mBl (mBin (inND true) (mTup mNil) (mVar 4)))) (mSeq (mAsg (mOwn (mLst mNil)) (mgName 6))
  (mSeq (mFor (miU (mVar 5)) (mgName 7) (mFor (miU (mVar 2)) (mgName 8) b_shortest_from_1))
  (mAsg (mVar 6) (mgName 5)))) 100000)
  (mRet (mMethT isNd getND (mVar 4) (mCons (mTup mNil) mNil)))))))
def F_shortest_from : Fn := mFnT 12 m_shortest_from
abbrev s_Table___init__ : Stmt := topM 25 0
def m_Table___init__ : MS :=
  (mSeq (mAsg (mCallP 1 F_wrong_rows (mCons (mVar 1) mNil)) (mgName 2))
  (mSeq (mIfS (mTru (mVar 2)) (fun _ _ => .bad) mNext)
  (mSeq (mAsg (mVar 1) (mgFld "Table" "told" (mVar 0)))
  (mSeq (mAsg (mCallP 1 F_head_in (mCons (mBin ixUD (mVar 1) (mC (.int 0))) mNil)) (mgSeq 2 (mgCons (mgFld "Table" "many" (mVar 0)) (mgCons (mgFld "Table" "size" (mVar 0)) mgNil))))
  (mSeq (mAsg (mCallP 2 F_all_turns (mCons (mUn (attrD "Table" "many") (mVar 0)) (mCons (mFrz (mLc (miU (mSlU (mVar 1) (mPart (mC (.int 1))) mNoPart)) (mgName 4) (fun _ h => .ok true h) (mCallP 2 F_turn_in (mCons (mVar 4) (mCons (mUn (attrD "Table" "many") (mVar 0)) mNil))) [4])) mNil))) (mgFld "Table" "group" (mVar 0)))
  (mSeq (mAsg (mCallP 3 F_sweep (mCons (mUn (attrD "Table" "many") (mVar 0)) (mCons (mUn (attrD "Table" "size") (mVar 0)) (mCons (mUn (attrD "Table" "group") (mVar 0)) mNil)))) (mgFld "Table" "known" (mVar 0)))
  (mSeq (mAsg (mBin mulUD (mTup (mCons (mC (.int 0)) mNil)) (mUn (attrD "Table" "many") (mVar 0))) (mgName 3))
  (mAsg (mCB tupleD (mCons (mFrz (mSortS (mCm (miU (mUn (attrD "Table" "known") (mVar 0))) (mgName 5) (mBl (mBin neD (mBin ixUD (mUn (attrD "Table" "known") (mVar 0)) (mVar 5)) (mVar 3))) (acS (mBin ixUD (mUn (attrD "Table" "known") (mVar 0)) (mVar 5))) [] [5]))) mNil)) (mgFld "Table" "swept" (mVar 0))))))))))
def F_Table___init__ : Fn := mFnT 6 m_Table___init__
abbrev s_is_sure : Stmt := top 43
def m_is_sure : MS :=
  (mRet (mBin eqD (mBin ixUD (mCallP 2 F_course_of (mCons (mVar 0) (mCons (mVar 1) mNil))) (mUn negD (mC (.int 1)))) (mTup mNil)))
def F_is_sure : Fn := mFnT 2 m_is_sure
abbrev s_chain_of : Stmt := top 53
def m_chain_of : MS :=
  (mSeq (mPar 1 2 (mCons (mOwn (mLst mNil)) (mCons (mCallP 1 F_first_reached (mCons (mVar 0) mNil)) mNil)))
  (mSeq (mAsg (mCallP 2 F_next_step (mCons (mVar 0) (mCons (mVar 2) mNil))) (mgName 3))
  (mSeq (mWhile (mBl (mBin (isND true) (mVar 3) (mC .non))) (mSeq (mDrop (mMethT isLoc appendD (mVar 1) (mCons (mVar 3) mNil)))
  (mSeq (mAsg (mCallP 3 F_reached_by (mCons (mVar 0) (mCons (mBin ixUD (mVar 3) (mC (.int 1))) (mCons (mVar 2) mNil)))) (mgName 2))
  (mAsg (mCallP 2 F_next_step (mCons (mVar 0) (mCons (mVar 2) mNil))) (mgName 3)))) 100000)
  (mRet (mTup (mCons (mCB tupleD (mCons (mVar 1) mNil)) (mCons (mVar 2) mNil)))))))
def F_chain_of : Fn := mFnT 4 m_chain_of
abbrev s_fewest_of : Stmt := top 62
def m_fewest_of : MS :=
  (mSeq (mAsg (mCallP 2 F_shortest_from (mCons (mVar 0) (mCons (mUn (attrD "Table" "swept") (mVar 0)) mNil))) (mgName 1))
  (mRet (mIf (mBl (mBin (isND false) (mVar 1) (mC .non))) (mC .non) (mCB lenUD (mCons (mVar 1) mNil)))))
def F_fewest_of : Fn := mFnT 2 m_fewest_of
abbrev s_surely : Stmt := top 44
def m_surely : MS :=
  (mSeq (mDrop (mCallP 1 F_check_table (mCons (mVar 0) mNil)))
  (mSeq (mDrop (mCallP 2 F_check_plan (mCons (mVar 0) (mCons (mVar 1) mNil))))
  (mRet (mCallP 2 F_is_sure (mCons (mVar 0) (mCons (mVar 1) mNil))))))
def F_surely : Fn := mFnT 2 m_surely
abbrev s_trap_of : Stmt := top 54
def m_trap_of : MS :=
  (mSeq (mAsg (mBin ixUD (mCallP 1 F_chain_of (mCons (mVar 0) mNil)) (mC (.int 1))) (mgName 1))
  (mRet (mCB tupleD (mCons (mFrz (mLc (miU (mUn (attrD "Table" "swept") (mVar 0))) (mgName 2) (mBl (mBin (inUD true) (mVar 2) (mVar 1))) (mVar 2) [2])) mNil))))
def F_trap_of : Fn := mFnT 3 m_trap_of
abbrev s_fewest : Stmt := top 63
def m_fewest : MS :=
  (mSeq (mDrop (mCallP 1 F_check_table (mCons (mVar 0) mNil)))
  (mSeq (mDrop (mCallP 1 F_check_kinds (mCons (mVar 0) mNil)))
  (mRet (mCallP 1 F_fewest_of (mCons (mVar 0) mNil)))))
def F_fewest : Fn := mFnT 1 m_fewest
abbrev s_can : Stmt := top 55
def m_can : MS :=
  (mSeq (mDrop (mCallP 1 F_check_table (mCons (mVar 0) mNil)))
  (mRet (mBin eqD (mCallP 1 F_trap_of (mCons (mVar 0) mNil)) (mTup mNil))))
def F_can : Fn := mFnT 1 m_can
abbrev s_built_of : Stmt := top 57
def m_built_of : MS :=
  (mRet (mIf (mBl (mBin eqD (mCallP 1 F_trap_of (mCons (mVar 0) mNil)) (mTup mNil))) (mCallP 1 F_plan_of (mCons (mBin ixUD (mCallP 1 F_chain_of (mCons (mVar 0) mNil)) (mC (.int 0))) mNil)) (mC .non)))
def F_built_of : Fn := mFnT 1 m_built_of
abbrev s_trap : Stmt := top 59
def m_trap : MS :=
  (mSeq (mDrop (mCallP 1 F_check_table (mCons (mVar 0) mNil)))
  (mRet (mCallP 1 F_trap_of (mCons (mVar 0) mNil))))
def F_trap : Fn := mFnT 1 m_trap
abbrev s__law_ring : Stmt := top 65
def m__law_ring : MS :=
  (mRet (mMake "Table" F_Table___init__ (mCons (mBin addUD (mBin addUD (mBin addUD (mC (.str "dials ")) (mCB strD (mCons (mVar 0) mNil))) (mC (.str " marks "))) (mCB strD (mCons (mVar 1) mNil))) (mCons (mC (.str "turn ring")) mNil))))
def F__law_ring : Fn := mFnT 2 m__law_ring
abbrev s_built : Stmt := top 58
def m_built : MS :=
  (mSeq (mDrop (mCallP 1 F_check_table (mCons (mVar 0) mNil)))
  (mRet (mCallP 1 F_built_of (mCons (mVar 0) mNil))))
def F_built : Fn := mFnT 1 m_built
abbrev s_law : Stmt := top 66
def m_law : MS :=
  (mSeq (mAsg (mCallP 2 F__law_ring (mCons (mC (.int 4)) (mCons (mC (.int 2)) mNil))) (mgName 1))
  (mSeq (mIfS (mOrT (mBl (mBin neD (mCallP 1 F_fewest (mCons (mVar 1) mNil)) (mC (.int 7)))) (mOrT (mBl (mBin neD (mCB lenUD (mCons (mCallP 1 F_built (mCons (mVar 1) mNil)) mNil)) (mC (.int 7)))) (mBl (mBin neD (mCallP 1 F_trap (mCons (mVar 1) mNil)) (mTup mNil))))) (mRet (mC (.bl false))) mNext)
  (mSeq (mIfS (mNotT (mTru (mCallP 2 F_surely (mCons (mVar 1) (mCons (mTup (mCons (mTup (mCons (mC (.int 0)) (mCons (mC (.int 1)) (mCons (mC (.int 0)) (mCons (mC (.int 1)) mNil))))) (mCons (mTup (mCons (mC (.int 0)) (mCons (mC (.int 0)) (mCons (mC (.int 1)) (mCons (mC (.int 1)) mNil))))) (mCons (mTup (mCons (mC (.int 0)) (mCons (mC (.int 1)) (mCons (mC (.int 0)) (mCons (mC (.int 1)) mNil))))) (mCons (mTup (mCons (mC (.int 0)) (mCons (mC (.int 0)) (mCons (mC (.int 0)) (mCons (mC (.int 1)) mNil))))) (mCons (mTup (mCons (mC (.int 0)) (mCons (mC (.int 1)) (mCons (mC (.int 0)) (mCons (mC (.int 1)) mNil))))) (mCons (mTup (mCons (mC (.int 0)) (mCons (mC (.int 0)) (mCons (mC (.int 1)) (mCons (mC (.int 1)) mNil))))) (mCons (mTup (mCons (mC (.int 0)) (mCons (mC (.int 1)) (mCons (mC (.int 0)) (mCons (mC (.int 1)) mNil))))) mNil)))))))) mNil))))) (mRet (mC (.bl false))) mNext)
  (mSeq (mIfS (mBl (mBin neD (mFrz (mLc (miRng2 (mCons (mC (.int 2)) (mCons (mC (.int 10)) mNil))) (mgName 4) (fun _ h => .ok true h) (mCallP 1 F_can (mCons (mCallP 2 F__law_ring (mCons (mC (.int 2)) (mCons (mVar 4) mNil))) mNil)) [4])) (mFrz (mLst (mCons (mC (.bl true)) (mCons (mC (.bl false)) (mCons (mC (.bl true)) (mCons (mC (.bl false)) (mCons (mC (.bl false)) (mCons (mC (.bl false)) (mCons (mC (.bl true)) (mCons (mC (.bl false)) mNil)))))))))))) (mRet (mC (.bl false))) mNext)
  (mSeq (mIfS (mBl (mBin neD (mFrz (mLc (miRng2 (mCons (mC (.int 2)) (mCons (mC (.int 6)) mNil))) (mgName 4) (fun _ h => .ok true h) (mCallP 1 F_can (mCons (mCallP 2 F__law_ring (mCons (mC (.int 3)) (mCons (mVar 4) mNil))) mNil)) [4])) (mFrz (mLst (mCons (mC (.bl false)) (mCons (mC (.bl true)) (mCons (mC (.bl false)) (mCons (mC (.bl false)) mNil)))))))) (mRet (mC (.bl false))) mNext)
  (mSeq (mIfS (mBl (mBin neD (mFrz (mLc (miRng2 (mCons (mC (.int 1)) (mCons (mC (.int 7)) mNil))) (mgName 5) (fun _ h => .ok true h) (mCallP 1 F_can (mCons (mCallP 2 F__law_ring (mCons (mVar 5) (mCons (mC (.int 2)) mNil))) mNil)) [5])) (mFrz (mLst (mCons (mC (.bl true)) (mCons (mC (.bl true)) (mCons (mC (.bl false)) (mCons (mC (.bl true)) (mCons (mC (.bl false)) (mCons (mC (.bl false)) mNil)))))))))) (mRet (mC (.bl false))) mNext)
  (mSeq (mIfS (mOrT (mTru (mCallP 1 F_can (mCons (mCallP 2 F__law_ring (mCons (mC (.int 4)) (mCons (mC (.int 3)) mNil))) mNil))) (mOrT (mBl (mBin neD (mCB lenUD (mCons (mCallP 1 F_trap (mCons (mCallP 2 F__law_ring (mCons (mC (.int 5)) (mCons (mC (.int 2)) mNil))) mNil)) mNil)) (mC (.int 3)))) (mBl (mBin (isND true) (mCallP 1 F_fewest (mCons (mCallP 2 F__law_ring (mCons (mC (.int 5)) (mCons (mC (.int 2)) mNil))) mNil)) (mC .non))))) (mRet (mC (.bl false))) mNext)
  (mSeq (mAsg (mMake "Table" F_Table___init__ (mCons (mC (.str "dials 4 marks 2")) (mCons (mC (.str "turn 1 0 2 3")) (mCons (mC (.str "turn 0 1 3 2")) mNil)))) (mgName 2))
  (mSeq (mAsg (mMake "Table" F_Table___init__ (mCons (mC (.str "dials 4 marks 2")) (mCons (mC (.str "turn 1 0 2 3")) (mCons (mC (.str "turn ring")) mNil)))) (mgName 3))
  (mRet (mAnd (mCallP 1 F_can (mCons (mVar 2) mNil)) (mAnd (mNot (mCallP 1 F_can (mCons (mVar 3) mNil))) (mAnd (mBin eqD (mCB lenUD (mCons (mProp "Table" F_Table_turns (mVar 3)) mNil)) (mC (.int 24))) (mBin eqD (mCB lenUD (mCons (mProp "Table" F_Table_turns (mVar 2)) mNil)) (mC (.int 4))))))))))))))))
def F_law : Fn := mFnT 6 m_law
end K33

namespace K33
open PySem PySem.Spec PyProof.Rows L2 Ab
/-! each def is walked -/
theorem sc_is_integer : FnScope ["value"] ["value"] (defScope s_is_integer) := ⟨rfl, rfl, rfl, by decide +kernel, rfl, by decide +kernel, by decide +kernel⟩
theorem sc_number_in : FnScope ["word", "sign"] ["word"] (defScope s_number_in) := ⟨rfl, rfl, rfl, by decide +kernel, rfl, by decide +kernel, by decide +kernel⟩
theorem sc_power_of : FnScope ["base", "times", "found", "turn"] ["base", "times"] (defScope s_power_of) := ⟨rfl, rfl, rfl, by decide +kernel, rfl, by decide +kernel, by decide +kernel⟩
theorem sc_behind_turn : FnScope ["places", "turn", "found", "place", "target"] ["places", "turn"] (defScope s_behind_turn) := ⟨rfl, rfl, rfl, by decide +kernel, rfl, by decide +kernel, by decide +kernel⟩
theorem sc_all_turns : FnScope ["dials", "told", "found", "waiting", "first", "turn", "both", "target"] ["dials", "told"] (defScope s_all_turns) := ⟨rfl, rfl, rfl, by decide +kernel, rfl, by decide +kernel, by decide +kernel⟩
theorem sc_Table_turns : FnScope ["self"] ["self"] (defScope s_Table_turns) := ⟨rfl, rfl, rfl, by decide +kernel, rfl, by decide +kernel, by decide +kernel⟩
theorem sc_shifted : FnScope ["standing", "by", "size", "mark"] ["standing", "by", "size"] (defScope s_shifted) := ⟨rfl, rfl, rfl, by decide +kernel, rfl, by decide +kernel, by decide +kernel⟩
theorem sc_all_standings : FnScope ["many", "size", "found", "place", "standing", "mark"] ["many", "size"] (defScope s_all_standings) := ⟨rfl, rfl, rfl, by decide +kernel, rfl, by decide +kernel, by decide +kernel⟩
theorem sc_check_table : FnScope ["value"] ["value"] (defScope s_check_table) := ⟨rfl, rfl, rfl, by decide +kernel, rfl, by decide +kernel, by decide +kernel⟩
theorem sc_is_bell : FnScope ["standing", "mark"] ["standing"] (defScope s_is_bell) := ⟨rfl, rfl, rfl, by decide +kernel, rfl, by decide +kernel, by decide +kernel⟩
theorem sc_added : FnScope ["one", "other", "size", "first", "second"] ["one", "other", "size"] (defScope s_added) := ⟨rfl, rfl, rfl, by decide +kernel, rfl, by decide +kernel, by decide +kernel⟩
theorem sc_lessened : FnScope ["one", "other", "size", "first", "second"] ["one", "other", "size"] (defScope s_lessened) := ⟨rfl, rfl, rfl, by decide +kernel, rfl, by decide +kernel, by decide +kernel⟩
theorem sc_kind_of : FnScope ["table", "standing"] ["table", "standing"] (defScope s_kind_of) := ⟨rfl, rfl, rfl, by decide +kernel, rfl, by decide +kernel, by decide +kernel⟩
theorem sc_zeros : FnScope ["table"] ["table"] (defScope s_zeros) := ⟨rfl, rfl, rfl, by decide +kernel, rfl, by decide +kernel, by decide +kernel⟩
theorem sc_is_prime : FnScope ["value", "factor"] ["value"] (defScope s_is_prime) := ⟨rfl, rfl, rfl, by decide +kernel, rfl, by decide +kernel, by decide +kernel⟩
theorem sc_plan_of : FnScope ["steps", "found", "prime", "move"] ["steps"] (defScope s_plan_of) := ⟨rfl, rfl, rfl, by decide +kernel, rfl, by decide +kernel, by decide +kernel⟩
theorem sc_check_kinds : FnScope ["table"] ["table"] (defScope s_check_kinds) := ⟨rfl, rfl, rfl, by decide +kernel, rfl, by decide +kernel, by decide +kernel⟩
theorem sc_is_between : FnScope ["value", "least", "most"] ["value", "least", "most"] (defScope s_is_between) := ⟨rfl, rfl, rfl, by decide +kernel, rfl, by decide +kernel, by decide +kernel⟩
theorem sc_turn_in : FnScope ["row", "dials", "words", "found", "place", "word"] ["row", "dials"] (defScope s_turn_in) := ⟨rfl, rfl, rfl, by decide +kernel, rfl, by decide +kernel, by decide +kernel⟩
theorem sc_alike_to : FnScope ["standing", "size", "group", "turn", "by"] ["standing", "size", "group"] (defScope s_alike_to) := ⟨rfl, rfl, rfl, by decide +kernel, rfl, by decide +kernel, by decide +kernel⟩
theorem sc_coming_from : FnScope ["table", "kind", "move", "turn"] ["table", "kind", "move"] (defScope s_coming_from) := ⟨rfl, rfl, rfl, by decide +kernel, rfl, by decide +kernel, by decide +kernel⟩
theorem sc_first_reached : FnScope ["table", "by"] ["table"] (defScope s_first_reached) := ⟨rfl, rfl, rfl, by decide +kernel, rfl, by decide +kernel, by decide +kernel⟩
theorem sc_differences : FnScope ["table", "standing", "turn"] ["table", "standing"] (defScope s_differences) := ⟨rfl, rfl, rfl, by decide +kernel, rfl, by decide +kernel, by decide +kernel⟩
theorem sc_times_until : FnScope ["table", "standing", "reached", "found", "here"] ["table", "standing", "reached"] (defScope s_times_until) := ⟨rfl, rfl, rfl, by decide +kernel, rfl, by decide +kernel, by decide +kernel⟩
theorem sc_reached_by : FnScope ["table", "move", "reached", "found", "layer", "each"] ["table", "move", "reached"] (defScope s_reached_by) := ⟨rfl, rfl, rfl, by decide +kernel, rfl, by decide +kernel, by decide +kernel⟩
theorem sc_head_in : FnScope ["row", "words", "dials", "marks"] ["row"] (defScope s_head_in) := ⟨rfl, rfl, rfl, by decide +kernel, rfl, by decide +kernel, by decide +kernel⟩
theorem sc_sweep : FnScope ["many", "size", "group", "known", "standing", "other"] ["many", "size", "group"] (defScope s_sweep) := ⟨rfl, rfl, rfl, by decide +kernel, rfl, by decide +kernel, by decide +kernel⟩
theorem sc_are_marks : FnScope ["table", "value", "mark"] ["table", "value"] (defScope s_are_marks) := ⟨rfl, rfl, rfl, by decide +kernel, rfl, by decide +kernel, by decide +kernel⟩
theorem sc_left_of : FnScope ["table", "lot", "move", "some", "kind", "standing"] ["table", "lot", "move"] (defScope s_left_of) := ⟨rfl, rfl, rfl, by decide +kernel, rfl, by decide +kernel, by decide +kernel⟩
theorem sc_is_step : FnScope ["table", "prime", "move", "reached", "each"] ["table", "prime", "move", "reached"] (defScope s_is_step) := ⟨rfl, rfl, rfl, by decide +kernel, rfl, by decide +kernel, by decide +kernel⟩
theorem sc_wrong_rows : FnScope ["rows", "head", "index", "row"] ["rows"] (defScope s_wrong_rows) := ⟨rfl, rfl, rfl, by decide +kernel, rfl, by decide +kernel, by decide +kernel⟩
theorem sc_check_plan : FnScope ["table", "plan", "index", "move"] ["table", "plan"] (defScope s_check_plan) := ⟨rfl, rfl, rfl, by decide +kernel, rfl, by decide +kernel, by decide +kernel⟩
theorem sc_course_of : FnScope ["table", "plan", "found", "move"] ["table", "plan"] (defScope s_course_of) := ⟨rfl, rfl, rfl, by decide +kernel, rfl, by decide +kernel, by decide +kernel⟩
theorem sc_next_step : FnScope ["table", "reached", "move", "prime"] ["table", "reached"] (defScope s_next_step) := ⟨rfl, rfl, rfl, by decide +kernel, rfl, by decide +kernel, by decide +kernel⟩
theorem sc_shortest_from : FnScope ["table", "lot", "moves", "single", "ways", "waiting", "later", "here", "move", "behind", "kind", "each"] ["table", "lot"] (defScope s_shortest_from) := ⟨rfl, rfl, rfl, by decide +kernel, rfl, by decide +kernel, by decide +kernel⟩
theorem sc_Table___init__ : FnScope ["self", "rows", "wrong", "nothing", "row", "each"] ["self", "rows"] (defScope s_Table___init__) := ⟨rfl, rfl, rfl, by decide +kernel, rfl, by decide +kernel, by decide +kernel⟩
theorem sc_is_sure : FnScope ["table", "plan"] ["table", "plan"] (defScope s_is_sure) := ⟨rfl, rfl, rfl, by decide +kernel, rfl, by decide +kernel, by decide +kernel⟩
theorem sc_chain_of : FnScope ["table", "found", "reached", "step"] ["table"] (defScope s_chain_of) := ⟨rfl, rfl, rfl, by decide +kernel, rfl, by decide +kernel, by decide +kernel⟩
theorem sc_fewest_of : FnScope ["table", "found"] ["table"] (defScope s_fewest_of) := ⟨rfl, rfl, rfl, by decide +kernel, rfl, by decide +kernel, by decide +kernel⟩
theorem sc_surely : FnScope ["table", "plan"] ["table", "plan"] (defScope s_surely) := ⟨rfl, rfl, rfl, by decide +kernel, rfl, by decide +kernel, by decide +kernel⟩
theorem sc_trap_of : FnScope ["table", "reached", "kind"] ["table"] (defScope s_trap_of) := ⟨rfl, rfl, rfl, by decide +kernel, rfl, by decide +kernel, by decide +kernel⟩
theorem sc_fewest : FnScope ["table"] ["table"] (defScope s_fewest) := ⟨rfl, rfl, rfl, by decide +kernel, rfl, by decide +kernel, by decide +kernel⟩
theorem sc_can : FnScope ["table"] ["table"] (defScope s_can) := ⟨rfl, rfl, rfl, by decide +kernel, rfl, by decide +kernel, by decide +kernel⟩
theorem sc_built_of : FnScope ["table"] ["table"] (defScope s_built_of) := ⟨rfl, rfl, rfl, by decide +kernel, rfl, by decide +kernel, by decide +kernel⟩
theorem sc_trap : FnScope ["table"] ["table"] (defScope s_trap) := ⟨rfl, rfl, rfl, by decide +kernel, rfl, by decide +kernel, by decide +kernel⟩
theorem sc__law_ring : FnScope ["_law_dial_count", "_law_size"] ["_law_dial_count", "_law_size"] (defScope s__law_ring) := ⟨rfl, rfl, rfl, by decide +kernel, rfl, by decide +kernel, by decide +kernel⟩
theorem sc_built : FnScope ["table"] ["table"] (defScope s_built) := ⟨rfl, rfl, rfl, by decide +kernel, rfl, by decide +kernel, by decide +kernel⟩
theorem sc_law : FnScope ["_law_script", "_law_glasses", "_law_cross", "_law_wild", "_law_size", "_law_dial_count"] ["_law_script"] (defScope s_law) := ⟨rfl, rfl, rfl, by decide +kernel, rfl, by decide +kernel, by decide +kernel⟩
section
variable {P : Program} {w : World} {K : PySem.W.Frag} {mg : Str → Option Value} {base : Heap} {f : Addr} {fd : FuncData}
theorem ok_is_integer (F : FnP K "is_integer" "is_integer" s_is_integer f fd) (g_bool : mg "bool" = none) (g_int : mg "int" = none) (g_isinstance : mg "isinstance" = none) :
    FnG P w K mg base CX0 1 f fd ["value"] (spD K 1 F_is_integer) := by
  refine fn_okTG F sc_is_integer fun cdv A outer s H E hr hgu => ?_
  exact JSs.b (K := K) (m := m_is_integer) (jss_one (js_ret (je_and (je_b jb_isi g_isinstance (ja_cons (je_v 0) (ja_cons (je_ty g_int) ja_nil))) (je_one (je_not (je_b jb_isi g_isinstance (ja_cons (je_v 0) (ja_cons (je_ty g_bool) ja_nil))))))))
theorem ok_number_in (F : FnP K "number_in" "number_in" s_number_in f fd) (g_FIGURES : ∃ t, mg "FIGURES" = some (.str "0123456789" t)) (g_all : mg "all" = none) (g_int : mg "int" = none) :
    FnG P w K mg base CX0 1 f fd ["word"] (spD K 1 F_number_in) := by
  refine fn_okTG F sc_number_in fun cdv A outer s H E hr hgu => ?_
  exact JSs.b (K := K) (m := m_number_in) (jss_cons (js_if (JW.jt (jw_or (jt_cmp (jc_eq hr) (je_v 0) je_str) (jw_or1 (jt_not (jt_tru (je_b jb_all g_all (ja_cons (JF.f (jf_lc sc_number_in.nd (ji_U (je_v 0)) (own := [("sign", 1)]) (blkOk_by (N := ["word", "sign"]) (sc := defScope s_number_in) (by decide +kernel)) (gw_name (by decide)) (fun _ _ _ _ _ => (jg_n 1 sc_number_in.nd)) (fun _ _ _ _ _ => jts_nil) (fun _ _ _ _ _ => (je_cmp (jc_inU hr) (je_v 1) (je_gstr g_FIGURES))))) ja_nil))))))) (jss_one (js_ret je_non)) jss_nil)
    (jss_one (js_ret (je_if (JW.jt (jw_or (jt_cmp (jc_ne hr) (je_ixU hr (je_v 0) je_int) je_str) (jw_or1 (jt_cmp (jc_eq hr) (je_v 0) je_str)))) (je_t jb_intU g_int (ja_cons (je_v 0) ja_nil)) je_non))))
theorem ok_power_of (F : FnP K "power_of" "power_of" s_power_of f fd) (g_range : mg "range" = none) :
    FnG P w K mg base CX0 1 f fd ["base", "times"] (spD K 2 F_power_of) := by
  refine fn_okTG F sc_power_of fun cdv A outer s H E hr hgu => ?_
  exact JSs.b (K := K) (m := m_power_of) (jss_cons (js_set 2 sc_power_of.nd je_int)
    (jss_cons (js_for (ji_rng1 g_range (ja_cons (je_v 1) ja_nil)) (jg_n 3 sc_power_of.nd) (jss_one (js_set 2 sc_power_of.nd (je_mulU (je_v 2) (je_v 0)))))
    (jss_one (js_ret (je_v 2)))))
theorem ok_behind_turn (F : FnP K "behind_turn" "behind_turn" s_behind_turn f fd) (g_enumerate : mg "enumerate" = none) (g_list : mg "list" = none) (g_tuple : mg "tuple" = none) :
    FnG P w K mg base CX0 1 f fd ["places", "turn"] (spD K 2 F_behind_turn) := by
  refine fn_okTG F sc_behind_turn fun cdv A outer s H E hr hgu => ?_
  exact JSs.b (K := K) (m := m_behind_turn) (jss_cons (js_set 2 sc_behind_turn.nd (JF.o (jf_t jb_listU g_list (ja_cons (je_v 0) ja_nil))))
    (jss_cons (js_for (ji_enum g_enumerate (ja_cons (je_v 1) ja_nil)) (jg_seqT (jgs_cons (jg_n 3 sc_behind_turn.nd) (jgs_cons (jg_n 4 sc_behind_turn.nd) jgs_nil))) (jss_one (js_asg (je_ixU hr (je_v 0) (je_v 3)) (jg_subU hr (je_v 2) (je_v 4)))))
    (jss_one (js_ret (je_t jb_tuple g_tuple (ja_cons (je_v 2) ja_nil))))))
theorem ok_all_turns (F : FnP K "all_turns" "all_turns" s_all_turns f fd) (g_range : mg "range" = none) (g_sorted : mg "sorted" = none) (g_tuple : mg "tuple" = none) :
    FnG P w K mg base CX0 1 f fd ["dials", "told"] (spD K 2 F_all_turns) := by
  refine fn_okTG F sc_all_turns fun cdv A outer s H E hr hgu => ?_
  exact JSs.b (K := K) (m := m_all_turns) (jss_cons (js_par 2 3 sc_all_turns.nd (ja_cons (je_disp1 hr (je_tupRg g_tuple (jr_1 g_range (je_v 0))) je_bl) (ja_cons (JF.o (jf_lst (ja_cons (je_tupRg g_tuple (jr_1 g_range (je_v 0))) ja_nil))) ja_nil)))
    (jss_cons (js_while 100000 (jt_tru (je_v 3)) (jss_cons (js_set 4 sc_all_turns.nd (je_m0 PySem.F.plainAttrs_list PySem.F.slot_list_pop PySem.F.type_list_pop jm_pop (je_v 3)))
    (jss_one (js_for (ji_U (je_v 1)) (jg_n 5 sc_all_turns.nd) (jss_cons (js_set 6 sc_all_turns.nd (je_t jb_tuple g_tuple (ja_cons (JF.f (jf_lc sc_all_turns.nd (ji_U (je_v 4)) (own := [("target", 7)]) (blkOk_by (N := ["dials", "told", "found", "waiting", "first", "turn", "both", "target"]) (sc := defScope s_all_turns) (by decide +kernel)) (gw_name (by decide)) (fun _ _ _ _ _ => (jg_n 7 sc_all_turns.nd)) (fun _ _ _ _ _ => jts_nil) (fun _ _ _ _ _ => (je_ixU hr (je_v 5) (je_v 7))))) ja_nil)))
    (jss_one (js_if (jt_cmp (jc_notInU hr) (je_v 6) (je_v 2)) (jss_cons (js_asg je_bl (jg_subU hr (je_v 2) (je_v 6)))
    (jss_one (js_expr (je_m PySem.F.plainAttrs_list PySem.F.slot_list_append PySem.F.type_list_append jm_append (je_v 3) (ja_cons (je_v 6) ja_nil))))) jss_nil)))))))
    (jss_one (js_ret (je_t jb_tuple g_tuple (ja_cons (JF.f (jf_b jb_sortedU g_sorted (ja_cons (je_v 2) ja_nil))) ja_nil))))))
theorem ok_Table_turns (F : FnP K "turns" "Table.turns" s_Table_turns f fd) (k_Table : Cls K (He.ga K "Table")) (n_Table_group : NoAttr K (He.ga K "Table") "group") :
    FnG P w K mg base CX0 1 f fd ["self"] (spD K 1 F_Table_turns) := by
  refine fn_okTG F sc_Table_turns fun cdv A outer s H E hr hgu => ?_
  exact JSs.b (K := K) (m := m_Table_turns) (jss_one (js_ret (je_attr k_Table n_Table_group (je_v 0))))
theorem ok_shifted (F : FnP K "shifted" "shifted" s_shifted f fd) (g_tuple : mg "tuple" = none) :
    FnG P w K mg base CX0 1 f fd ["standing", "by", "size"] (spD K 3 F_shifted) := by
  refine fn_okTG F sc_shifted fun cdv A outer s H E hr hgu => ?_
  exact JSs.b (K := K) (m := m_shifted) (jss_one (js_ret (je_t jb_tuple g_tuple (ja_cons (JF.f (jf_lc sc_shifted.nd (ji_U (je_v 0)) (own := [("mark", 3)]) (blkOk_by (N := ["standing", "by", "size", "mark"]) (sc := defScope s_shifted) (by decide +kernel)) (gw_name (by decide)) (fun _ _ _ _ _ => (jg_n 3 sc_shifted.nd)) (fun _ _ _ _ _ => jts_nil) (fun _ _ _ _ _ => (je_mod (je_addU (je_v 3) (je_v 1)) (je_v 2))))) ja_nil))))
theorem ok_all_standings (F : FnP K "all_standings" "all_standings" s_all_standings f fd) (g_range : mg "range" = none) :
    FnG P w K mg base CX0 1 f fd ["many", "size"] (spD K 2 F_all_standings) := by
  refine fn_okTG F sc_all_standings fun cdv A outer s H E hr hgu => ?_
  exact JSs.b (K := K) (m := m_all_standings) (jss_cons (js_set 2 sc_all_standings.nd (JF.f (jf_lst (ja_cons (je_tup ja_nil) ja_nil))))
    (jss_cons (js_for (ji_rng1 g_range (ja_cons (je_v 0) ja_nil)) (jg_n 3 sc_all_standings.nd) (jss_one (js_setLc2 2 sc_all_standings.nd (ji_U (je_v 2)) (own := [("standing", 4), ("mark", 5)]) (vs1 := [5]) (blkOk_by (N := ["many", "size", "found", "place", "standing", "mark"]) (sc := defScope s_all_standings) (by decide +kernel)) (gw_name (by decide)) (gw_name (by decide)) (by decide) (fun _ _ _ _ _ => (jg_n 4 sc_all_standings.nd)) (fun _ _ _ _ _ => jts_nil) (fun _ _ _ _ _ => (ji_rng1 g_range (ja_cons (je_v 1) ja_nil))) (fun _ _ _ _ _ => (jg_n 5 sc_all_standings.nd)) (fun _ _ _ _ _ => jts_nil) (fun _ _ _ _ _ => (je_tup (ja_star (je_v 4) (ja_cons (je_v 5) ja_nil)))) (sw_true rfl rfl rfl (by decide +kernel)))))
    (jss_one (js_ret (je_v 2)))))
theorem ok_check_table (F : FnP K "check_table" "check_table" s_check_table f fd) (g_Table : mg "Table" = some (.ref (He.ga K "Table"))) (i_Table : IsiC K "Table") (g_isinstance : mg "isinstance" = none) :
    FnG P w K mg base CX0 1 f fd ["value"] (spD K 1 F_check_table) := by
  refine fn_okTG F sc_check_table fun cdv A outer s H E hr hgu => ?_
  exact JSs.b (K := K) (m := m_check_table) (jss_one (js_if (jt_not (jt_tru (je_b (jb_isiC i_Table) g_isinstance (ja_cons (je_v 0) (ja_cons (je_glo g_Table) ja_nil))))) (jss_one js_never) jss_nil))
theorem ok_is_bell (F : FnP K "is_bell" "is_bell" s_is_bell f fd) (g_all : mg "all" = none) :
    FnG P w K mg base CX0 1 f fd ["standing"] (spD K 1 F_is_bell) := by
  refine fn_okTG F sc_is_bell fun cdv A outer s H E hr hgu => ?_
  exact JSs.b (K := K) (m := m_is_bell) (jss_one (js_ret (je_b jb_all g_all (ja_cons (JF.f (jf_lc sc_is_bell.nd (ji_U (je_v 0)) (own := [("mark", 1)]) (blkOk_by (N := ["standing", "mark"]) (sc := defScope s_is_bell) (by decide +kernel)) (gw_name (by decide)) (fun _ _ _ _ _ => (jg_n 1 sc_is_bell.nd)) (fun _ _ _ _ _ => jts_nil) (fun _ _ _ _ _ => (je_cmp (jc_eq hr) (je_v 1) (je_ixU hr (je_v 0) je_int))))) ja_nil))))
theorem ok_added (F : FnP K "added" "added" s_added f fd) (g_tuple : mg "tuple" = none) (g_zip : mg "zip" = none) :
    FnG P w K mg base CX0 1 f fd ["one", "other", "size"] (spD K 3 F_added) := by
  refine fn_okTG F sc_added fun cdv A outer s H E hr hgu => ?_
  exact JSs.b (K := K) (m := m_added) (jss_one (js_ret (je_t jb_tuple g_tuple (ja_cons (JF.f (jf_lc sc_added.nd (ji_zip g_zip (ja_cons (je_v 0) (ja_cons (je_v 1) ja_nil))) (own := [("first", 3), ("second", 4)]) (blkOk_by (N := ["one", "other", "size", "first", "second"]) (sc := defScope s_added) (by decide +kernel)) (gw_seqT (gw_cons (gw_name (by decide)) (gw_cons (gw_name (by decide)) gw_nil gm_name gm_nil) gm_name (gm_cons gm_name gm_nil))) (fun _ _ _ _ _ => (jg_seqT (jgs_cons (jg_n 3 sc_added.nd) (jgs_cons (jg_n 4 sc_added.nd) jgs_nil)))) (fun _ _ _ _ _ => jts_nil) (fun _ _ _ _ _ => (je_mod (je_addU (je_v 3) (je_v 4)) (je_v 2))))) ja_nil))))
theorem ok_lessened (F : FnP K "lessened" "lessened" s_lessened f fd) (g_tuple : mg "tuple" = none) (g_zip : mg "zip" = none) :
    FnG P w K mg base CX0 1 f fd ["one", "other", "size"] (spD K 3 F_lessened) := by
  refine fn_okTG F sc_lessened fun cdv A outer s H E hr hgu => ?_
  exact JSs.b (K := K) (m := m_lessened) (jss_one (js_ret (je_t jb_tuple g_tuple (ja_cons (JF.f (jf_lc sc_lessened.nd (ji_zip g_zip (ja_cons (je_v 0) (ja_cons (je_v 1) ja_nil))) (own := [("first", 3), ("second", 4)]) (blkOk_by (N := ["one", "other", "size", "first", "second"]) (sc := defScope s_lessened) (by decide +kernel)) (gw_seqT (gw_cons (gw_name (by decide)) (gw_cons (gw_name (by decide)) gw_nil gm_name gm_nil) gm_name (gm_cons gm_name gm_nil))) (fun _ _ _ _ _ => (jg_seqT (jgs_cons (jg_n 3 sc_lessened.nd) (jgs_cons (jg_n 4 sc_lessened.nd) jgs_nil)))) (fun _ _ _ _ _ => jts_nil) (fun _ _ _ _ _ => (je_mod (je_sub (je_v 3) (je_v 4)) (je_v 2))))) ja_nil))))
theorem ok_kind_of (F : FnP K "kind_of" "kind_of" s_kind_of f fd) (k_Table : Cls K (He.ga K "Table")) (n_Table_known : NoAttr K (He.ga K "Table") "known") :
    FnG P w K mg base CX0 1 f fd ["table", "standing"] (spD K 2 F_kind_of) := by
  refine fn_okTG F sc_kind_of fun cdv A outer s H E hr hgu => ?_
  exact JSs.b (K := K) (m := m_kind_of) (jss_one (js_ret (je_ixU hr (je_attr k_Table n_Table_known (je_v 0)) (je_v 1))))
theorem ok_zeros (F : FnP K "zeros" "zeros" s_zeros f fd) (k_Table : Cls K (He.ga K "Table")) (n_Table_many : NoAttr K (He.ga K "Table") "many") :
    FnG P w K mg base CX0 1 f fd ["table"] (spD K 1 F_zeros) := by
  refine fn_okTG F sc_zeros fun cdv A outer s H E hr hgu => ?_
  exact JSs.b (K := K) (m := m_zeros) (jss_one (js_ret (je_mulU (je_tup (ja_cons je_int ja_nil)) (je_attr k_Table n_Table_many (je_v 0)))))
theorem ok_is_prime (F : FnP K "is_prime" "is_prime" s_is_prime f fd)  :
    FnG P w K mg base CX0 1 f fd ["value"] (spD K 1 F_is_prime) := by
  refine fn_okTG F sc_is_prime fun cdv A outer s H E hr hgu => ?_
  exact JSs.b (K := K) (m := m_is_prime) (jss_cons (js_if (jt_cmp jc_lt (je_v 0) je_int) (jss_one (js_ret je_bl)) jss_nil)
    (jss_cons (js_set 1 sc_is_prime.nd je_int)
    (jss_cons (js_while 100000 (jt_cmp jc_le (je_mulU (je_v 1) (je_v 1)) (je_v 0)) (jss_cons (js_if (jt_cmp (jc_eq hr) (je_mod (je_v 0) (je_v 1)) je_int) (jss_one (js_ret je_bl)) jss_nil)
    (jss_one (js_augAdd 1 sc_is_prime.nd je_int))))
    (jss_one (js_ret je_bl)))))
theorem ok_plan_of (F : FnP K "plan_of" "plan_of" s_plan_of f fd)  :
    FnG P w K mg base CX0 1 f fd ["steps"] (spD K 1 F_plan_of) := by
  refine fn_okTG F sc_plan_of fun cdv A outer s H E hr hgu => ?_
  exact JSs.b (K := K) (m := m_plan_of) (jss_cons (js_set 1 sc_plan_of.nd (je_tup ja_nil))
    (jss_cons (js_for (ji_U (je_v 0)) (jg_seqT (jgs_cons (jg_n 2 sc_plan_of.nd) (jgs_cons (jg_n 3 sc_plan_of.nd) jgs_nil))) (jss_one (js_set 1 sc_plan_of.nd (je_addU (je_v 1) (je_mulU (je_addU (je_tup (ja_cons (je_v 3) ja_nil)) (je_v 1)) (je_sub (je_v 2) je_int))))))
    (jss_one (js_ret (je_v 1)))))
theorem ok_check_kinds (F : FnP K "check_kinds" "check_kinds" s_check_kinds f fd) (k_Table : Cls K (He.ga K "Table")) (n_Table_swept : NoAttr K (He.ga K "Table") "swept") (g_MOST_KINDS : ∃ t, mg "MOST_KINDS" = some (.int 12 t)) (g_len : mg "len" = none) :
    FnG P w K mg base CX0 1 f fd ["table"] (spD K 1 F_check_kinds) := by
  refine fn_okTG F sc_check_kinds fun cdv A outer s H E hr hgu => ?_
  exact JSs.b (K := K) (m := m_check_kinds) (jss_one (js_if (jt_cmp jc_gt (je_b jb_lenU g_len (ja_cons (je_attr k_Table n_Table_swept (je_v 0)) ja_nil)) (je_gint g_MOST_KINDS)) (jss_one js_never) jss_nil))
theorem ok_is_between (F : FnP K "is_between" "is_between" s_is_between f fd) (C_is_integer : Cal P w K mg base 1 "is_integer" ["value"] F_is_integer s_is_integer) :
    FnG P w K mg base CX0 2 f fd ["value", "least", "most"] (spD K 3 F_is_between) := by
  refine fn_okTG F sc_is_between fun cdv A outer s H E hr hgu => ?_
  exact JSs.b (K := K) (m := m_is_between) (jss_one (js_ret (je_and (je_callP C_is_integer (hr.mono (by decide)) hgu (ja_cons (je_v 0) ja_nil)) (je_one (je_chain jc_le jc_le (je_v 1) (je_v 0) (je_v 2))))))
theorem ok_turn_in (F : FnP K "turn_in" "turn_in" s_turn_in f fd) (C_number_in : Cal P w K mg base 1 "number_in" ["word"] F_number_in s_number_in) (g_isinstance : mg "isinstance" = none) (g_list : mg "list" = none) (g_range : mg "range" = none) (g_sorted : mg "sorted" = none) (g_str : mg "str" = none) (g_tuple : mg "tuple" = none) :
    FnG P w K mg base CX0 2 f fd ["row", "dials"] (spD K 2 F_turn_in) := by
  refine fn_okTG F sc_turn_in fun cdv A outer s H E hr hgu => ?_
  exact JSs.b (K := K) (m := m_turn_in) (jss_cons (js_set 2 sc_turn_in.nd (je_if (jt_tru (je_b jb_isi g_isinstance (ja_cons (je_v 0) (ja_cons (je_ty g_str) ja_nil)))) (JF.f (jf_split (je_v 0) je_str)) (JF.f (jf_lst (ja_cons je_str ja_nil)))))
    (jss_cons (js_if (jt_cmp (jc_ne hr) (je_ixU hr (je_v 2) je_int) je_str) (jss_one (js_ret je_non)) jss_nil)
    (jss_cons (js_if (jt_cmp (jc_eq hr) (je_v 2) (JF.f (jf_lst (ja_cons je_str (ja_cons je_str ja_nil))))) (jss_one (js_ret (je_t jb_tuple g_tuple (ja_cons (JF.f (jf_lc sc_turn_in.nd (ji_rng1 g_range (ja_cons (je_v 1) ja_nil)) (own := [("place", 4)]) (blkOk_by (N := ["row", "dials", "words", "found", "place", "word"]) (sc := defScope s_turn_in) (by decide +kernel)) (gw_name (by decide)) (fun _ _ _ _ _ => (jg_n 4 sc_turn_in.nd)) (fun _ _ _ _ _ => jts_nil) (fun _ _ _ _ _ => (je_mod (je_addU (je_v 4) je_int) (je_v 1))))) ja_nil)))) jss_nil)
    (jss_cons (js_if (jt_cmp (jc_eq hr) (je_v 2) (JF.f (jf_lst (ja_cons je_str (ja_cons je_str ja_nil))))) (jss_one (js_ret (je_revT (je_tupRg g_tuple (jr_1 g_range (je_v 1)))))) jss_nil)
    (jss_cons (js_setLc 3 sc_turn_in.nd (ji_U (JF.f (jf_sl (je_v 2) (jo_some je_int) jo_none))) (own := [("word", 5)]) (blkOk_by (N := ["row", "dials", "words", "found", "place", "word"]) (sc := defScope s_turn_in) (by decide +kernel)) (gw_name (by decide)) (fun _ _ _ _ _ => (jg_n 5 sc_turn_in.nd)) (fun _ _ _ _ _ => jts_nil) (fun _ _ _ _ _ => (je_callP C_number_in (hr.mono (by decide)) hgu (ja_cons (je_v 5) ja_nil))) (sw_true rfl rfl rfl (by decide +kernel)))
    (jss_cons (js_if (JW.jt (jw_or (jt_cmp (jc_inU hr) je_non (je_v 3)) (jw_or1 (jt_cmp (jc_ne hr) (JF.f (jf_b jb_sortedU g_sorted (ja_cons (je_v 3) ja_nil))) (JF.f (jf_lstRg g_list (jr_1 g_range (je_v 1)))))))) (jss_one (js_ret je_non)) jss_nil)
    (jss_one (js_ret (je_t jb_tuple g_tuple (ja_cons (je_v 3) ja_nil))))))))))
theorem ok_alike_to (F : FnP K "alike_to" "alike_to" s_alike_to f fd) (C_behind_turn : Cal P w K mg base 1 "behind_turn" ["places", "turn"] F_behind_turn s_behind_turn) (C_shifted : Cal P w K mg base 1 "shifted" ["standing", "by", "size"] F_shifted s_shifted) (g_list : mg "list" = none) (g_range : mg "range" = none) :
    FnG P w K mg base CX0 2 f fd ["standing", "size", "group"] (spD K 3 F_alike_to) := by
  refine fn_okTG F sc_alike_to fun cdv A outer s H E hr hgu => ?_
  exact JSs.b (K := K) (m := m_alike_to) (jss_one (js_ret (JF.f (jf_t jb_listU g_list (ja_cons (JX.dF (jx_dc2 hr sc_alike_to.nd (ji_U (je_v 2)) (vs1 := [4]) (own := [("turn", 3), ("by", 4)]) (blkOk_by (N := ["standing", "size", "group", "turn", "by"]) (sc := defScope s_alike_to) (by decide +kernel)) (gw_name (by decide)) (gw_name (by decide)) (by decide) (fun _ _ _ _ _ => (jg_n 3 sc_alike_to.nd)) (fun _ _ _ _ _ => jts_nil) (fun _ _ _ _ _ => (ji_rng1 g_range (ja_cons (je_v 1) ja_nil))) (fun _ _ _ _ _ => (jg_n 4 sc_alike_to.nd)) (fun _ _ _ _ _ => jts_nil) (fun _ _ _ _ _ => (je_callP C_shifted (hr.mono (by decide)) hgu (ja_cons (je_callP C_behind_turn (hr.mono (by decide)) hgu (ja_cons (je_v 0) (ja_cons (je_v 3) ja_nil))) (ja_cons (je_v 4) (ja_cons (je_v 1) ja_nil))))) (fun _ _ _ _ _ => je_bl))) ja_nil)))))
theorem ok_coming_from (F : FnP K "coming_from" "coming_from" s_coming_from f fd) (C_added : Cal P w K mg base 1 "added" ["one", "other", "size"] F_added s_added) (C_behind_turn : Cal P w K mg base 1 "behind_turn" ["places", "turn"] F_behind_turn s_behind_turn) (k_Table : Cls K (He.ga K "Table")) (n_Table_group : NoAttr K (He.ga K "Table") "group") (n_Table_size : NoAttr K (He.ga K "Table") "size") (g_list : mg "list" = none) :
    FnG P w K mg base CX0 2 f fd ["table", "kind", "move"] (spD K 3 F_coming_from) := by
  refine fn_okTG F sc_coming_from fun cdv A outer s H E hr hgu => ?_
  exact JSs.b (K := K) (m := m_coming_from) (jss_one (js_ret (JF.f (jf_t jb_listU g_list (ja_cons (JX.dF (jx_dc1 hr sc_coming_from.nd (ji_U (je_attr k_Table n_Table_group (je_v 0))) (own := [("turn", 3)]) (blkOk_by (N := ["table", "kind", "move", "turn"]) (sc := defScope s_coming_from) (by decide +kernel)) (gw_name (by decide)) (fun _ _ _ _ _ => (jg_n 3 sc_coming_from.nd)) (fun _ _ _ _ _ => jts_nil) (fun _ _ _ _ _ => (je_callP C_added (hr.mono (by decide)) hgu (ja_cons (je_callP C_behind_turn (hr.mono (by decide)) hgu (ja_cons (je_v 1) (ja_cons (je_v 3) ja_nil))) (ja_cons (je_v 2) (ja_cons (je_attr k_Table n_Table_size (je_v 0)) ja_nil))))) (fun _ _ _ _ _ => je_bl))) ja_nil)))))
theorem ok_first_reached (F : FnP K "first_reached" "first_reached" s_first_reached f fd) (C_shifted : Cal P w K mg base 1 "shifted" ["standing", "by", "size"] F_shifted s_shifted) (C_zeros : Cal P w K mg base 1 "zeros" ["table"] F_zeros s_zeros) (k_Table : Cls K (He.ga K "Table")) (n_Table_size : NoAttr K (He.ga K "Table") "size") (g_range : mg "range" = none) :
    FnG P w K mg base CX0 2 f fd ["table"] (spD K 1 F_first_reached) := by
  refine fn_okTG F sc_first_reached fun cdv A outer s H E hr hgu => ?_
  exact JSs.b (K := K) (m := m_first_reached) (jss_one (js_ret (JX.dF (jx_dc1 hr sc_first_reached.nd (ji_rng1 g_range (ja_cons (je_attr k_Table n_Table_size (je_v 0)) ja_nil)) (own := [("by", 1)]) (blkOk_by (N := ["table", "by"]) (sc := defScope s_first_reached) (by decide +kernel)) (gw_name (by decide)) (fun _ _ _ _ _ => (jg_n 1 sc_first_reached.nd)) (fun _ _ _ _ _ => jts_nil) (fun _ _ _ _ _ => (je_callP C_shifted (hr.mono (by decide)) hgu (ja_cons (je_callP C_zeros (hr.mono (by decide)) hgu (ja_cons (je_v 0) ja_nil)) (ja_cons (je_v 1) (ja_cons (je_attr k_Table n_Table_size (je_v 0)) ja_nil))))) (fun _ _ _ _ _ => je_bl)))))
theorem ok_differences (F : FnP K "differences" "differences" s_differences f fd) (C_behind_turn : Cal P w K mg base 1 "behind_turn" ["places", "turn"] F_behind_turn s_behind_turn) (C_lessened : Cal P w K mg base 1 "lessened" ["one", "other", "size"] F_lessened s_lessened) (k_Table : Cls K (He.ga K "Table")) (n_Table_group : NoAttr K (He.ga K "Table") "group") (n_Table_size : NoAttr K (He.ga K "Table") "size") :
    FnG P w K mg base CX0 2 f fd ["table", "standing"] (spD K 2 F_differences) := by
  refine fn_okTG F sc_differences fun cdv A outer s H E hr hgu => ?_
  exact JSs.b (K := K) (m := m_differences) (jss_one (js_ret (JF.f (jf_lc sc_differences.nd (ji_U (je_attr k_Table n_Table_group (je_v 0))) (own := [("turn", 2)]) (blkOk_by (N := ["table", "standing", "turn"]) (sc := defScope s_differences) (by decide +kernel)) (gw_name (by decide)) (fun _ _ _ _ _ => (jg_n 2 sc_differences.nd)) (fun _ _ _ _ _ => jts_nil) (fun _ _ _ _ _ => (je_callP C_lessened (hr.mono (by decide)) hgu (ja_cons (je_callP C_behind_turn (hr.mono (by decide)) hgu (ja_cons (je_v 1) (ja_cons (je_v 2) ja_nil))) (ja_cons (je_v 1) (ja_cons (je_attr k_Table n_Table_size (je_v 0)) ja_nil)))))))))
theorem ok_times_until (F : FnP K "times_until" "times_until" s_times_until f fd) (C_added : Cal P w K mg base 1 "added" ["one", "other", "size"] F_added s_added) (k_Table : Cls K (He.ga K "Table")) (n_Table_size : NoAttr K (He.ga K "Table") "size") :
    FnG P w K mg base CX0 2 f fd ["table", "standing", "reached"] (spD K 3 F_times_until) := by
  refine fn_okTG F sc_times_until fun cdv A outer s H E hr hgu => ?_
  exact JSs.b (K := K) (m := m_times_until) (jss_cons (js_par 3 4 sc_times_until.nd (ja_cons je_int (ja_cons (je_v 1) ja_nil)))
    (jss_cons (js_while 100000 (jt_cmp (jc_notInU hr) (je_v 4) (je_v 2)) (jss_one (js_par 3 4 sc_times_until.nd (ja_cons (je_addU (je_v 3) je_int) (ja_cons (je_callP C_added (hr.mono (by decide)) hgu (ja_cons (je_v 4) (ja_cons (je_v 1) (ja_cons (je_attr k_Table n_Table_size (je_v 0)) ja_nil)))) ja_nil)))))
    (jss_one (js_ret (je_v 3)))))
theorem ok_reached_by (F : FnP K "reached_by" "reached_by" s_reached_by f fd) (C_added : Cal P w K mg base 1 "added" ["one", "other", "size"] F_added s_added) (k_Table : Cls K (He.ga K "Table")) (n_Table_size : NoAttr K (He.ga K "Table") "size") (g_dict : mg "dict" = none) (g_list : mg "list" = none) :
    FnG P w K mg base CX0 2 f fd ["table", "move", "reached"] (spD K 3 F_reached_by) := by
  refine fn_okTG F sc_reached_by fun cdv A outer s H E hr hgu => ?_
  exact JSs.b (K := K) (m := m_reached_by) (jss_cons (js_asg (je_tup (ja_cons (je_t (jb_dict hr) g_dict (ja_cons (je_v 2) ja_nil)) (ja_cons (JF.f (jf_t jb_listU g_list (ja_cons (je_v 2) ja_nil))) ja_nil))) (jg_seqT (jgs_cons (jg_n 3 sc_reached_by.nd) (jgs_cons (jg_n 4 sc_reached_by.nd) jgs_nil))))
    (jss_cons (js_while 100000 (jt_tru (je_v 4)) (jss_cons (js_setLc 4 sc_reached_by.nd (ji_U (je_v 4)) (own := [("each", 5)]) (blkOk_by (N := ["table", "move", "reached", "found", "layer", "each"]) (sc := defScope s_reached_by) (by decide +kernel)) (gw_name (by decide)) (fun _ _ _ _ _ => (jg_n 5 sc_reached_by.nd)) (fun _ _ _ _ _ => jts_nil) (fun _ _ _ _ _ => (je_callP C_added (hr.mono (by decide)) hgu (ja_cons (je_v 5) (ja_cons (je_v 1) (ja_cons (je_attr k_Table n_Table_size (je_v 0)) ja_nil))))) (sw_true rfl rfl rfl (by decide +kernel)))
    (jss_cons (js_setLc 4 sc_reached_by.nd (ji_U (je_v 4)) (own := [("each", 5)]) (blkOk_by (N := ["table", "move", "reached", "found", "layer", "each"]) (sc := defScope s_reached_by) (by decide +kernel)) (gw_name (by decide)) (fun _ _ _ _ _ => (jg_n 5 sc_reached_by.nd)) (fun _ _ _ _ _ => (jts_one (jt_cmp (jc_notInU hr) (je_v 5) (je_v 3)))) (fun _ _ _ _ _ => (je_v 5)) (sw_true rfl rfl rfl (by decide +kernel)))
    (jss_one (js_for (ji_U (je_v 4)) (jg_n 5 sc_reached_by.nd) (jss_one (js_asg je_bl (jg_subU hr (je_v 3) (je_v 5)))))))))
    (jss_one (js_ret (je_v 3)))))
theorem ok_head_in (F : FnP K "head_in" "head_in" s_head_in f fd) (C_is_between : Cal P w K mg base 2 "is_between" ["value", "least", "most"] F_is_between s_is_between) (C_number_in : Cal P w K mg base 1 "number_in" ["word"] F_number_in s_number_in) (C_power_of : Cal P w K mg base 1 "power_of" ["base", "times"] F_power_of s_power_of) (g_MOST_DIALS : ∃ t, mg "MOST_DIALS" = some (.int 6 t)) (g_MOST_MARKS : ∃ t, mg "MOST_MARKS" = some (.int 9 t)) (g_MOST_STANDINGS : ∃ t, mg "MOST_STANDINGS" = some (.int 32 t)) (g_isinstance : mg "isinstance" = none) (g_len : mg "len" = none) (g_str : mg "str" = none) :
    FnG P w K mg base CX0 3 f fd ["row"] (spD K 1 F_head_in) := by
  refine fn_okTG F sc_head_in fun cdv A outer s H E hr hgu => ?_
  exact JSs.b (K := K) (m := m_head_in) (jss_cons (js_set 1 sc_head_in.nd (je_if (jt_tru (je_b jb_isi g_isinstance (ja_cons (je_v 0) (ja_cons (je_ty g_str) ja_nil)))) (JF.f (jf_split (je_v 0) je_str)) (JF.f (jf_lst ja_nil))))
    (jss_cons (js_if (JW.jt (jw_or (jt_cmp (jc_ne hr) (je_b jb_lenU g_len (ja_cons (je_v 1) ja_nil)) je_int) (jw_or (jt_cmp (jc_ne hr) (je_ixU hr (je_v 1) je_int) je_str) (jw_or1 (jt_cmp (jc_ne hr) (je_ixU hr (je_v 1) je_int) je_str))))) (jss_one (js_ret je_non)) jss_nil)
    (jss_cons (js_par 2 3 sc_head_in.nd (ja_cons (je_callP C_number_in (hr.mono (by decide)) hgu (ja_cons (je_ixU hr (je_v 1) je_int) ja_nil)) (ja_cons (je_callP C_number_in (hr.mono (by decide)) hgu (ja_cons (je_ixU hr (je_v 1) je_int) ja_nil)) ja_nil)))
    (jss_cons (js_if (JW.jt (jw_or (jt_not (jt_tru (je_callP C_is_between (hr.mono (by decide)) hgu (ja_cons (je_v 2) (ja_cons je_int (ja_cons (je_gint g_MOST_DIALS) ja_nil)))))) (jw_or1 (jt_not (jt_tru (je_callP C_is_between (hr.mono (by decide)) hgu (ja_cons (je_v 3) (ja_cons je_int (ja_cons (je_gint g_MOST_MARKS) ja_nil))))))))) (jss_one (js_ret je_non)) jss_nil)
    (jss_one (js_ret (je_if (jt_cmp jc_le (je_callP C_power_of (hr.mono (by decide)) hgu (ja_cons (je_v 3) (ja_cons (je_sub (je_v 2) je_int) ja_nil))) (je_gint g_MOST_STANDINGS)) (je_tup (ja_cons (je_v 2) (ja_cons (je_v 3) ja_nil))) je_non)))))))
theorem ok_sweep (F : FnP K "sweep" "sweep" s_sweep f fd) (C_alike_to : Cal P w K mg base 2 "alike_to" ["standing", "size", "group"] F_alike_to s_alike_to) (C_all_standings : Cal P w K mg base 1 "all_standings" ["many", "size"] F_all_standings s_all_standings) :
    FnG P w K mg base CX0 3 f fd ["many", "size", "group"] (spD K 3 F_sweep) := by
  refine fn_okTG F sc_sweep fun cdv A outer s H E hr hgu => ?_
  exact JSs.b (K := K) (m := m_sweep) (jss_cons (js_set 3 sc_sweep.nd je_dnew)
    (jss_cons (js_for (ji_U (je_callP C_all_standings (hr.mono (by decide)) hgu (ja_cons (je_v 0) (ja_cons (je_v 1) ja_nil)))) (jg_n 4 sc_sweep.nd) (jss_one (js_if (jt_cmp (jc_notInU hr) (je_v 4) (je_v 3)) (jss_one (js_for (ji_U (je_callP C_alike_to (hr.mono (by decide)) hgu (ja_cons (je_v 4) (ja_cons (je_v 1) (ja_cons (je_v 2) ja_nil))))) (jg_n 5 sc_sweep.nd) (jss_one (js_asg (je_v 4) (jg_subU hr (je_v 3) (je_v 5)))))) jss_nil)))
    (jss_one (js_ret (je_v 3)))))
theorem ok_are_marks (F : FnP K "are_marks" "are_marks" s_are_marks f fd) (C_is_between : Cal P w K mg base 2 "is_between" ["value", "least", "most"] F_is_between s_is_between) (k_Table : Cls K (He.ga K "Table")) (n_Table_many : NoAttr K (He.ga K "Table") "many") (n_Table_size : NoAttr K (He.ga K "Table") "size") (g_all : mg "all" = none) (g_isinstance : mg "isinstance" = none) (g_len : mg "len" = none) (g_tuple : mg "tuple" = none) :
    FnG P w K mg base CX0 3 f fd ["table", "value"] (spD K 2 F_are_marks) := by
  refine fn_okTG F sc_are_marks fun cdv A outer s H E hr hgu => ?_
  exact JSs.b (K := K) (m := m_are_marks) (jss_cons (js_if (JW.jt (jw_or (jt_not (jt_tru (je_b jb_isi g_isinstance (ja_cons (je_v 1) (ja_cons (je_ty g_tuple) ja_nil))))) (jw_or1 (jt_cmp (jc_ne hr) (je_b jb_lenU g_len (ja_cons (je_v 1) ja_nil)) (je_attr k_Table n_Table_many (je_v 0)))))) (jss_one (js_ret je_bl)) jss_nil)
    (jss_one (js_ret (je_b jb_all g_all (ja_cons (JF.f (jf_lc sc_are_marks.nd (ji_U (je_v 1)) (own := [("mark", 2)]) (blkOk_by (N := ["table", "value", "mark"]) (sc := defScope s_are_marks) (by decide +kernel)) (gw_name (by decide)) (fun _ _ _ _ _ => (jg_n 2 sc_are_marks.nd)) (fun _ _ _ _ _ => jts_nil) (fun _ _ _ _ _ => (je_callP C_is_between (hr.mono (by decide)) hgu (ja_cons (je_v 2) (ja_cons je_int (ja_cons (je_sub (je_attr k_Table n_Table_size (je_v 0)) je_int) ja_nil))))))) ja_nil)))))
theorem ok_left_of (F : FnP K "left_of" "left_of" s_left_of f fd) (C_coming_from : Cal P w K mg base 2 "coming_from" ["table", "kind", "move"] F_coming_from s_coming_from) (C_is_bell : Cal P w K mg base 1 "is_bell" ["standing"] F_is_bell s_is_bell) (C_kind_of : Cal P w K mg base 1 "kind_of" ["table", "standing"] F_kind_of s_kind_of) (g_sorted : mg "sorted" = none) (g_tuple : mg "tuple" = none) :
    FnG P w K mg base CX0 3 f fd ["table", "lot", "move"] (spD K 3 F_left_of) := by
  refine fn_okTG F sc_left_of fun cdv A outer s H E hr hgu => ?_
  exact JSs.b (K := K) (m := m_left_of) (jss_cons (js_setLc2 3 sc_left_of.nd (ji_U (je_v 1)) (own := [("kind", 4), ("standing", 5)]) (vs1 := [5]) (blkOk_by (N := ["table", "lot", "move", "some", "kind", "standing"]) (sc := defScope s_left_of) (by decide +kernel)) (gw_name (by decide)) (gw_name (by decide)) (by decide) (fun _ _ _ _ _ => (jg_n 4 sc_left_of.nd)) (fun _ _ _ _ _ => jts_nil) (fun _ _ _ _ _ => (ji_U (je_callP C_coming_from (hr.mono (by decide)) hgu (ja_cons (je_v 0) (ja_cons (je_v 4) (ja_cons (je_v 2) ja_nil)))))) (fun _ _ _ _ _ => (jg_n 5 sc_left_of.nd)) (fun _ _ _ _ _ => (jts_one (jt_not (jt_tru (je_callP C_is_bell (hr.mono (by decide)) hgu (ja_cons (je_v 5) ja_nil)))))) (fun _ _ _ _ _ => (je_v 5)) (sw_true rfl rfl rfl (by decide +kernel)))
    (jss_one (js_ret (je_t jb_tuple g_tuple (ja_cons (JF.f (jf_sortS (jx_sc1 hr sc_left_of.nd (ji_U (je_v 3)) (own := [("standing", 5)]) (blkOk_by (N := ["table", "lot", "move", "some", "kind", "standing"]) (sc := defScope s_left_of) (by decide +kernel)) (gw_name (by decide)) (fun _ _ _ _ _ => (jg_n 5 sc_left_of.nd)) (fun _ _ _ _ _ => jts_nil) (fun _ _ _ _ _ => (je_callP C_kind_of (hr.mono (by decide)) hgu (ja_cons (je_v 0) (ja_cons (je_v 5) ja_nil))))) g_sorted)) ja_nil)))))
theorem ok_is_step (F : FnP K "is_step" "is_step" s_is_step f fd) (C_differences : Cal P w K mg base 2 "differences" ["table", "standing"] F_differences s_differences) (C_is_prime : Cal P w K mg base 1 "is_prime" ["value"] F_is_prime s_is_prime) (C_times_until : Cal P w K mg base 2 "times_until" ["table", "standing", "reached"] F_times_until s_times_until) (g_all : mg "all" = none) :
    FnG P w K mg base CX0 3 f fd ["table", "prime", "move", "reached"] (spD K 4 F_is_step) := by
  refine fn_okTG F sc_is_step fun cdv A outer s H E hr hgu => ?_
  exact JSs.b (K := K) (m := m_is_step) (jss_cons (js_if (JW.jt (jw_or (jt_cmp (jc_inU hr) (je_v 2) (je_v 3)) (jw_or (jt_cmp (jc_ne hr) (je_callP C_times_until (hr.mono (by decide)) hgu (ja_cons (je_v 0) (ja_cons (je_v 2) (ja_cons (je_v 3) ja_nil)))) (je_v 1)) (jw_or1 (jt_not (jt_tru (je_callP C_is_prime (hr.mono (by decide)) hgu (ja_cons (je_v 1) ja_nil)))))))) (jss_one (js_ret je_bl)) jss_nil)
    (jss_one (js_ret (je_b jb_all g_all (ja_cons (JF.f (jf_lc sc_is_step.nd (ji_U (je_callP C_differences (hr.mono (by decide)) hgu (ja_cons (je_v 0) (ja_cons (je_v 2) ja_nil)))) (own := [("each", 4)]) (blkOk_by (N := ["table", "prime", "move", "reached", "each"]) (sc := defScope s_is_step) (by decide +kernel)) (gw_name (by decide)) (fun _ _ _ _ _ => (jg_n 4 sc_is_step.nd)) (fun _ _ _ _ _ => jts_nil) (fun _ _ _ _ _ => (je_cmp (jc_inU hr) (je_v 4) (je_v 3))))) ja_nil)))))
theorem ok_wrong_rows (F : FnP K "wrong_rows" "wrong_rows" s_wrong_rows f fd) (C_head_in : Cal P w K mg base 3 "head_in" ["row"] F_head_in s_head_in) (C_turn_in : Cal P w K mg base 2 "turn_in" ["row", "dials"] F_turn_in s_turn_in) (g_MOST_TURNS : ∃ t, mg "MOST_TURNS" = some (.int 3 t)) (g_enumerate : mg "enumerate" = none) (g_len : mg "len" = none) :
    FnG P w K mg base CX0 4 f fd ["rows"] (spD K 1 F_wrong_rows) := by
  refine fn_okTG F sc_wrong_rows fun cdv A outer s H E hr hgu => ?_
  exact JSs.b (K := K) (m := m_wrong_rows) (jss_cons (js_if (jt_not (jt_chain jc_le jc_le je_int (je_b jb_lenU g_len (ja_cons (je_v 0) ja_nil)) (je_addU (je_gint g_MOST_TURNS) je_int))) (jss_one (js_ret (je_tup (ja_cons je_non ja_nil)))) jss_nil)
    (jss_cons (js_set 1 sc_wrong_rows.nd (je_callP C_head_in (hr.mono (by decide)) hgu (ja_cons (je_ixU hr (je_v 0) je_int) ja_nil)))
    (jss_cons (js_if (jt_cmp jc_isN (je_v 1) je_non) (jss_one (js_ret (je_tup (ja_cons je_int ja_nil)))) jss_nil)
    (jss_cons (js_for (ji_enum g_enumerate (ja_cons (je_v 0) ja_nil)) (jg_seqT (jgs_cons (jg_n 2 sc_wrong_rows.nd) (jgs_cons (jg_n 3 sc_wrong_rows.nd) jgs_nil))) (jss_one (js_if (JW.jt (jw_and (jt_cmp jc_gt (je_v 2) je_int) (jw_and1 (jt_cmp jc_isN (je_callP C_turn_in (hr.mono (by decide)) hgu (ja_cons (je_v 3) (ja_cons (je_ixU hr (je_v 1) je_int) ja_nil))) je_non)))) (jss_one (js_ret (je_tup (ja_cons (je_v 2) ja_nil)))) jss_nil)))
    (jss_one (js_ret (je_tup ja_nil)))))))
theorem ok_check_plan (F : FnP K "check_plan" "check_plan" s_check_plan f fd) (C_are_marks : Cal P w K mg base 3 "are_marks" ["table", "value"] F_are_marks s_are_marks) (g_enumerate : mg "enumerate" = none) (g_isinstance : mg "isinstance" = none) (g_tuple : mg "tuple" = none) :
    FnG P w K mg base CX0 4 f fd ["table", "plan"] (spD K 2 F_check_plan) := by
  refine fn_okTG F sc_check_plan fun cdv A outer s H E hr hgu => ?_
  exact JSs.b (K := K) (m := m_check_plan) (jss_cons (js_if (jt_not (jt_tru (je_b jb_isi g_isinstance (ja_cons (je_v 1) (ja_cons (je_ty g_tuple) ja_nil))))) (jss_one js_never) jss_nil)
    (jss_one (js_for (ji_enum g_enumerate (ja_cons (je_v 1) ja_nil)) (jg_seqT (jgs_cons (jg_n 2 sc_check_plan.nd) (jgs_cons (jg_n 3 sc_check_plan.nd) jgs_nil))) (jss_one (js_if (jt_not (jt_tru (je_callP C_are_marks (hr.mono (by decide)) hgu (ja_cons (je_v 0) (ja_cons (je_v 3) ja_nil))))) (jss_one js_never) jss_nil)))))
theorem ok_course_of (F : FnP K "course_of" "course_of" s_course_of f fd) (C_left_of : Cal P w K mg base 3 "left_of" ["table", "lot", "move"] F_left_of s_left_of) (k_Table : Cls K (He.ga K "Table")) (n_Table_swept : NoAttr K (He.ga K "Table") "swept") :
    FnG P w K mg base CX0 4 f fd ["table", "plan"] (spD K 2 F_course_of) := by
  refine fn_okTG F sc_course_of fun cdv A outer s H E hr hgu => ?_
  exact JSs.b (K := K) (m := m_course_of) (jss_cons (js_set 2 sc_course_of.nd (JF.o (jf_lst (ja_cons (je_attr k_Table n_Table_swept (je_v 0)) ja_nil))))
    (jss_cons (js_for (ji_U (je_v 1)) (jg_n 3 sc_course_of.nd) (jss_one (js_expr (je_m PySem.F.plainAttrs_list PySem.F.slot_list_append PySem.F.type_list_append jm_append (je_v 2) (ja_cons (je_callP C_left_of (hr.mono (by decide)) hgu (ja_cons (je_v 0) (ja_cons (je_ixU hr (je_v 2) (je_neg je_int)) (ja_cons (je_v 3) ja_nil)))) ja_nil)))))
    (jss_one (js_ret (je_v 2)))))
theorem ok_next_step (F : FnP K "next_step" "next_step" s_next_step f fd) (C_all_standings : Cal P w K mg base 1 "all_standings" ["many", "size"] F_all_standings s_all_standings) (C_is_step : Cal P w K mg base 3 "is_step" ["table", "prime", "move", "reached"] F_is_step s_is_step) (C_times_until : Cal P w K mg base 2 "times_until" ["table", "standing", "reached"] F_times_until s_times_until) (k_Table : Cls K (He.ga K "Table")) (n_Table_many : NoAttr K (He.ga K "Table") "many") (n_Table_size : NoAttr K (He.ga K "Table") "size") :
    FnG P w K mg base CX0 4 f fd ["table", "reached"] (spD K 2 F_next_step) := by
  refine fn_okTG F sc_next_step fun cdv A outer s H E hr hgu => ?_
  exact JSs.b (K := K) (m := m_next_step) (jss_cons (js_for (ji_U (je_callP C_all_standings (hr.mono (by decide)) hgu (ja_cons (je_attr k_Table n_Table_many (je_v 0)) (ja_cons (je_attr k_Table n_Table_size (je_v 0)) ja_nil)))) (jg_n 2 sc_next_step.nd) (jss_one (js_if (jt_cmp (jc_notInU hr) (je_v 2) (je_v 1)) (jss_cons (js_set 3 sc_next_step.nd (je_callP C_times_until (hr.mono (by decide)) hgu (ja_cons (je_v 0) (ja_cons (je_v 2) (ja_cons (je_v 1) ja_nil)))))
    (jss_one (js_if (jt_tru (je_callP C_is_step (hr.mono (by decide)) hgu (ja_cons (je_v 0) (ja_cons (je_v 3) (ja_cons (je_v 2) (ja_cons (je_v 1) ja_nil)))))) (jss_one (js_ret (je_tup (ja_cons (je_v 3) (ja_cons (je_v 2) ja_nil))))) jss_nil))) jss_nil)))
    (jss_one (js_ret je_non)))
theorem ok_shortest_from (F : FnP K "shortest_from" "shortest_from" s_shortest_from f fd) (C_all_standings : Cal P w K mg base 1 "all_standings" ["many", "size"] F_all_standings s_all_standings) (C_left_of : Cal P w K mg base 3 "left_of" ["table", "lot", "move"] F_left_of s_left_of) (k_Table : Cls K (He.ga K "Table")) (n_Table_many : NoAttr K (He.ga K "Table") "many") (n_Table_size : NoAttr K (He.ga K "Table") "size") (n_Table_swept : NoAttr K (He.ga K "Table") "swept") (g_sorted : mg "sorted" = none) (g_tuple : mg "tuple" = none) :
    FnG P w K mg base CX0 4 f fd ["table", "lot"] (spD K 2 F_shortest_from) := by
  refine fn_okTG F sc_shortest_from fun cdv A outer s H E hr hgu => ?_
  exact JSs.b (K := K) (m := m_shortest_from) (jss_cons (js_set 2 sc_shortest_from.nd (JF.f (jf_lc sc_shortest_from.nd (ji_U (je_callP C_all_standings (hr.mono (by decide)) hgu (ja_cons (je_attr k_Table n_Table_many (je_v 0)) (ja_cons (je_attr k_Table n_Table_size (je_v 0)) ja_nil)))) (own := [("move", 8)]) (blkOk_by (N := ["table", "lot", "moves", "single", "ways", "waiting", "later", "here", "move", "behind", "kind", "each"]) (sc := defScope s_shortest_from) (by decide +kernel)) (gw_name (by decide)) (fun _ _ _ _ _ => (jg_n 8 sc_shortest_from.nd)) (fun _ _ _ _ _ => (jts_one (jt_cmp (jc_eq hr) (je_ixU hr (je_v 8) je_int) je_int))) (fun _ _ _ _ _ => (je_v 8)))))
    (jss_cons (js_set 3 sc_shortest_from.nd (JX.nO (jx_dn2 hr sc_shortest_from.nd (ji_U (je_attr k_Table n_Table_swept (je_v 0))) (vs1 := [8]) (own := [("kind", 10), ("move", 8)]) (blkOk_by (N := ["table", "lot", "moves", "single", "ways", "waiting", "later", "here", "move", "behind", "kind", "each"]) (sc := defScope s_shortest_from) (by decide +kernel)) (gw_name (by decide)) (gw_name (by decide)) (by decide) (fun _ _ _ _ _ => (jg_n 10 sc_shortest_from.nd)) (fun _ _ _ _ _ => jts_nil) (fun _ _ _ _ _ => (ji_U (je_v 2))) (fun _ _ _ _ _ => (jg_n 8 sc_shortest_from.nd)) (fun _ _ _ _ _ => jts_nil) (fun _ _ _ _ _ => (je_tup (ja_cons (je_v 10) (ja_cons (je_v 8) ja_nil)))) (fun _ _ _ _ _ => (je_callP C_left_of (hr.mono (by decide)) hgu (ja_cons (je_v 0) (ja_cons (je_tup (ja_cons (je_v 10) ja_nil)) (ja_cons (je_v 8) ja_nil))))))))
    (jss_cons (js_par 4 5 sc_shortest_from.nd (ja_cons (je_dispN hr (je_v 1) (je_tup ja_nil)) (ja_cons (JF.f (jf_lst (ja_cons (je_v 1) ja_nil))) ja_nil)))
    (jss_cons (js_while 100000 (JW.jt (jw_and (jt_tru (je_v 5)) (jw_and1 (jt_cmp (jc_notInN hr) (je_tup ja_nil) (je_v 4))))) (jss_cons (js_set 6 sc_shortest_from.nd (JF.o (jf_lst ja_nil)))
    (jss_cons (js_for (ji_U (je_v 5)) (jg_n 7 sc_shortest_from.nd) (jss_one (js_for (ji_U (je_v 2)) (jg_n 8 sc_shortest_from.nd) (jss_cons (js_set 9 sc_shortest_from.nd (je_t jb_tuple g_tuple (ja_cons (JF.f (jf_sortS (jx_sc2 hr sc_shortest_from.nd (ji_U (je_v 7)) (vs1 := [10]) (own := [("each", 11), ("kind", 10)]) (blkOk_by (N := ["table", "lot", "moves", "single", "ways", "waiting", "later", "here", "move", "behind", "kind", "each"]) (sc := defScope s_shortest_from) (by decide +kernel)) (gw_name (by decide)) (gw_name (by decide)) (by decide) (fun _ _ _ _ _ => (jg_n 11 sc_shortest_from.nd)) (fun _ _ _ _ _ => jts_nil) (fun _ _ _ _ _ => (ji_U (je_ixN hr (je_v 3) (je_tup (ja_cons (je_v 11) (ja_cons (je_v 8) ja_nil)))))) (fun _ _ _ _ _ => (jg_n 10 sc_shortest_from.nd)) (fun _ _ _ _ _ => jts_nil) (fun _ _ _ _ _ => (je_v 10))) g_sorted)) ja_nil)))
    (jss_one (js_if (jt_cmp (jc_notInN hr) (je_v 9) (je_v 4)) (jss_cons (js_asg (je_tup (ja_star (je_ixN hr (je_v 4) (je_v 7)) (ja_cons (je_v 8) ja_nil))) (jg_subN hr (je_v 4) (je_v 9)))
    (jss_one (js_expr (je_m PySem.F.plainAttrs_list PySem.F.slot_list_append PySem.F.type_list_append jm_append (je_v 6) (ja_cons (je_v 9) ja_nil))))) jss_nil))))))
    (jss_one (js_set 5 sc_shortest_from.nd (je_v 6))))))
    (jss_one (js_ret (je_getN hr (je_v 4) (ja_cons (je_tup ja_nil) ja_nil))))))))
theorem ok_Table___init__ (F : FnP K "__init__" "Table.__init__" s_Table___init__ f fd) (C_all_turns : Cal P w K mg base 1 "all_turns" ["dials", "told"] F_all_turns s_all_turns) (C_head_in : Cal P w K mg base 3 "head_in" ["row"] F_head_in s_head_in) (C_sweep : Cal P w K mg base 3 "sweep" ["many", "size", "group"] F_sweep s_sweep) (C_turn_in : Cal P w K mg base 2 "turn_in" ["row", "dials"] F_turn_in s_turn_in) (C_wrong_rows : Cal P w K mg base 4 "wrong_rows" ["rows"] F_wrong_rows s_wrong_rows) (k_Table : Cls K (He.ga K "Table")) (n_Table_group : NoAttr K (He.ga K "Table") "group") (n_Table_known : NoAttr K (He.ga K "Table") "known") (n_Table_many : NoAttr K (He.ga K "Table") "many") (n_Table_size : NoAttr K (He.ga K "Table") "size") (n_Table_swept : NoAttr K (He.ga K "Table") "swept") (n_Table_told : NoAttr K (He.ga K "Table") "told") (g_sorted : mg "sorted" = none) (g_tuple : mg "tuple" = none) :
    FnQ P w K mg base CX0 5 f (spStar K 1 F_Table___init__) := by
  refine fn_starQ (ps := ["self"]) (pv := "rows") F sc_Table___init__ (fun _ kV doc pm an cdv ct => StX.bind_star1 (B := fun us => bindArgs (PySem.W.fnOf "__init__" "Table.__init__" (defArgs s_Table___init__) (defBody s_Table___init__) (defScope s_Table___init__) .none kV doc pm an cdv ct) ⟨us, []⟩) (fun _ => rfl) (fun _ _ _ => rfl)) fun cdv A outer s H E hr hgu => ?_
  exact JSs.b (K := K) (m := m_Table___init__) (jss_cons (js_set 2 sc_Table___init__.nd (je_callP C_wrong_rows (hr.mono (by decide)) hgu (ja_cons (je_v 1) ja_nil)))
    (jss_cons (js_if (jt_tru (je_v 2)) (jss_one js_never) jss_nil)
    (jss_cons (js_asg (je_v 1) (jg_fld k_Table n_Table_told (je_v 0)))
    (jss_cons (js_asg (je_callP C_head_in (hr.mono (by decide)) hgu (ja_cons (je_ixU hr (je_v 1) je_int) ja_nil)) (jg_seqT (jgs_cons (jg_fld k_Table n_Table_many (je_v 0)) (jgs_cons (jg_fld k_Table n_Table_size (je_v 0)) jgs_nil))))
    (jss_cons (js_asg (je_callP C_all_turns (hr.mono (by decide)) hgu (ja_cons (je_attr k_Table n_Table_many (je_v 0)) (ja_cons (JF.f (jf_lc sc_Table___init__.nd (ji_U (je_slU (je_v 1) (jo_some je_int) jo_none)) (own := [("row", 4)]) (blkOk_by (N := ["self", "rows", "wrong", "nothing", "row", "each"]) (sc := defScope s_Table___init__) (by decide +kernel)) (gw_name (by decide)) (fun _ _ _ _ _ => (jg_n 4 sc_Table___init__.nd)) (fun _ _ _ _ _ => jts_nil) (fun _ _ _ _ _ => (je_callP C_turn_in (hr.mono (by decide)) hgu (ja_cons (je_v 4) (ja_cons (je_attr k_Table n_Table_many (je_v 0)) ja_nil)))))) ja_nil))) (jg_fld k_Table n_Table_group (je_v 0)))
    (jss_cons (js_asg (je_callP C_sweep (hr.mono (by decide)) hgu (ja_cons (je_attr k_Table n_Table_many (je_v 0)) (ja_cons (je_attr k_Table n_Table_size (je_v 0)) (ja_cons (je_attr k_Table n_Table_group (je_v 0)) ja_nil)))) (jg_fld k_Table n_Table_known (je_v 0)))
    (jss_cons (js_set 3 sc_Table___init__.nd (je_mulU (je_tup (ja_cons je_int ja_nil)) (je_attr k_Table n_Table_many (je_v 0))))
    (jss_one (js_asg (je_t jb_tuple g_tuple (ja_cons (JF.f (jf_sortS (jx_sc1 hr sc_Table___init__.nd (ji_U (je_attr k_Table n_Table_known (je_v 0))) (own := [("each", 5)]) (blkOk_by (N := ["self", "rows", "wrong", "nothing", "row", "each"]) (sc := defScope s_Table___init__) (by decide +kernel)) (gw_name (by decide)) (fun _ _ _ _ _ => (jg_n 5 sc_Table___init__.nd)) (fun _ _ _ _ _ => (jts_one (jt_cmp (jc_ne hr) (je_ixU hr (je_attr k_Table n_Table_known (je_v 0)) (je_v 5)) (je_v 3)))) (fun _ _ _ _ _ => (je_ixU hr (je_attr k_Table n_Table_known (je_v 0)) (je_v 5)))) g_sorted)) ja_nil)) (jg_fld k_Table n_Table_swept (je_v 0)))))))))))
theorem ok_is_sure (F : FnP K "is_sure" "is_sure" s_is_sure f fd) (C_course_of : Cal P w K mg base 4 "course_of" ["table", "plan"] F_course_of s_course_of) :
    FnG P w K mg base CX0 5 f fd ["table", "plan"] (spD K 2 F_is_sure) := by
  refine fn_okTG F sc_is_sure fun cdv A outer s H E hr hgu => ?_
  exact JSs.b (K := K) (m := m_is_sure) (jss_one (js_ret (je_cmp (jc_eq hr) (je_ixU hr (je_callP C_course_of (hr.mono (by decide)) hgu (ja_cons (je_v 0) (ja_cons (je_v 1) ja_nil))) (je_neg je_int)) (je_tup ja_nil))))
theorem ok_chain_of (F : FnP K "chain_of" "chain_of" s_chain_of f fd) (C_first_reached : Cal P w K mg base 2 "first_reached" ["table"] F_first_reached s_first_reached) (C_next_step : Cal P w K mg base 4 "next_step" ["table", "reached"] F_next_step s_next_step) (C_reached_by : Cal P w K mg base 2 "reached_by" ["table", "move", "reached"] F_reached_by s_reached_by) (g_tuple : mg "tuple" = none) :
    FnG P w K mg base CX0 5 f fd ["table"] (spD K 1 F_chain_of) := by
  refine fn_okTG F sc_chain_of fun cdv A outer s H E hr hgu => ?_
  exact JSs.b (K := K) (m := m_chain_of) (jss_cons (js_par 1 2 sc_chain_of.nd (ja_cons (JF.o (jf_lst ja_nil)) (ja_cons (je_callP C_first_reached (hr.mono (by decide)) hgu (ja_cons (je_v 0) ja_nil)) ja_nil)))
    (jss_cons (js_set 3 sc_chain_of.nd (je_callP C_next_step (hr.mono (by decide)) hgu (ja_cons (je_v 0) (ja_cons (je_v 2) ja_nil))))
    (jss_cons (js_while 100000 (jt_cmp jc_notN (je_v 3) je_non) (jss_cons (js_expr (je_m PySem.F.plainAttrs_list PySem.F.slot_list_append PySem.F.type_list_append jm_append (je_v 1) (ja_cons (je_v 3) ja_nil)))
    (jss_cons (js_set 2 sc_chain_of.nd (je_callP C_reached_by (hr.mono (by decide)) hgu (ja_cons (je_v 0) (ja_cons (je_ixU hr (je_v 3) je_int) (ja_cons (je_v 2) ja_nil)))))
    (jss_one (js_set 3 sc_chain_of.nd (je_callP C_next_step (hr.mono (by decide)) hgu (ja_cons (je_v 0) (ja_cons (je_v 2) ja_nil))))))))
    (jss_one (js_ret (je_tup (ja_cons (je_t jb_tuple g_tuple (ja_cons (je_v 1) ja_nil)) (ja_cons (je_v 2) ja_nil))))))))
theorem ok_fewest_of (F : FnP K "fewest_of" "fewest_of" s_fewest_of f fd) (C_shortest_from : Cal P w K mg base 4 "shortest_from" ["table", "lot"] F_shortest_from s_shortest_from) (k_Table : Cls K (He.ga K "Table")) (n_Table_swept : NoAttr K (He.ga K "Table") "swept") (g_len : mg "len" = none) :
    FnG P w K mg base CX0 5 f fd ["table"] (spD K 1 F_fewest_of) := by
  refine fn_okTG F sc_fewest_of fun cdv A outer s H E hr hgu => ?_
  exact JSs.b (K := K) (m := m_fewest_of) (jss_cons (js_set 1 sc_fewest_of.nd (je_callP C_shortest_from (hr.mono (by decide)) hgu (ja_cons (je_v 0) (ja_cons (je_attr k_Table n_Table_swept (je_v 0)) ja_nil))))
    (jss_one (js_ret (je_if (jt_cmp jc_isN (je_v 1) je_non) je_non (je_b jb_lenU g_len (ja_cons (je_v 1) ja_nil))))))
theorem ok_surely (F : FnP K "surely" "surely" s_surely f fd) (C_check_plan : Cal P w K mg base 4 "check_plan" ["table", "plan"] F_check_plan s_check_plan) (C_check_table : Cal P w K mg base 1 "check_table" ["value"] F_check_table s_check_table) (C_is_sure : Cal P w K mg base 5 "is_sure" ["table", "plan"] F_is_sure s_is_sure) :
    FnG P w K mg base CX0 6 f fd ["table", "plan"] (spD K 2 F_surely) := by
  refine fn_okTG F sc_surely fun cdv A outer s H E hr hgu => ?_
  exact JSs.b (K := K) (m := m_surely) (jss_cons (js_expr (je_callP C_check_table (hr.mono (by decide)) hgu (ja_cons (je_v 0) ja_nil)))
    (jss_cons (js_expr (je_callP C_check_plan (hr.mono (by decide)) hgu (ja_cons (je_v 0) (ja_cons (je_v 1) ja_nil))))
    (jss_one (js_ret (je_callP C_is_sure (hr.mono (by decide)) hgu (ja_cons (je_v 0) (ja_cons (je_v 1) ja_nil)))))))
theorem ok_trap_of (F : FnP K "trap_of" "trap_of" s_trap_of f fd) (C_chain_of : Cal P w K mg base 5 "chain_of" ["table"] F_chain_of s_chain_of) (k_Table : Cls K (He.ga K "Table")) (n_Table_swept : NoAttr K (He.ga K "Table") "swept") (g_tuple : mg "tuple" = none) :
    FnG P w K mg base CX0 6 f fd ["table"] (spD K 1 F_trap_of) := by
  refine fn_okTG F sc_trap_of fun cdv A outer s H E hr hgu => ?_
  exact JSs.b (K := K) (m := m_trap_of) (jss_cons (js_set 1 sc_trap_of.nd (je_ixU hr (je_callP C_chain_of (hr.mono (by decide)) hgu (ja_cons (je_v 0) ja_nil)) je_int))
    (jss_one (js_ret (je_t jb_tuple g_tuple (ja_cons (JF.f (jf_lc sc_trap_of.nd (ji_U (je_attr k_Table n_Table_swept (je_v 0))) (own := [("kind", 2)]) (blkOk_by (N := ["table", "reached", "kind"]) (sc := defScope s_trap_of) (by decide +kernel)) (gw_name (by decide)) (fun _ _ _ _ _ => (jg_n 2 sc_trap_of.nd)) (fun _ _ _ _ _ => (jts_one (jt_cmp (jc_notInU hr) (je_v 2) (je_v 1)))) (fun _ _ _ _ _ => (je_v 2)))) ja_nil)))))
theorem ok_fewest (F : FnP K "fewest" "fewest" s_fewest f fd) (C_check_kinds : Cal P w K mg base 1 "check_kinds" ["table"] F_check_kinds s_check_kinds) (C_check_table : Cal P w K mg base 1 "check_table" ["value"] F_check_table s_check_table) (C_fewest_of : Cal P w K mg base 5 "fewest_of" ["table"] F_fewest_of s_fewest_of) :
    FnG P w K mg base CX0 6 f fd ["table"] (spD K 1 F_fewest) := by
  refine fn_okTG F sc_fewest fun cdv A outer s H E hr hgu => ?_
  exact JSs.b (K := K) (m := m_fewest) (jss_cons (js_expr (je_callP C_check_table (hr.mono (by decide)) hgu (ja_cons (je_v 0) ja_nil)))
    (jss_cons (js_expr (je_callP C_check_kinds (hr.mono (by decide)) hgu (ja_cons (je_v 0) ja_nil)))
    (jss_one (js_ret (je_callP C_fewest_of (hr.mono (by decide)) hgu (ja_cons (je_v 0) ja_nil))))))
theorem ok_can (F : FnP K "can" "can" s_can f fd) (C_check_table : Cal P w K mg base 1 "check_table" ["value"] F_check_table s_check_table) (C_trap_of : Cal P w K mg base 6 "trap_of" ["table"] F_trap_of s_trap_of) :
    FnG P w K mg base CX0 7 f fd ["table"] (spD K 1 F_can) := by
  refine fn_okTG F sc_can fun cdv A outer s H E hr hgu => ?_
  exact JSs.b (K := K) (m := m_can) (jss_cons (js_expr (je_callP C_check_table (hr.mono (by decide)) hgu (ja_cons (je_v 0) ja_nil)))
    (jss_one (js_ret (je_cmp (jc_eq hr) (je_callP C_trap_of (hr.mono (by decide)) hgu (ja_cons (je_v 0) ja_nil)) (je_tup ja_nil)))))
theorem ok_built_of (F : FnP K "built_of" "built_of" s_built_of f fd) (C_chain_of : Cal P w K mg base 5 "chain_of" ["table"] F_chain_of s_chain_of) (C_plan_of : Cal P w K mg base 1 "plan_of" ["steps"] F_plan_of s_plan_of) (C_trap_of : Cal P w K mg base 6 "trap_of" ["table"] F_trap_of s_trap_of) :
    FnG P w K mg base CX0 7 f fd ["table"] (spD K 1 F_built_of) := by
  refine fn_okTG F sc_built_of fun cdv A outer s H E hr hgu => ?_
  exact JSs.b (K := K) (m := m_built_of) (jss_one (js_ret (je_if (jt_cmp (jc_eq hr) (je_callP C_trap_of (hr.mono (by decide)) hgu (ja_cons (je_v 0) ja_nil)) (je_tup ja_nil)) (je_callP C_plan_of (hr.mono (by decide)) hgu (ja_cons (je_ixU hr (je_callP C_chain_of (hr.mono (by decide)) hgu (ja_cons (je_v 0) ja_nil)) je_int) ja_nil)) je_non)))
theorem ok_trap (F : FnP K "trap" "trap" s_trap f fd) (C_check_table : Cal P w K mg base 1 "check_table" ["value"] F_check_table s_check_table) (C_trap_of : Cal P w K mg base 6 "trap_of" ["table"] F_trap_of s_trap_of) :
    FnG P w K mg base CX0 7 f fd ["table"] (spD K 1 F_trap) := by
  refine fn_okTG F sc_trap fun cdv A outer s H E hr hgu => ?_
  exact JSs.b (K := K) (m := m_trap) (jss_cons (js_expr (je_callP C_check_table (hr.mono (by decide)) hgu (ja_cons (je_v 0) ja_nil)))
    (jss_one (js_ret (je_callP C_trap_of (hr.mono (by decide)) hgu (ja_cons (je_v 0) ja_nil)))))
theorem ok__law_ring (F : FnP K "_law_ring" "_law_ring" s__law_ring f fd) (C_Table___init__ : MkS P w K mg base 5 "Table" F_Table___init__) (g_str : mg "str" = none) :
    FnG P w K mg base CX0 7 f fd ["_law_dial_count", "_law_size"] (spD K 2 F__law_ring) := by
  refine fn_okTG F sc__law_ring fun cdv A outer s H E hr hgu => ?_
  exact JSs.b (K := K) (m := m__law_ring) (jss_one (js_ret (je_make C_Table___init__ (hr.mono (by decide)) hgu (ja_cons (je_addU (je_addU (je_addU je_str (je_t jb_str g_str (ja_cons (je_v 0) ja_nil))) je_str) (je_t jb_str g_str (ja_cons (je_v 1) ja_nil))) (ja_cons je_str ja_nil)))))
theorem ok_built (F : FnP K "built" "built" s_built f fd) (C_built_of : Cal P w K mg base 7 "built_of" ["table"] F_built_of s_built_of) (C_check_table : Cal P w K mg base 1 "check_table" ["value"] F_check_table s_check_table) :
    FnG P w K mg base CX0 8 f fd ["table"] (spD K 1 F_built) := by
  refine fn_okTG F sc_built fun cdv A outer s H E hr hgu => ?_
  exact JSs.b (K := K) (m := m_built) (jss_cons (js_expr (je_callP C_check_table (hr.mono (by decide)) hgu (ja_cons (je_v 0) ja_nil)))
    (jss_one (js_ret (je_callP C_built_of (hr.mono (by decide)) hgu (ja_cons (je_v 0) ja_nil)))))
theorem ok_law (F : FnP K "law" "law" s_law f fd) (C_Table___init__ : MkS P w K mg base 5 "Table" F_Table___init__) (C_Table_turns : PrC P w K mg base 1 "Table" "turns" F_Table_turns) (C__law_ring : Cal P w K mg base 7 "_law_ring" ["_law_dial_count", "_law_size"] F__law_ring s__law_ring) (C_built : Cal P w K mg base 8 "built" ["table"] F_built s_built) (C_can : Cal P w K mg base 7 "can" ["table"] F_can s_can) (C_fewest : Cal P w K mg base 6 "fewest" ["table"] F_fewest s_fewest) (C_surely : Cal P w K mg base 6 "surely" ["table", "plan"] F_surely s_surely) (C_trap : Cal P w K mg base 7 "trap" ["table"] F_trap s_trap) (g_len : mg "len" = none) (g_range : mg "range" = none) :
    FnG P w K mg base CX0 9 f fd ["_law_script"] (spD K 1 F_law) := by
  refine fn_okTG F sc_law fun cdv A outer s H E hr hgu => ?_
  exact JSs.b (K := K) (m := m_law) (jss_cons (js_set 1 sc_law.nd (je_callP C__law_ring (hr.mono (by decide)) hgu (ja_cons je_int (ja_cons je_int ja_nil))))
    (jss_cons (js_if (JW.jt (jw_or (jt_cmp (jc_ne hr) (je_callP C_fewest (hr.mono (by decide)) hgu (ja_cons (je_v 1) ja_nil)) je_int) (jw_or (jt_cmp (jc_ne hr) (je_b jb_lenU g_len (ja_cons (je_callP C_built (hr.mono (by decide)) hgu (ja_cons (je_v 1) ja_nil)) ja_nil)) je_int) (jw_or1 (jt_cmp (jc_ne hr) (je_callP C_trap (hr.mono (by decide)) hgu (ja_cons (je_v 1) ja_nil)) (je_tup ja_nil)))))) (jss_one (js_ret je_bl)) jss_nil)
    (jss_cons (js_if (jt_not (jt_tru (je_callP C_surely (hr.mono (by decide)) hgu (ja_cons (je_v 1) (ja_cons (je_tup (ja_cons (je_tup (ja_cons je_int (ja_cons je_int (ja_cons je_int (ja_cons je_int ja_nil))))) (ja_cons (je_tup (ja_cons je_int (ja_cons je_int (ja_cons je_int (ja_cons je_int ja_nil))))) (ja_cons (je_tup (ja_cons je_int (ja_cons je_int (ja_cons je_int (ja_cons je_int ja_nil))))) (ja_cons (je_tup (ja_cons je_int (ja_cons je_int (ja_cons je_int (ja_cons je_int ja_nil))))) (ja_cons (je_tup (ja_cons je_int (ja_cons je_int (ja_cons je_int (ja_cons je_int ja_nil))))) (ja_cons (je_tup (ja_cons je_int (ja_cons je_int (ja_cons je_int (ja_cons je_int ja_nil))))) (ja_cons (je_tup (ja_cons je_int (ja_cons je_int (ja_cons je_int (ja_cons je_int ja_nil))))) ja_nil)))))))) ja_nil))))) (jss_one (js_ret je_bl)) jss_nil)
    (jss_cons (js_if (jt_cmp (jc_ne hr) (JF.f (jf_lc sc_law.nd (ji_rng2 g_range (ja_cons je_int (ja_cons je_int ja_nil))) (own := [("_law_size", 4)]) (blkOk_by (N := ["_law_script", "_law_glasses", "_law_cross", "_law_wild", "_law_size", "_law_dial_count"]) (sc := defScope s_law) (by decide +kernel)) (gw_name (by decide)) (fun _ _ _ _ _ => (jg_n 4 sc_law.nd)) (fun _ _ _ _ _ => jts_nil) (fun _ _ _ _ _ => (je_callP C_can (hr.mono (by decide)) hgu (ja_cons (je_callP C__law_ring (hr.mono (by decide)) hgu (ja_cons je_int (ja_cons (je_v 4) ja_nil))) ja_nil))))) (JF.f (jf_lst (ja_cons je_bl (ja_cons je_bl (ja_cons je_bl (ja_cons je_bl (ja_cons je_bl (ja_cons je_bl (ja_cons je_bl (ja_cons je_bl ja_nil))))))))))) (jss_one (js_ret je_bl)) jss_nil)
    (jss_cons (js_if (jt_cmp (jc_ne hr) (JF.f (jf_lc sc_law.nd (ji_rng2 g_range (ja_cons je_int (ja_cons je_int ja_nil))) (own := [("_law_size", 4)]) (blkOk_by (N := ["_law_script", "_law_glasses", "_law_cross", "_law_wild", "_law_size", "_law_dial_count"]) (sc := defScope s_law) (by decide +kernel)) (gw_name (by decide)) (fun _ _ _ _ _ => (jg_n 4 sc_law.nd)) (fun _ _ _ _ _ => jts_nil) (fun _ _ _ _ _ => (je_callP C_can (hr.mono (by decide)) hgu (ja_cons (je_callP C__law_ring (hr.mono (by decide)) hgu (ja_cons je_int (ja_cons (je_v 4) ja_nil))) ja_nil))))) (JF.f (jf_lst (ja_cons je_bl (ja_cons je_bl (ja_cons je_bl (ja_cons je_bl ja_nil))))))) (jss_one (js_ret je_bl)) jss_nil)
    (jss_cons (js_if (jt_cmp (jc_ne hr) (JF.f (jf_lc sc_law.nd (ji_rng2 g_range (ja_cons je_int (ja_cons je_int ja_nil))) (own := [("_law_dial_count", 5)]) (blkOk_by (N := ["_law_script", "_law_glasses", "_law_cross", "_law_wild", "_law_size", "_law_dial_count"]) (sc := defScope s_law) (by decide +kernel)) (gw_name (by decide)) (fun _ _ _ _ _ => (jg_n 5 sc_law.nd)) (fun _ _ _ _ _ => jts_nil) (fun _ _ _ _ _ => (je_callP C_can (hr.mono (by decide)) hgu (ja_cons (je_callP C__law_ring (hr.mono (by decide)) hgu (ja_cons (je_v 5) (ja_cons je_int ja_nil))) ja_nil))))) (JF.f (jf_lst (ja_cons je_bl (ja_cons je_bl (ja_cons je_bl (ja_cons je_bl (ja_cons je_bl (ja_cons je_bl ja_nil))))))))) (jss_one (js_ret je_bl)) jss_nil)
    (jss_cons (js_if (JW.jt (jw_or (jt_tru (je_callP C_can (hr.mono (by decide)) hgu (ja_cons (je_callP C__law_ring (hr.mono (by decide)) hgu (ja_cons je_int (ja_cons je_int ja_nil))) ja_nil))) (jw_or (jt_cmp (jc_ne hr) (je_b jb_lenU g_len (ja_cons (je_callP C_trap (hr.mono (by decide)) hgu (ja_cons (je_callP C__law_ring (hr.mono (by decide)) hgu (ja_cons je_int (ja_cons je_int ja_nil))) ja_nil)) ja_nil)) je_int) (jw_or1 (jt_cmp jc_notN (je_callP C_fewest (hr.mono (by decide)) hgu (ja_cons (je_callP C__law_ring (hr.mono (by decide)) hgu (ja_cons je_int (ja_cons je_int ja_nil))) ja_nil)) je_non))))) (jss_one (js_ret je_bl)) jss_nil)
    (jss_cons (js_set 2 sc_law.nd (je_make C_Table___init__ (hr.mono (by decide)) hgu (ja_cons je_str (ja_cons je_str (ja_cons je_str ja_nil)))))
    (jss_cons (js_set 3 sc_law.nd (je_make C_Table___init__ (hr.mono (by decide)) hgu (ja_cons je_str (ja_cons je_str (ja_cons je_str ja_nil)))))
    (jss_one (js_ret (je_and (je_callP C_can (hr.mono (by decide)) hgu (ja_cons (je_v 2) ja_nil)) (je_and (je_not (je_callP C_can (hr.mono (by decide)) hgu (ja_cons (je_v 3) ja_nil))) (je_and (je_cmp (jc_eq hr) (je_b jb_lenU g_len (ja_cons (je_prop C_Table_turns (hr.mono (by decide)) hgu (je_v 3)) ja_nil)) je_int) (je_one (je_cmp (jc_eq hr) (je_b jb_lenU g_len (ja_cons (je_prop C_Table_turns (hr.mono (by decide)) hgu (je_v 2)) ja_nil)) je_int))))))))))))))))
end
/-! the head -/
def d_is_integer : He5.DefA := ⟨Hd.atG "is_integer", "is_integer", "is_integer", defArgs s_is_integer, defBody s_is_integer, defScope s_is_integer, [], []⟩
def d_number_in : He5.DefA := ⟨Hd.atG "number_in", "number_in", "number_in", defArgs s_number_in, defBody s_number_in, defScope s_number_in, [], []⟩
def d_power_of : He5.DefA := ⟨Hd.atG "power_of", "power_of", "power_of", defArgs s_power_of, defBody s_power_of, defScope s_power_of, [], []⟩
def d_behind_turn : He5.DefA := ⟨Hd.atG "behind_turn", "behind_turn", "behind_turn", defArgs s_behind_turn, defBody s_behind_turn, defScope s_behind_turn, [], []⟩
def d_all_turns : He5.DefA := ⟨Hd.atG "all_turns", "all_turns", "all_turns", defArgs s_all_turns, defBody s_all_turns, defScope s_all_turns, [], []⟩
def d_Table_turns : He5.DefA := ⟨Hd.atP "Table" "turns", "turns", "Table.turns", defArgs s_Table_turns, defBody s_Table_turns, defScope s_Table_turns, [], []⟩
def d_shifted : He5.DefA := ⟨Hd.atG "shifted", "shifted", "shifted", defArgs s_shifted, defBody s_shifted, defScope s_shifted, [], []⟩
def d_all_standings : He5.DefA := ⟨Hd.atG "all_standings", "all_standings", "all_standings", defArgs s_all_standings, defBody s_all_standings, defScope s_all_standings, [], []⟩
def d_check_table : He5.DefA := ⟨Hd.atG "check_table", "check_table", "check_table", defArgs s_check_table, defBody s_check_table, defScope s_check_table, [], []⟩
def d_is_bell : He5.DefA := ⟨Hd.atG "is_bell", "is_bell", "is_bell", defArgs s_is_bell, defBody s_is_bell, defScope s_is_bell, [], []⟩
def d_added : He5.DefA := ⟨Hd.atG "added", "added", "added", defArgs s_added, defBody s_added, defScope s_added, [], []⟩
def d_lessened : He5.DefA := ⟨Hd.atG "lessened", "lessened", "lessened", defArgs s_lessened, defBody s_lessened, defScope s_lessened, [], []⟩
def d_kind_of : He5.DefA := ⟨Hd.atG "kind_of", "kind_of", "kind_of", defArgs s_kind_of, defBody s_kind_of, defScope s_kind_of, [], []⟩
def d_zeros : He5.DefA := ⟨Hd.atG "zeros", "zeros", "zeros", defArgs s_zeros, defBody s_zeros, defScope s_zeros, [], []⟩
def d_is_prime : He5.DefA := ⟨Hd.atG "is_prime", "is_prime", "is_prime", defArgs s_is_prime, defBody s_is_prime, defScope s_is_prime, [], []⟩
def d_plan_of : He5.DefA := ⟨Hd.atG "plan_of", "plan_of", "plan_of", defArgs s_plan_of, defBody s_plan_of, defScope s_plan_of, [], []⟩
def d_check_kinds : He5.DefA := ⟨Hd.atG "check_kinds", "check_kinds", "check_kinds", defArgs s_check_kinds, defBody s_check_kinds, defScope s_check_kinds, [], []⟩
def d_is_between : He5.DefA := ⟨Hd.atG "is_between", "is_between", "is_between", defArgs s_is_between, defBody s_is_between, defScope s_is_between, [], []⟩
def d_turn_in : He5.DefA := ⟨Hd.atG "turn_in", "turn_in", "turn_in", defArgs s_turn_in, defBody s_turn_in, defScope s_turn_in, [], []⟩
def d_alike_to : He5.DefA := ⟨Hd.atG "alike_to", "alike_to", "alike_to", defArgs s_alike_to, defBody s_alike_to, defScope s_alike_to, [], []⟩
def d_coming_from : He5.DefA := ⟨Hd.atG "coming_from", "coming_from", "coming_from", defArgs s_coming_from, defBody s_coming_from, defScope s_coming_from, [], []⟩
def d_first_reached : He5.DefA := ⟨Hd.atG "first_reached", "first_reached", "first_reached", defArgs s_first_reached, defBody s_first_reached, defScope s_first_reached, [], []⟩
def d_differences : He5.DefA := ⟨Hd.atG "differences", "differences", "differences", defArgs s_differences, defBody s_differences, defScope s_differences, [], []⟩
def d_times_until : He5.DefA := ⟨Hd.atG "times_until", "times_until", "times_until", defArgs s_times_until, defBody s_times_until, defScope s_times_until, [], []⟩
def d_reached_by : He5.DefA := ⟨Hd.atG "reached_by", "reached_by", "reached_by", defArgs s_reached_by, defBody s_reached_by, defScope s_reached_by, [], []⟩
def d_head_in : He5.DefA := ⟨Hd.atG "head_in", "head_in", "head_in", defArgs s_head_in, defBody s_head_in, defScope s_head_in, [], []⟩
def d_sweep : He5.DefA := ⟨Hd.atG "sweep", "sweep", "sweep", defArgs s_sweep, defBody s_sweep, defScope s_sweep, [], []⟩
def d_are_marks : He5.DefA := ⟨Hd.atG "are_marks", "are_marks", "are_marks", defArgs s_are_marks, defBody s_are_marks, defScope s_are_marks, [], []⟩
def d_left_of : He5.DefA := ⟨Hd.atG "left_of", "left_of", "left_of", defArgs s_left_of, defBody s_left_of, defScope s_left_of, [], []⟩
def d_is_step : He5.DefA := ⟨Hd.atG "is_step", "is_step", "is_step", defArgs s_is_step, defBody s_is_step, defScope s_is_step, [], []⟩
def d_wrong_rows : He5.DefA := ⟨Hd.atG "wrong_rows", "wrong_rows", "wrong_rows", defArgs s_wrong_rows, defBody s_wrong_rows, defScope s_wrong_rows, [], []⟩
def d_check_plan : He5.DefA := ⟨Hd.atG "check_plan", "check_plan", "check_plan", defArgs s_check_plan, defBody s_check_plan, defScope s_check_plan, [], []⟩
def d_course_of : He5.DefA := ⟨Hd.atG "course_of", "course_of", "course_of", defArgs s_course_of, defBody s_course_of, defScope s_course_of, [], []⟩
def d_next_step : He5.DefA := ⟨Hd.atG "next_step", "next_step", "next_step", defArgs s_next_step, defBody s_next_step, defScope s_next_step, [], []⟩
def d_shortest_from : He5.DefA := ⟨Hd.atG "shortest_from", "shortest_from", "shortest_from", defArgs s_shortest_from, defBody s_shortest_from, defScope s_shortest_from, [], []⟩
def d_Table___init__ : He5.DefA := ⟨Hd.atM "Table" "__init__", "__init__", "Table.__init__", defArgs s_Table___init__, defBody s_Table___init__, defScope s_Table___init__, [], []⟩
def d_is_sure : He5.DefA := ⟨Hd.atG "is_sure", "is_sure", "is_sure", defArgs s_is_sure, defBody s_is_sure, defScope s_is_sure, [], []⟩
def d_chain_of : He5.DefA := ⟨Hd.atG "chain_of", "chain_of", "chain_of", defArgs s_chain_of, defBody s_chain_of, defScope s_chain_of, [], []⟩
def d_fewest_of : He5.DefA := ⟨Hd.atG "fewest_of", "fewest_of", "fewest_of", defArgs s_fewest_of, defBody s_fewest_of, defScope s_fewest_of, [], []⟩
def d_surely : He5.DefA := ⟨Hd.atG "surely", "surely", "surely", defArgs s_surely, defBody s_surely, defScope s_surely, [], []⟩
def d_trap_of : He5.DefA := ⟨Hd.atG "trap_of", "trap_of", "trap_of", defArgs s_trap_of, defBody s_trap_of, defScope s_trap_of, [], []⟩
def d_fewest : He5.DefA := ⟨Hd.atG "fewest", "fewest", "fewest", defArgs s_fewest, defBody s_fewest, defScope s_fewest, [], []⟩
def d_can : He5.DefA := ⟨Hd.atG "can", "can", "can", defArgs s_can, defBody s_can, defScope s_can, [], []⟩
def d_built_of : He5.DefA := ⟨Hd.atG "built_of", "built_of", "built_of", defArgs s_built_of, defBody s_built_of, defScope s_built_of, [], []⟩
def d_trap : He5.DefA := ⟨Hd.atG "trap", "trap", "trap", defArgs s_trap, defBody s_trap, defScope s_trap, [], []⟩
def d__law_ring : He5.DefA := ⟨Hd.atG "_law_ring", "_law_ring", "_law_ring", defArgs s__law_ring, defBody s__law_ring, defScope s__law_ring, [], []⟩
def d_built : He5.DefA := ⟨Hd.atG "built", "built", "built", defArgs s_built, defBody s_built, defScope s_built, [], []⟩
def d_law : He5.DefA := ⟨Hd.atG "law", "law", "law", defArgs s_law, defBody s_law, defScope s_law, [], []⟩
def fn : List He5.DefA := [d_is_integer, d_number_in, d_power_of, d_behind_turn, d_all_turns, d_Table_turns, d_shifted, d_all_standings, d_check_table, d_is_bell, d_added, d_lessened, d_kind_of, d_zeros, d_is_prime, d_plan_of, d_check_kinds, d_is_between, d_turn_in, d_alike_to, d_coming_from, d_first_reached, d_differences, d_times_until, d_reached_by, d_head_in, d_sweep, d_are_marks, d_left_of, d_is_step, d_wrong_rows, d_check_plan, d_course_of, d_next_step, d_shortest_from, d_Table___init__, d_is_sure, d_chain_of, d_fewest_of, d_surely, d_trap_of, d_fewest, d_can, d_built_of, d_trap, d__law_ring, d_built, d_law]
def fb_0 : Hd.Fb := fun K => (He.Fa.glo "is_integer").ok K
def fb_1 : Hd.Fb := fun K => (He.Fa.glo "number_in").ok K
def fb_2 : Hd.Fb := fun K => (He.Fa.glo "power_of").ok K
def fb_3 : Hd.Fb := fun K => (He.Fa.glo "behind_turn").ok K
def fb_4 : Hd.Fb := fun K => (He.Fa.glo "all_turns").ok K
def fb_5 : Hd.Fb := fun K => (He.Fa.glo "shifted").ok K
def fb_6 : Hd.Fb := fun K => (He.Fa.glo "all_standings").ok K
def fb_7 : Hd.Fb := fun K => (He.Fa.glo "check_table").ok K
def fb_8 : Hd.Fb := fun K => (He.Fa.glo "is_bell").ok K
def fb_9 : Hd.Fb := fun K => (He.Fa.glo "added").ok K
def fb_10 : Hd.Fb := fun K => (He.Fa.glo "lessened").ok K
def fb_11 : Hd.Fb := fun K => (He.Fa.glo "kind_of").ok K
def fb_12 : Hd.Fb := fun K => (He.Fa.glo "zeros").ok K
def fb_13 : Hd.Fb := fun K => (He.Fa.glo "is_prime").ok K
def fb_14 : Hd.Fb := fun K => (He.Fa.glo "plan_of").ok K
def fb_15 : Hd.Fb := fun K => (He.Fa.glo "check_kinds").ok K
def fb_16 : Hd.Fb := fun K => (He.Fa.glo "is_between").ok K
def fb_17 : Hd.Fb := fun K => (He.Fa.glo "turn_in").ok K
def fb_18 : Hd.Fb := fun K => (He.Fa.glo "alike_to").ok K
def fb_19 : Hd.Fb := fun K => (He.Fa.glo "coming_from").ok K
def fb_20 : Hd.Fb := fun K => (He.Fa.glo "first_reached").ok K
def fb_21 : Hd.Fb := fun K => (He.Fa.glo "differences").ok K
def fb_22 : Hd.Fb := fun K => (He.Fa.glo "times_until").ok K
def fb_23 : Hd.Fb := fun K => (He.Fa.glo "reached_by").ok K
def fb_24 : Hd.Fb := fun K => (He.Fa.glo "head_in").ok K
def fb_25 : Hd.Fb := fun K => (He.Fa.glo "sweep").ok K
def fb_26 : Hd.Fb := fun K => (He.Fa.glo "are_marks").ok K
def fb_27 : Hd.Fb := fun K => (He.Fa.glo "left_of").ok K
def fb_28 : Hd.Fb := fun K => (He.Fa.glo "is_step").ok K
def fb_29 : Hd.Fb := fun K => (He.Fa.glo "wrong_rows").ok K
def fb_30 : Hd.Fb := fun K => (He.Fa.glo "check_plan").ok K
def fb_31 : Hd.Fb := fun K => (He.Fa.glo "course_of").ok K
def fb_32 : Hd.Fb := fun K => (He.Fa.glo "next_step").ok K
def fb_33 : Hd.Fb := fun K => (He.Fa.glo "shortest_from").ok K
def fb_34 : Hd.Fb := fun K => (He.Fa.glo "is_sure").ok K
def fb_35 : Hd.Fb := fun K => (He.Fa.glo "chain_of").ok K
def fb_36 : Hd.Fb := fun K => (He.Fa.glo "fewest_of").ok K
def fb_37 : Hd.Fb := fun K => (He.Fa.glo "surely").ok K
def fb_38 : Hd.Fb := fun K => (He.Fa.glo "trap_of").ok K
def fb_39 : Hd.Fb := fun K => (He.Fa.glo "fewest").ok K
def fb_40 : Hd.Fb := fun K => (He.Fa.glo "can").ok K
def fb_41 : Hd.Fb := fun K => (He.Fa.glo "built_of").ok K
def fb_42 : Hd.Fb := fun K => (He.Fa.glo "trap").ok K
def fb_43 : Hd.Fb := fun K => (He.Fa.glo "_law_ring").ok K
def fb_44 : Hd.Fb := fun K => (He.Fa.glo "built").ok K
def fb_45 : Hd.Fb := fun K => (He.Fa.glo "law").ok K
def fb_46 : Hd.Fb := fun K => (He.Fa.cls "Table").ok K
def fb_47 : Hd.Fb := fun K => (He.Fa.glo "Table").ok K
def fb_48 : Hd.Fb := Hd.isiB "Table"
def fb_49 : Hd.Fb := fun K => (He.Fa.mkr "Table").ok K
def fb_50 : Hd.Fb := fun K => (He.Fa.noat "Table" "group").ok K
def fb_51 : Hd.Fb := fun K => (He.Fa.noat "Table" "known").ok K
def fb_52 : Hd.Fb := fun K => (He.Fa.noat "Table" "many").ok K
def fb_53 : Hd.Fb := fun K => (He.Fa.noat "Table" "size").ok K
def fb_54 : Hd.Fb := fun K => (He.Fa.noat "Table" "swept").ok K
def fb_55 : Hd.Fb := fun K => (He.Fa.noat "Table" "told").ok K
def fb_56 : Hd.Fb := Hd.propB "Table" "turns"
def fb_57 : Hd.Fb := fun K => (He.Fa.str "FIGURES" "0123456789").ok K
def fb_58 : Hd.Fb := fun K => (He.Fa.int "MOST_DIALS" 6).ok K
def fb_59 : Hd.Fb := fun K => (He.Fa.int "MOST_KINDS" 12).ok K
def fb_60 : Hd.Fb := fun K => (He.Fa.int "MOST_MARKS" 9).ok K
def fb_61 : Hd.Fb := fun K => (He.Fa.int "MOST_STANDINGS" 32).ok K
def fb_62 : Hd.Fb := fun K => (He.Fa.int "MOST_TURNS" 3).ok K
def fb_63 : Hd.Fb := fun K => (He.Fa.free "all").ok K
def fb_64 : Hd.Fb := fun K => (He.Fa.free "bool").ok K
def fb_65 : Hd.Fb := fun K => (He.Fa.free "dict").ok K
def fb_66 : Hd.Fb := fun K => (He.Fa.free "enumerate").ok K
def fb_67 : Hd.Fb := fun K => (He.Fa.free "int").ok K
def fb_68 : Hd.Fb := fun K => (He.Fa.free "isinstance").ok K
def fb_69 : Hd.Fb := fun K => (He.Fa.free "len").ok K
def fb_70 : Hd.Fb := fun K => (He.Fa.free "list").ok K
def fb_71 : Hd.Fb := fun K => (He.Fa.free "range").ok K
def fb_72 : Hd.Fb := fun K => (He.Fa.free "sorted").ok K
def fb_73 : Hd.Fb := fun K => (He.Fa.free "str").ok K
def fb_74 : Hd.Fb := fun K => (He.Fa.free "tuple").ok K
def fb_75 : Hd.Fb := fun K => (He.Fa.free "zip").ok K
def fb : List Hd.Fb := [fb_0, fb_1, fb_2, fb_3, fb_4, fb_5, fb_6, fb_7, fb_8, fb_9, fb_10, fb_11, fb_12, fb_13, fb_14, fb_15, fb_16, fb_17, fb_18, fb_19, fb_20, fb_21, fb_22, fb_23, fb_24, fb_25, fb_26, fb_27, fb_28, fb_29, fb_30, fb_31, fb_32, fb_33, fb_34, fb_35, fb_36, fb_37, fb_38, fb_39, fb_40, fb_41, fb_42, fb_43, fb_44, fb_45, fb_46, fb_47, fb_48, fb_49, fb_50, fb_51, fb_52, fb_53, fb_54, fb_55, fb_56, fb_57, fb_58, fb_59, fb_60, fb_61, fb_62, fb_63, fb_64, fb_65, fb_66, fb_67, fb_68, fb_69, fb_70, fb_71, fb_72, fb_73, fb_74, fb_75]
abbrev R : PySem.W.OpenRow := PySem.W.OpenLaw.row PySem.Challenge.rw_turnedblind_k33_tables_known_by_name
def asL : List PySem.Addr := [3, 6, 4, 21, 31, 53, 74, 95, 116, 128, 150, 159, 166, 171, 178, 185, 190, 197, 204, 209, 322, 331, 336, 341, 348, 355, 360, 365, 370, 375, 382, 387, 392, 399, 406, 413, 420, 427, 434, 439, 444, 451, 456, 461, 468, 475, 480, 487, 494, 501, 508, 515, 520, 527, 534, 541, 548, 553, 0, 20, 30, 52, 73, 94, 115, 127, 149, 158, 165, 170, 177, 184, 189, 196, 203, 208, 321, 330, 335, 340, 347, 354, 359, 364, 369, 374, 381, 386, 391, 398, 405, 412, 419, 426, 433, 438, 443, 450, 455, 460, 467, 474, 479, 486, 493, 500, 507, 514, 519, 526, 533, 540, 547, 552, 15, 16, 17, 18, 19, 29, 32, 50, 51, 71, 72, 92, 93, 113, 114, 126, 129, 147, 148, 153, 154, 155, 156, 157, 160, 161, 162, 163, 164, 167, 168, 169, 172, 173, 174, 175, 176, 179, 180, 181, 182, 183, 186, 187, 188, 191, 192, 193, 194, 195, 198, 199, 200, 201, 202, 205, 206, 207, 221, 230, 239, 247, 255, 263, 271, 277, 284, 291, 298, 305, 312, 319, 320, 323, 324, 327, 328, 329, 332, 333, 334, 337, 338, 339, 342, 343, 344, 345, 346, 349, 350, 351, 352, 353, 356, 357, 358, 361, 362, 363, 366, 367, 368, 371, 372, 373, 376, 377, 378, 379, 380, 383, 384, 385, 388, 389, 390, 393, 394, 395, 396, 397, 400, 401, 402, 403, 404, 407, 408, 409, 410, 411, 414, 415, 416, 417, 418, 421, 422, 423, 424, 425, 428, 429, 430, 431, 432, 435, 436, 437, 440, 441, 442, 445, 446, 447, 448, 449, 452, 453, 454, 457, 458, 459, 462, 463, 464, 465, 466, 469, 470, 471, 472, 473, 476, 477, 478, 481, 482, 483, 484, 485, 488, 489, 490, 491, 492, 495, 496, 497, 498, 499, 502, 503, 504, 505, 506, 509, 510, 511, 512, 513, 516, 517, 518, 521, 522, 523, 524, 525, 528, 529, 530, 531, 532, 535, 536, 537, 538, 539, 542, 543, 544, 545, 546, 549, 550, 551, 49, 38, 70, 59, 91, 80, 112, 101, 146, 135, 220, 228, 229, 238, 246, 254, 262, 270, 276, 283, 290, 297, 304, 311, 318, 44, 45, 46, 47, 48, 65, 66, 67, 68, 69, 86, 87, 88, 89, 90, 107, 108, 109, 110, 111, 141, 142, 143, 144, 145, 217, 218, 219, 227, 231, 237, 245, 253, 261, 269, 275, 278, 279, 280, 281, 282, 285, 286, 287, 288, 289, 292, 293, 294, 295, 296, 299, 300, 301, 302, 303, 306, 307, 308, 309, 310, 313, 314, 315, 316, 317, 222, 223, 224, 225, 226, 232, 233, 234, 235, 236, 240, 241, 242, 243, 244, 248, 249, 250, 251, 252, 256, 257, 258, 259, 260, 264, 265, 266, 267, 268, 272, 273, 274, 2]
abbrev hk : PySem.W.Hook := Hd.hookL asL fb fn
def ob (s : PySem.W.SharedT) : He.AlD := Hd.obsL asL fb fn (HandSHeadRun.getT s)
theorem ob_eq (s : PySem.W.SharedT) : ob s = hk.obs s.abs := Hd.obsL_eq (HandSHeadRun.getT_eq s)
def names : List PySem.Str := (["_wall", "is_integer", "is_between", "number_in", "power_of", "head_in", "turn_in", "wrong_rows"] : List PySem.Str) ++ (["behind_turn", "all_turns", "shifted", "alike_to", "all_standings", "sweep", "check_table", "are_marks"] : List PySem.Str) ++ (["is_bell", "added", "lessened", "kind_of", "coming_from", "left_of", "zeros", "check_plan"] : List PySem.Str) ++ (["course_of", "is_sure", "surely", "is_prime", "first_reached", "differences", "times_until", "is_step"] : List PySem.Str) ++ (["reached_by", "next_step", "chain_of", "trap_of", "can", "plan_of", "built_of", "built"] : List PySem.Str) ++ (["trap", "shortest_from", "check_kinds", "fewest_of", "fewest", "_law_ring", "WrongValue", "InvalidText"] : List PySem.Str) ++ (["NotATable", "InvalidRows", "InvalidPlan", "NoAnswer", "TooMany", "Table", "MOST_DIALS", "MOST_MARKS"] : List PySem.Str) ++ (["MOST_STANDINGS", "MOST_TURNS", "MOST_KINDS", "FIGURES"] : List PySem.Str)
theorem run (w : World) : HandSHeadRun.RunEq R (PySem.W.view R.prog [66]) hk ob 20000 names w := by
  intro os
  kernel_rfl
theorem facts {P : Program} {w : World} {K : PySem.W.Frag} {h : Heap} {mg : Str → Option Value} {f : Addr} (X : K.In h) (G : h.Ns mainGlobals mg) (hfa : mg ("law" : Str) = some (.ref f)) (c : Hd.SaysB fb fn K) :
    ∃ fd : FuncData, (∀ (s : Shared) (v : Value), BindsTo s fd ⟨[v], []⟩ [("_law_script", v)]) ∧ ∀ base : Heap, K.In base → base.Ns mainGlobals mg → FnG P w K mg base CX0 9 f fd ["_law_script"] (spD K 1 F_law) := by
  obtain ⟨fd_is_integer, D_is_integer⟩ := c.def_ 0 (d := d_is_integer) rfl
  have D_is_integer : FnP K "is_integer" "is_integer" s_is_integer (He.ga K "is_integer") fd_is_integer := D_is_integer
  obtain ⟨fd_number_in, D_number_in⟩ := c.def_ 1 (d := d_number_in) rfl
  have D_number_in : FnP K "number_in" "number_in" s_number_in (He.ga K "number_in") fd_number_in := D_number_in
  obtain ⟨fd_power_of, D_power_of⟩ := c.def_ 2 (d := d_power_of) rfl
  have D_power_of : FnP K "power_of" "power_of" s_power_of (He.ga K "power_of") fd_power_of := D_power_of
  obtain ⟨fd_behind_turn, D_behind_turn⟩ := c.def_ 3 (d := d_behind_turn) rfl
  have D_behind_turn : FnP K "behind_turn" "behind_turn" s_behind_turn (He.ga K "behind_turn") fd_behind_turn := D_behind_turn
  obtain ⟨fd_all_turns, D_all_turns⟩ := c.def_ 4 (d := d_all_turns) rfl
  have D_all_turns : FnP K "all_turns" "all_turns" s_all_turns (He.ga K "all_turns") fd_all_turns := D_all_turns
  obtain ⟨fd_Table_turns, D_Table_turns⟩ := c.def_ 5 (d := d_Table_turns) rfl
  have D_Table_turns : FnP K "turns" "Table.turns" s_Table_turns (Hd.atP "Table" "turns" K) fd_Table_turns := D_Table_turns
  obtain ⟨fd_shifted, D_shifted⟩ := c.def_ 6 (d := d_shifted) rfl
  have D_shifted : FnP K "shifted" "shifted" s_shifted (He.ga K "shifted") fd_shifted := D_shifted
  obtain ⟨fd_all_standings, D_all_standings⟩ := c.def_ 7 (d := d_all_standings) rfl
  have D_all_standings : FnP K "all_standings" "all_standings" s_all_standings (He.ga K "all_standings") fd_all_standings := D_all_standings
  obtain ⟨fd_check_table, D_check_table⟩ := c.def_ 8 (d := d_check_table) rfl
  have D_check_table : FnP K "check_table" "check_table" s_check_table (He.ga K "check_table") fd_check_table := D_check_table
  obtain ⟨fd_is_bell, D_is_bell⟩ := c.def_ 9 (d := d_is_bell) rfl
  have D_is_bell : FnP K "is_bell" "is_bell" s_is_bell (He.ga K "is_bell") fd_is_bell := D_is_bell
  obtain ⟨fd_added, D_added⟩ := c.def_ 10 (d := d_added) rfl
  have D_added : FnP K "added" "added" s_added (He.ga K "added") fd_added := D_added
  obtain ⟨fd_lessened, D_lessened⟩ := c.def_ 11 (d := d_lessened) rfl
  have D_lessened : FnP K "lessened" "lessened" s_lessened (He.ga K "lessened") fd_lessened := D_lessened
  obtain ⟨fd_kind_of, D_kind_of⟩ := c.def_ 12 (d := d_kind_of) rfl
  have D_kind_of : FnP K "kind_of" "kind_of" s_kind_of (He.ga K "kind_of") fd_kind_of := D_kind_of
  obtain ⟨fd_zeros, D_zeros⟩ := c.def_ 13 (d := d_zeros) rfl
  have D_zeros : FnP K "zeros" "zeros" s_zeros (He.ga K "zeros") fd_zeros := D_zeros
  obtain ⟨fd_is_prime, D_is_prime⟩ := c.def_ 14 (d := d_is_prime) rfl
  have D_is_prime : FnP K "is_prime" "is_prime" s_is_prime (He.ga K "is_prime") fd_is_prime := D_is_prime
  obtain ⟨fd_plan_of, D_plan_of⟩ := c.def_ 15 (d := d_plan_of) rfl
  have D_plan_of : FnP K "plan_of" "plan_of" s_plan_of (He.ga K "plan_of") fd_plan_of := D_plan_of
  obtain ⟨fd_check_kinds, D_check_kinds⟩ := c.def_ 16 (d := d_check_kinds) rfl
  have D_check_kinds : FnP K "check_kinds" "check_kinds" s_check_kinds (He.ga K "check_kinds") fd_check_kinds := D_check_kinds
  obtain ⟨fd_is_between, D_is_between⟩ := c.def_ 17 (d := d_is_between) rfl
  have D_is_between : FnP K "is_between" "is_between" s_is_between (He.ga K "is_between") fd_is_between := D_is_between
  obtain ⟨fd_turn_in, D_turn_in⟩ := c.def_ 18 (d := d_turn_in) rfl
  have D_turn_in : FnP K "turn_in" "turn_in" s_turn_in (He.ga K "turn_in") fd_turn_in := D_turn_in
  obtain ⟨fd_alike_to, D_alike_to⟩ := c.def_ 19 (d := d_alike_to) rfl
  have D_alike_to : FnP K "alike_to" "alike_to" s_alike_to (He.ga K "alike_to") fd_alike_to := D_alike_to
  obtain ⟨fd_coming_from, D_coming_from⟩ := c.def_ 20 (d := d_coming_from) rfl
  have D_coming_from : FnP K "coming_from" "coming_from" s_coming_from (He.ga K "coming_from") fd_coming_from := D_coming_from
  obtain ⟨fd_first_reached, D_first_reached⟩ := c.def_ 21 (d := d_first_reached) rfl
  have D_first_reached : FnP K "first_reached" "first_reached" s_first_reached (He.ga K "first_reached") fd_first_reached := D_first_reached
  obtain ⟨fd_differences, D_differences⟩ := c.def_ 22 (d := d_differences) rfl
  have D_differences : FnP K "differences" "differences" s_differences (He.ga K "differences") fd_differences := D_differences
  obtain ⟨fd_times_until, D_times_until⟩ := c.def_ 23 (d := d_times_until) rfl
  have D_times_until : FnP K "times_until" "times_until" s_times_until (He.ga K "times_until") fd_times_until := D_times_until
  obtain ⟨fd_reached_by, D_reached_by⟩ := c.def_ 24 (d := d_reached_by) rfl
  have D_reached_by : FnP K "reached_by" "reached_by" s_reached_by (He.ga K "reached_by") fd_reached_by := D_reached_by
  obtain ⟨fd_head_in, D_head_in⟩ := c.def_ 25 (d := d_head_in) rfl
  have D_head_in : FnP K "head_in" "head_in" s_head_in (He.ga K "head_in") fd_head_in := D_head_in
  obtain ⟨fd_sweep, D_sweep⟩ := c.def_ 26 (d := d_sweep) rfl
  have D_sweep : FnP K "sweep" "sweep" s_sweep (He.ga K "sweep") fd_sweep := D_sweep
  obtain ⟨fd_are_marks, D_are_marks⟩ := c.def_ 27 (d := d_are_marks) rfl
  have D_are_marks : FnP K "are_marks" "are_marks" s_are_marks (He.ga K "are_marks") fd_are_marks := D_are_marks
  obtain ⟨fd_left_of, D_left_of⟩ := c.def_ 28 (d := d_left_of) rfl
  have D_left_of : FnP K "left_of" "left_of" s_left_of (He.ga K "left_of") fd_left_of := D_left_of
  obtain ⟨fd_is_step, D_is_step⟩ := c.def_ 29 (d := d_is_step) rfl
  have D_is_step : FnP K "is_step" "is_step" s_is_step (He.ga K "is_step") fd_is_step := D_is_step
  obtain ⟨fd_wrong_rows, D_wrong_rows⟩ := c.def_ 30 (d := d_wrong_rows) rfl
  have D_wrong_rows : FnP K "wrong_rows" "wrong_rows" s_wrong_rows (He.ga K "wrong_rows") fd_wrong_rows := D_wrong_rows
  obtain ⟨fd_check_plan, D_check_plan⟩ := c.def_ 31 (d := d_check_plan) rfl
  have D_check_plan : FnP K "check_plan" "check_plan" s_check_plan (He.ga K "check_plan") fd_check_plan := D_check_plan
  obtain ⟨fd_course_of, D_course_of⟩ := c.def_ 32 (d := d_course_of) rfl
  have D_course_of : FnP K "course_of" "course_of" s_course_of (He.ga K "course_of") fd_course_of := D_course_of
  obtain ⟨fd_next_step, D_next_step⟩ := c.def_ 33 (d := d_next_step) rfl
  have D_next_step : FnP K "next_step" "next_step" s_next_step (He.ga K "next_step") fd_next_step := D_next_step
  obtain ⟨fd_shortest_from, D_shortest_from⟩ := c.def_ 34 (d := d_shortest_from) rfl
  have D_shortest_from : FnP K "shortest_from" "shortest_from" s_shortest_from (He.ga K "shortest_from") fd_shortest_from := D_shortest_from
  obtain ⟨fd_Table___init__, D_Table___init__⟩ := c.def_ 35 (d := d_Table___init__) rfl
  have D_Table___init__ : FnP K "__init__" "Table.__init__" s_Table___init__ (He.ma K (He.ga K "Table") "__init__") fd_Table___init__ := D_Table___init__
  obtain ⟨fd_is_sure, D_is_sure⟩ := c.def_ 36 (d := d_is_sure) rfl
  have D_is_sure : FnP K "is_sure" "is_sure" s_is_sure (He.ga K "is_sure") fd_is_sure := D_is_sure
  obtain ⟨fd_chain_of, D_chain_of⟩ := c.def_ 37 (d := d_chain_of) rfl
  have D_chain_of : FnP K "chain_of" "chain_of" s_chain_of (He.ga K "chain_of") fd_chain_of := D_chain_of
  obtain ⟨fd_fewest_of, D_fewest_of⟩ := c.def_ 38 (d := d_fewest_of) rfl
  have D_fewest_of : FnP K "fewest_of" "fewest_of" s_fewest_of (He.ga K "fewest_of") fd_fewest_of := D_fewest_of
  obtain ⟨fd_surely, D_surely⟩ := c.def_ 39 (d := d_surely) rfl
  have D_surely : FnP K "surely" "surely" s_surely (He.ga K "surely") fd_surely := D_surely
  obtain ⟨fd_trap_of, D_trap_of⟩ := c.def_ 40 (d := d_trap_of) rfl
  have D_trap_of : FnP K "trap_of" "trap_of" s_trap_of (He.ga K "trap_of") fd_trap_of := D_trap_of
  obtain ⟨fd_fewest, D_fewest⟩ := c.def_ 41 (d := d_fewest) rfl
  have D_fewest : FnP K "fewest" "fewest" s_fewest (He.ga K "fewest") fd_fewest := D_fewest
  obtain ⟨fd_can, D_can⟩ := c.def_ 42 (d := d_can) rfl
  have D_can : FnP K "can" "can" s_can (He.ga K "can") fd_can := D_can
  obtain ⟨fd_built_of, D_built_of⟩ := c.def_ 43 (d := d_built_of) rfl
  have D_built_of : FnP K "built_of" "built_of" s_built_of (He.ga K "built_of") fd_built_of := D_built_of
  obtain ⟨fd_trap, D_trap⟩ := c.def_ 44 (d := d_trap) rfl
  have D_trap : FnP K "trap" "trap" s_trap (He.ga K "trap") fd_trap := D_trap
  obtain ⟨fd__law_ring, D__law_ring⟩ := c.def_ 45 (d := d__law_ring) rfl
  have D__law_ring : FnP K "_law_ring" "_law_ring" s__law_ring (He.ga K "_law_ring") fd__law_ring := D__law_ring
  obtain ⟨fd_built, D_built⟩ := c.def_ 46 (d := d_built) rfl
  have D_built : FnP K "built" "built" s_built (He.ga K "built") fd_built := D_built
  obtain ⟨fd_law, D_law⟩ := c.def_ 47 (d := d_law) rfl
  have D_law : FnP K "law" "law" s_law (He.ga K "law") fd_law := D_law
  have g_is_integer := He.glo_ok X G (c.fact 0 (f := fb_0) rfl)
  have g_number_in := He.glo_ok X G (c.fact 1 (f := fb_1) rfl)
  have g_power_of := He.glo_ok X G (c.fact 2 (f := fb_2) rfl)
  have g_behind_turn := He.glo_ok X G (c.fact 3 (f := fb_3) rfl)
  have g_all_turns := He.glo_ok X G (c.fact 4 (f := fb_4) rfl)
  have g_shifted := He.glo_ok X G (c.fact 5 (f := fb_5) rfl)
  have g_all_standings := He.glo_ok X G (c.fact 6 (f := fb_6) rfl)
  have g_check_table := He.glo_ok X G (c.fact 7 (f := fb_7) rfl)
  have g_is_bell := He.glo_ok X G (c.fact 8 (f := fb_8) rfl)
  have g_added := He.glo_ok X G (c.fact 9 (f := fb_9) rfl)
  have g_lessened := He.glo_ok X G (c.fact 10 (f := fb_10) rfl)
  have g_kind_of := He.glo_ok X G (c.fact 11 (f := fb_11) rfl)
  have g_zeros := He.glo_ok X G (c.fact 12 (f := fb_12) rfl)
  have g_is_prime := He.glo_ok X G (c.fact 13 (f := fb_13) rfl)
  have g_plan_of := He.glo_ok X G (c.fact 14 (f := fb_14) rfl)
  have g_check_kinds := He.glo_ok X G (c.fact 15 (f := fb_15) rfl)
  have g_is_between := He.glo_ok X G (c.fact 16 (f := fb_16) rfl)
  have g_turn_in := He.glo_ok X G (c.fact 17 (f := fb_17) rfl)
  have g_alike_to := He.glo_ok X G (c.fact 18 (f := fb_18) rfl)
  have g_coming_from := He.glo_ok X G (c.fact 19 (f := fb_19) rfl)
  have g_first_reached := He.glo_ok X G (c.fact 20 (f := fb_20) rfl)
  have g_differences := He.glo_ok X G (c.fact 21 (f := fb_21) rfl)
  have g_times_until := He.glo_ok X G (c.fact 22 (f := fb_22) rfl)
  have g_reached_by := He.glo_ok X G (c.fact 23 (f := fb_23) rfl)
  have g_head_in := He.glo_ok X G (c.fact 24 (f := fb_24) rfl)
  have g_sweep := He.glo_ok X G (c.fact 25 (f := fb_25) rfl)
  have g_are_marks := He.glo_ok X G (c.fact 26 (f := fb_26) rfl)
  have g_left_of := He.glo_ok X G (c.fact 27 (f := fb_27) rfl)
  have g_is_step := He.glo_ok X G (c.fact 28 (f := fb_28) rfl)
  have g_wrong_rows := He.glo_ok X G (c.fact 29 (f := fb_29) rfl)
  have g_check_plan := He.glo_ok X G (c.fact 30 (f := fb_30) rfl)
  have g_course_of := He.glo_ok X G (c.fact 31 (f := fb_31) rfl)
  have g_next_step := He.glo_ok X G (c.fact 32 (f := fb_32) rfl)
  have g_shortest_from := He.glo_ok X G (c.fact 33 (f := fb_33) rfl)
  have g_is_sure := He.glo_ok X G (c.fact 34 (f := fb_34) rfl)
  have g_chain_of := He.glo_ok X G (c.fact 35 (f := fb_35) rfl)
  have g_fewest_of := He.glo_ok X G (c.fact 36 (f := fb_36) rfl)
  have g_surely := He.glo_ok X G (c.fact 37 (f := fb_37) rfl)
  have g_trap_of := He.glo_ok X G (c.fact 38 (f := fb_38) rfl)
  have g_fewest := He.glo_ok X G (c.fact 39 (f := fb_39) rfl)
  have g_can := He.glo_ok X G (c.fact 40 (f := fb_40) rfl)
  have g_built_of := He.glo_ok X G (c.fact 41 (f := fb_41) rfl)
  have g_trap := He.glo_ok X G (c.fact 42 (f := fb_42) rfl)
  have g__law_ring := He.glo_ok X G (c.fact 43 (f := fb_43) rfl)
  have g_built := He.glo_ok X G (c.fact 44 (f := fb_44) rfl)
  have g_law := He.glo_ok X G (c.fact 45 (f := fb_45) rfl)
  have k_Table := He.cls_ok (c.fact 46 (f := fb_46) rfl)
  have g_Table := He.glo_ok X G (c.fact 47 (f := fb_47) rfl)
  have i_Table := Hd.isi_ok (c.fact 48 (f := fb_48) rfl)
  have m_Table := He.mkr_ok (c.fact 49 (f := fb_49) rfl)
  have n_Table_group := He.noat_ok (c.fact 50 (f := fb_50) rfl)
  have n_Table_known := He.noat_ok (c.fact 51 (f := fb_51) rfl)
  have n_Table_many := He.noat_ok (c.fact 52 (f := fb_52) rfl)
  have n_Table_size := He.noat_ok (c.fact 53 (f := fb_53) rfl)
  have n_Table_swept := He.noat_ok (c.fact 54 (f := fb_54) rfl)
  have n_Table_told := He.noat_ok (c.fact 55 (f := fb_55) rfl)
  have p_Table_turns := Hd.prop_ok (c.fact 56 (f := fb_56) rfl)
  have g_FIGURES := He.str_ok X G (c.fact 57 (f := fb_57) rfl)
  have g_MOST_DIALS := He.int_ok X G (c.fact 58 (f := fb_58) rfl)
  have g_MOST_KINDS := He.int_ok X G (c.fact 59 (f := fb_59) rfl)
  have g_MOST_MARKS := He.int_ok X G (c.fact 60 (f := fb_60) rfl)
  have g_MOST_STANDINGS := He.int_ok X G (c.fact 61 (f := fb_61) rfl)
  have g_MOST_TURNS := He.int_ok X G (c.fact 62 (f := fb_62) rfl)
  have g_all := He.free_ok X G (c.fact 63 (f := fb_63) rfl)
  have g_bool := He.free_ok X G (c.fact 64 (f := fb_64) rfl)
  have g_dict := He.free_ok X G (c.fact 65 (f := fb_65) rfl)
  have g_enumerate := He.free_ok X G (c.fact 66 (f := fb_66) rfl)
  have g_int := He.free_ok X G (c.fact 67 (f := fb_67) rfl)
  have g_isinstance := He.free_ok X G (c.fact 68 (f := fb_68) rfl)
  have g_len := He.free_ok X G (c.fact 69 (f := fb_69) rfl)
  have g_list := He.free_ok X G (c.fact 70 (f := fb_70) rfl)
  have g_range := He.free_ok X G (c.fact 71 (f := fb_71) rfl)
  have g_sorted := He.free_ok X G (c.fact 72 (f := fb_72) rfl)
  have g_str := He.free_ok X G (c.fact 73 (f := fb_73) rfl)
  have g_tuple := He.free_ok X G (c.fact 74 (f := fb_74) rfl)
  have g_zip := He.free_ok X G (c.fact 75 (f := fb_75) rfl)
  have e := hfa.symm.trans g_law
  cases e
  have b := FunD.bindsA (ps := ["_law_script"]) D_law fun _ _ _ _ _ _ us hl => match us, hl with | [_], _ => rfl
  refine ⟨fd_law, fun s v => b s [v] rfl, fun base _ _ => ?_⟩
  have C_is_integer : Cal P w K mg base 1 "is_integer" ["value"] F_is_integer s_is_integer := ⟨_, fd_is_integer, ok_is_integer D_is_integer g_bool g_int g_isinstance, g_is_integer, D_is_integer.kp, (FunD.bindsN (ps := ["value"]) D_is_integer fun _ _ _ _ _ _ us hl => match us, hl with | [_], _ => rfl), _, D_is_integer⟩
  have C_number_in : Cal P w K mg base 1 "number_in" ["word"] F_number_in s_number_in := ⟨_, fd_number_in, ok_number_in D_number_in g_FIGURES g_all g_int, g_number_in, D_number_in.kp, (FunD.bindsN (ps := ["word"]) D_number_in fun _ _ _ _ _ _ us hl => match us, hl with | [_], _ => rfl), _, D_number_in⟩
  have C_power_of : Cal P w K mg base 1 "power_of" ["base", "times"] F_power_of s_power_of := ⟨_, fd_power_of, ok_power_of D_power_of g_range, g_power_of, D_power_of.kp, (FunD.bindsN (ps := ["base", "times"]) D_power_of fun _ _ _ _ _ _ us hl => match us, hl with | [_, _], _ => rfl), _, D_power_of⟩
  have C_behind_turn : Cal P w K mg base 1 "behind_turn" ["places", "turn"] F_behind_turn s_behind_turn := ⟨_, fd_behind_turn, ok_behind_turn D_behind_turn g_enumerate g_list g_tuple, g_behind_turn, D_behind_turn.kp, (FunD.bindsN (ps := ["places", "turn"]) D_behind_turn fun _ _ _ _ _ _ us hl => match us, hl with | [_, _], _ => rfl), _, D_behind_turn⟩
  have C_all_turns : Cal P w K mg base 1 "all_turns" ["dials", "told"] F_all_turns s_all_turns := ⟨_, fd_all_turns, ok_all_turns D_all_turns g_range g_sorted g_tuple, g_all_turns, D_all_turns.kp, (FunD.bindsN (ps := ["dials", "told"]) D_all_turns fun _ _ _ _ _ _ us hl => match us, hl with | [_, _], _ => rfl), _, D_all_turns⟩
  have C_Table_turns : PrC P w K mg base 1 "Table" "turns" F_Table_turns := ⟨_, _, k_Table, p_Table_turns, (ok_Table_turns D_Table_turns k_Table n_Table_group).q (FunD.bindsN (ps := ["self"]) D_Table_turns fun _ _ _ _ _ _ us hl => match us, hl with | [_], _ => rfl)⟩
  have C_shifted : Cal P w K mg base 1 "shifted" ["standing", "by", "size"] F_shifted s_shifted := ⟨_, fd_shifted, ok_shifted D_shifted g_tuple, g_shifted, D_shifted.kp, (FunD.bindsN (ps := ["standing", "by", "size"]) D_shifted fun _ _ _ _ _ _ us hl => match us, hl with | [_, _, _], _ => rfl), _, D_shifted⟩
  have C_all_standings : Cal P w K mg base 1 "all_standings" ["many", "size"] F_all_standings s_all_standings := ⟨_, fd_all_standings, ok_all_standings D_all_standings g_range, g_all_standings, D_all_standings.kp, (FunD.bindsN (ps := ["many", "size"]) D_all_standings fun _ _ _ _ _ _ us hl => match us, hl with | [_, _], _ => rfl), _, D_all_standings⟩
  have C_check_table : Cal P w K mg base 1 "check_table" ["value"] F_check_table s_check_table := ⟨_, fd_check_table, ok_check_table D_check_table g_Table i_Table g_isinstance, g_check_table, D_check_table.kp, (FunD.bindsN (ps := ["value"]) D_check_table fun _ _ _ _ _ _ us hl => match us, hl with | [_], _ => rfl), _, D_check_table⟩
  have C_is_bell : Cal P w K mg base 1 "is_bell" ["standing"] F_is_bell s_is_bell := ⟨_, fd_is_bell, ok_is_bell D_is_bell g_all, g_is_bell, D_is_bell.kp, (FunD.bindsN (ps := ["standing"]) D_is_bell fun _ _ _ _ _ _ us hl => match us, hl with | [_], _ => rfl), _, D_is_bell⟩
  have C_added : Cal P w K mg base 1 "added" ["one", "other", "size"] F_added s_added := ⟨_, fd_added, ok_added D_added g_tuple g_zip, g_added, D_added.kp, (FunD.bindsN (ps := ["one", "other", "size"]) D_added fun _ _ _ _ _ _ us hl => match us, hl with | [_, _, _], _ => rfl), _, D_added⟩
  have C_lessened : Cal P w K mg base 1 "lessened" ["one", "other", "size"] F_lessened s_lessened := ⟨_, fd_lessened, ok_lessened D_lessened g_tuple g_zip, g_lessened, D_lessened.kp, (FunD.bindsN (ps := ["one", "other", "size"]) D_lessened fun _ _ _ _ _ _ us hl => match us, hl with | [_, _, _], _ => rfl), _, D_lessened⟩
  have C_kind_of : Cal P w K mg base 1 "kind_of" ["table", "standing"] F_kind_of s_kind_of := ⟨_, fd_kind_of, ok_kind_of D_kind_of k_Table n_Table_known, g_kind_of, D_kind_of.kp, (FunD.bindsN (ps := ["table", "standing"]) D_kind_of fun _ _ _ _ _ _ us hl => match us, hl with | [_, _], _ => rfl), _, D_kind_of⟩
  have C_zeros : Cal P w K mg base 1 "zeros" ["table"] F_zeros s_zeros := ⟨_, fd_zeros, ok_zeros D_zeros k_Table n_Table_many, g_zeros, D_zeros.kp, (FunD.bindsN (ps := ["table"]) D_zeros fun _ _ _ _ _ _ us hl => match us, hl with | [_], _ => rfl), _, D_zeros⟩
  have C_is_prime : Cal P w K mg base 1 "is_prime" ["value"] F_is_prime s_is_prime := ⟨_, fd_is_prime, ok_is_prime D_is_prime , g_is_prime, D_is_prime.kp, (FunD.bindsN (ps := ["value"]) D_is_prime fun _ _ _ _ _ _ us hl => match us, hl with | [_], _ => rfl), _, D_is_prime⟩
  have C_plan_of : Cal P w K mg base 1 "plan_of" ["steps"] F_plan_of s_plan_of := ⟨_, fd_plan_of, ok_plan_of D_plan_of , g_plan_of, D_plan_of.kp, (FunD.bindsN (ps := ["steps"]) D_plan_of fun _ _ _ _ _ _ us hl => match us, hl with | [_], _ => rfl), _, D_plan_of⟩
  have C_check_kinds : Cal P w K mg base 1 "check_kinds" ["table"] F_check_kinds s_check_kinds := ⟨_, fd_check_kinds, ok_check_kinds D_check_kinds k_Table n_Table_swept g_MOST_KINDS g_len, g_check_kinds, D_check_kinds.kp, (FunD.bindsN (ps := ["table"]) D_check_kinds fun _ _ _ _ _ _ us hl => match us, hl with | [_], _ => rfl), _, D_check_kinds⟩
  have C_is_between : Cal P w K mg base 2 "is_between" ["value", "least", "most"] F_is_between s_is_between := ⟨_, fd_is_between, ok_is_between D_is_between C_is_integer, g_is_between, D_is_between.kp, (FunD.bindsN (ps := ["value", "least", "most"]) D_is_between fun _ _ _ _ _ _ us hl => match us, hl with | [_, _, _], _ => rfl), _, D_is_between⟩
  have C_turn_in : Cal P w K mg base 2 "turn_in" ["row", "dials"] F_turn_in s_turn_in := ⟨_, fd_turn_in, ok_turn_in D_turn_in C_number_in g_isinstance g_list g_range g_sorted g_str g_tuple, g_turn_in, D_turn_in.kp, (FunD.bindsN (ps := ["row", "dials"]) D_turn_in fun _ _ _ _ _ _ us hl => match us, hl with | [_, _], _ => rfl), _, D_turn_in⟩
  have C_alike_to : Cal P w K mg base 2 "alike_to" ["standing", "size", "group"] F_alike_to s_alike_to := ⟨_, fd_alike_to, ok_alike_to D_alike_to C_behind_turn C_shifted g_list g_range, g_alike_to, D_alike_to.kp, (FunD.bindsN (ps := ["standing", "size", "group"]) D_alike_to fun _ _ _ _ _ _ us hl => match us, hl with | [_, _, _], _ => rfl), _, D_alike_to⟩
  have C_coming_from : Cal P w K mg base 2 "coming_from" ["table", "kind", "move"] F_coming_from s_coming_from := ⟨_, fd_coming_from, ok_coming_from D_coming_from C_added C_behind_turn k_Table n_Table_group n_Table_size g_list, g_coming_from, D_coming_from.kp, (FunD.bindsN (ps := ["table", "kind", "move"]) D_coming_from fun _ _ _ _ _ _ us hl => match us, hl with | [_, _, _], _ => rfl), _, D_coming_from⟩
  have C_first_reached : Cal P w K mg base 2 "first_reached" ["table"] F_first_reached s_first_reached := ⟨_, fd_first_reached, ok_first_reached D_first_reached C_shifted C_zeros k_Table n_Table_size g_range, g_first_reached, D_first_reached.kp, (FunD.bindsN (ps := ["table"]) D_first_reached fun _ _ _ _ _ _ us hl => match us, hl with | [_], _ => rfl), _, D_first_reached⟩
  have C_differences : Cal P w K mg base 2 "differences" ["table", "standing"] F_differences s_differences := ⟨_, fd_differences, ok_differences D_differences C_behind_turn C_lessened k_Table n_Table_group n_Table_size, g_differences, D_differences.kp, (FunD.bindsN (ps := ["table", "standing"]) D_differences fun _ _ _ _ _ _ us hl => match us, hl with | [_, _], _ => rfl), _, D_differences⟩
  have C_times_until : Cal P w K mg base 2 "times_until" ["table", "standing", "reached"] F_times_until s_times_until := ⟨_, fd_times_until, ok_times_until D_times_until C_added k_Table n_Table_size, g_times_until, D_times_until.kp, (FunD.bindsN (ps := ["table", "standing", "reached"]) D_times_until fun _ _ _ _ _ _ us hl => match us, hl with | [_, _, _], _ => rfl), _, D_times_until⟩
  have C_reached_by : Cal P w K mg base 2 "reached_by" ["table", "move", "reached"] F_reached_by s_reached_by := ⟨_, fd_reached_by, ok_reached_by D_reached_by C_added k_Table n_Table_size g_dict g_list, g_reached_by, D_reached_by.kp, (FunD.bindsN (ps := ["table", "move", "reached"]) D_reached_by fun _ _ _ _ _ _ us hl => match us, hl with | [_, _, _], _ => rfl), _, D_reached_by⟩
  have C_head_in : Cal P w K mg base 3 "head_in" ["row"] F_head_in s_head_in := ⟨_, fd_head_in, ok_head_in D_head_in C_is_between C_number_in C_power_of g_MOST_DIALS g_MOST_MARKS g_MOST_STANDINGS g_isinstance g_len g_str, g_head_in, D_head_in.kp, (FunD.bindsN (ps := ["row"]) D_head_in fun _ _ _ _ _ _ us hl => match us, hl with | [_], _ => rfl), _, D_head_in⟩
  have C_sweep : Cal P w K mg base 3 "sweep" ["many", "size", "group"] F_sweep s_sweep := ⟨_, fd_sweep, ok_sweep D_sweep C_alike_to C_all_standings, g_sweep, D_sweep.kp, (FunD.bindsN (ps := ["many", "size", "group"]) D_sweep fun _ _ _ _ _ _ us hl => match us, hl with | [_, _, _], _ => rfl), _, D_sweep⟩
  have C_are_marks : Cal P w K mg base 3 "are_marks" ["table", "value"] F_are_marks s_are_marks := ⟨_, fd_are_marks, ok_are_marks D_are_marks C_is_between k_Table n_Table_many n_Table_size g_all g_isinstance g_len g_tuple, g_are_marks, D_are_marks.kp, (FunD.bindsN (ps := ["table", "value"]) D_are_marks fun _ _ _ _ _ _ us hl => match us, hl with | [_, _], _ => rfl), _, D_are_marks⟩
  have C_left_of : Cal P w K mg base 3 "left_of" ["table", "lot", "move"] F_left_of s_left_of := ⟨_, fd_left_of, ok_left_of D_left_of C_coming_from C_is_bell C_kind_of g_sorted g_tuple, g_left_of, D_left_of.kp, (FunD.bindsN (ps := ["table", "lot", "move"]) D_left_of fun _ _ _ _ _ _ us hl => match us, hl with | [_, _, _], _ => rfl), _, D_left_of⟩
  have C_is_step : Cal P w K mg base 3 "is_step" ["table", "prime", "move", "reached"] F_is_step s_is_step := ⟨_, fd_is_step, ok_is_step D_is_step C_differences C_is_prime C_times_until g_all, g_is_step, D_is_step.kp, (FunD.bindsN (ps := ["table", "prime", "move", "reached"]) D_is_step fun _ _ _ _ _ _ us hl => match us, hl with | [_, _, _, _], _ => rfl), _, D_is_step⟩
  have C_wrong_rows : Cal P w K mg base 4 "wrong_rows" ["rows"] F_wrong_rows s_wrong_rows := ⟨_, fd_wrong_rows, ok_wrong_rows D_wrong_rows C_head_in C_turn_in g_MOST_TURNS g_enumerate g_len, g_wrong_rows, D_wrong_rows.kp, (FunD.bindsN (ps := ["rows"]) D_wrong_rows fun _ _ _ _ _ _ us hl => match us, hl with | [_], _ => rfl), _, D_wrong_rows⟩
  have C_check_plan : Cal P w K mg base 4 "check_plan" ["table", "plan"] F_check_plan s_check_plan := ⟨_, fd_check_plan, ok_check_plan D_check_plan C_are_marks g_enumerate g_isinstance g_tuple, g_check_plan, D_check_plan.kp, (FunD.bindsN (ps := ["table", "plan"]) D_check_plan fun _ _ _ _ _ _ us hl => match us, hl with | [_, _], _ => rfl), _, D_check_plan⟩
  have C_course_of : Cal P w K mg base 4 "course_of" ["table", "plan"] F_course_of s_course_of := ⟨_, fd_course_of, ok_course_of D_course_of C_left_of k_Table n_Table_swept, g_course_of, D_course_of.kp, (FunD.bindsN (ps := ["table", "plan"]) D_course_of fun _ _ _ _ _ _ us hl => match us, hl with | [_, _], _ => rfl), _, D_course_of⟩
  have C_next_step : Cal P w K mg base 4 "next_step" ["table", "reached"] F_next_step s_next_step := ⟨_, fd_next_step, ok_next_step D_next_step C_all_standings C_is_step C_times_until k_Table n_Table_many n_Table_size, g_next_step, D_next_step.kp, (FunD.bindsN (ps := ["table", "reached"]) D_next_step fun _ _ _ _ _ _ us hl => match us, hl with | [_, _], _ => rfl), _, D_next_step⟩
  have C_shortest_from : Cal P w K mg base 4 "shortest_from" ["table", "lot"] F_shortest_from s_shortest_from := ⟨_, fd_shortest_from, ok_shortest_from D_shortest_from C_all_standings C_left_of k_Table n_Table_many n_Table_size n_Table_swept g_sorted g_tuple, g_shortest_from, D_shortest_from.kp, (FunD.bindsN (ps := ["table", "lot"]) D_shortest_from fun _ _ _ _ _ _ us hl => match us, hl with | [_, _], _ => rfl), _, D_shortest_from⟩
  have C_Table___init__ : MkS P w K mg base 5 "Table" F_Table___init__ := ⟨_, m_Table, ok_Table___init__ D_Table___init__ C_all_turns C_head_in C_sweep C_turn_in C_wrong_rows k_Table n_Table_group n_Table_known n_Table_many n_Table_size n_Table_swept n_Table_told g_sorted g_tuple, g_Table⟩
  have C_is_sure : Cal P w K mg base 5 "is_sure" ["table", "plan"] F_is_sure s_is_sure := ⟨_, fd_is_sure, ok_is_sure D_is_sure C_course_of, g_is_sure, D_is_sure.kp, (FunD.bindsN (ps := ["table", "plan"]) D_is_sure fun _ _ _ _ _ _ us hl => match us, hl with | [_, _], _ => rfl), _, D_is_sure⟩
  have C_chain_of : Cal P w K mg base 5 "chain_of" ["table"] F_chain_of s_chain_of := ⟨_, fd_chain_of, ok_chain_of D_chain_of C_first_reached C_next_step C_reached_by g_tuple, g_chain_of, D_chain_of.kp, (FunD.bindsN (ps := ["table"]) D_chain_of fun _ _ _ _ _ _ us hl => match us, hl with | [_], _ => rfl), _, D_chain_of⟩
  have C_fewest_of : Cal P w K mg base 5 "fewest_of" ["table"] F_fewest_of s_fewest_of := ⟨_, fd_fewest_of, ok_fewest_of D_fewest_of C_shortest_from k_Table n_Table_swept g_len, g_fewest_of, D_fewest_of.kp, (FunD.bindsN (ps := ["table"]) D_fewest_of fun _ _ _ _ _ _ us hl => match us, hl with | [_], _ => rfl), _, D_fewest_of⟩
  have C_surely : Cal P w K mg base 6 "surely" ["table", "plan"] F_surely s_surely := ⟨_, fd_surely, ok_surely D_surely C_check_plan C_check_table C_is_sure, g_surely, D_surely.kp, (FunD.bindsN (ps := ["table", "plan"]) D_surely fun _ _ _ _ _ _ us hl => match us, hl with | [_, _], _ => rfl), _, D_surely⟩
  have C_trap_of : Cal P w K mg base 6 "trap_of" ["table"] F_trap_of s_trap_of := ⟨_, fd_trap_of, ok_trap_of D_trap_of C_chain_of k_Table n_Table_swept g_tuple, g_trap_of, D_trap_of.kp, (FunD.bindsN (ps := ["table"]) D_trap_of fun _ _ _ _ _ _ us hl => match us, hl with | [_], _ => rfl), _, D_trap_of⟩
  have C_fewest : Cal P w K mg base 6 "fewest" ["table"] F_fewest s_fewest := ⟨_, fd_fewest, ok_fewest D_fewest C_check_kinds C_check_table C_fewest_of, g_fewest, D_fewest.kp, (FunD.bindsN (ps := ["table"]) D_fewest fun _ _ _ _ _ _ us hl => match us, hl with | [_], _ => rfl), _, D_fewest⟩
  have C_can : Cal P w K mg base 7 "can" ["table"] F_can s_can := ⟨_, fd_can, ok_can D_can C_check_table C_trap_of, g_can, D_can.kp, (FunD.bindsN (ps := ["table"]) D_can fun _ _ _ _ _ _ us hl => match us, hl with | [_], _ => rfl), _, D_can⟩
  have C_built_of : Cal P w K mg base 7 "built_of" ["table"] F_built_of s_built_of := ⟨_, fd_built_of, ok_built_of D_built_of C_chain_of C_plan_of C_trap_of, g_built_of, D_built_of.kp, (FunD.bindsN (ps := ["table"]) D_built_of fun _ _ _ _ _ _ us hl => match us, hl with | [_], _ => rfl), _, D_built_of⟩
  have C_trap : Cal P w K mg base 7 "trap" ["table"] F_trap s_trap := ⟨_, fd_trap, ok_trap D_trap C_check_table C_trap_of, g_trap, D_trap.kp, (FunD.bindsN (ps := ["table"]) D_trap fun _ _ _ _ _ _ us hl => match us, hl with | [_], _ => rfl), _, D_trap⟩
  have C__law_ring : Cal P w K mg base 7 "_law_ring" ["_law_dial_count", "_law_size"] F__law_ring s__law_ring := ⟨_, fd__law_ring, ok__law_ring D__law_ring C_Table___init__ g_str, g__law_ring, D__law_ring.kp, (FunD.bindsN (ps := ["_law_dial_count", "_law_size"]) D__law_ring fun _ _ _ _ _ _ us hl => match us, hl with | [_, _], _ => rfl), _, D__law_ring⟩
  have C_built : Cal P w K mg base 8 "built" ["table"] F_built s_built := ⟨_, fd_built, ok_built D_built C_built_of C_check_table, g_built, D_built.kp, (FunD.bindsN (ps := ["table"]) D_built fun _ _ _ _ _ _ us hl => match us, hl with | [_], _ => rfl), _, D_built⟩
  exact ok_law D_law C_Table___init__ C_Table_turns C__law_ring C_built C_can C_fewest C_surely C_trap g_len g_range
end K33
open PySem PySem.W PySem.Calls PyProof.Rows
theorem K33.fits (hl : ∀ ns : List Int, ns.length ≤ 63 → ∃ h', K33.F_law [.scr (ns.map Ab.D.int)] [] = .ok (.bl true) h') : PySem.Challenge.rw_turnedblind_k33_tables_known_by_name.Holds := by
  w_on; o_law
  refine HandSHeadRun.head_any (r := OpenLaw.row PySem.Challenge.rw_turnedblind_k33_tables_known_by_name) (q := view (OpenLaw.row PySem.Challenge.rw_turnedblind_k33_tables_known_by_name).prog [66]) (H := K33.hk) (ob := K33.ob) (M := 20000) (loose := K33.names) (d := HandSHeadRun.topDef (OpenLaw.row PySem.Challenge.rw_turnedblind_k33_tables_known_by_name).prog 66) (kwd := []) K33.ob_eq
    (by kernel_rfl) (fun s => by kernel_rfl) K33.run (by kernel_rfl) (by kernel_rfl) (by kernel_rfl) (by rfl) (by first | assumption | decide +kernel) (by decide +kernel) ⟨rfl, rfl, rfl, rfl, rfl, by decide +kernel⟩ ?hw ?hc
  case hw => w_witness2
  case hc =>
    refine Ab.walk_G (l := PySem.Challenge.rw_turnedblind_k33_tables_known_by_name) (n := 63) (k := 9) (x := "_law_script") rfl (by decide) (by kernel_rfl) ⟨rfl, by decide, by decide⟩ ?F
    intro w mg fa h Y G hmg0
    obtain ⟨K, KX, c⟩ := Y
    have hmg : mg ("law" : PySem.Str) = some (.ref fa) := by
      have e : (HandSHeadRun.topDef (OpenLaw.row PySem.Challenge.rw_turnedblind_k33_tables_known_by_name).prog 66).name = ("law" : PySem.Str) := by kernel_rfl
      rw [← e]
      exact hmg0
    obtain ⟨fd, hb, hF⟩ := K33.facts (P := (PySem.Challenge.rw_turnedblind_k33_tables_known_by_name).prog) (w := w) KX G hmg c
    exact ⟨K, fd, Ab.spD K 1 K33.F_law, KX, hb, fun H a ns hlen hO hS => Ab.sp_law hl H a ns hlen hO hS, hF⟩

namespace K33
open PySem Ab
def a0 : MS := (mAsg (mCallP 2 F__law_ring (mCons (mC (.int 4)) (mCons (mC (.int 2)) mNil))) (mgName 1))
def a1 : MS := (mIfS (mOrT (mBl (mBin neD (mCallP 1 F_fewest (mCons (mVar 1) mNil)) (mC (.int 7)))) (mOrT (mBl (mBin neD (mCB lenUD (mCons (mCallP 1 F_built (mCons (mVar 1) mNil)) mNil)) (mC (.int 7)))) (mBl (mBin neD (mCallP 1 F_trap (mCons (mVar 1) mNil)) (mTup mNil))))) (mRet (mC (.bl false))) mNext)
def a2 : MS := (mIfS (mNotT (mTru (mCallP 2 F_surely (mCons (mVar 1) (mCons (mTup (mCons (mTup (mCons (mC (.int 0)) (mCons (mC (.int 1)) (mCons (mC (.int 0)) (mCons (mC (.int 1)) mNil))))) (mCons (mTup (mCons (mC (.int 0)) (mCons (mC (.int 0)) (mCons (mC (.int 1)) (mCons (mC (.int 1)) mNil))))) (mCons (mTup (mCons (mC (.int 0)) (mCons (mC (.int 1)) (mCons (mC (.int 0)) (mCons (mC (.int 1)) mNil))))) (mCons (mTup (mCons (mC (.int 0)) (mCons (mC (.int 0)) (mCons (mC (.int 0)) (mCons (mC (.int 1)) mNil))))) (mCons (mTup (mCons (mC (.int 0)) (mCons (mC (.int 1)) (mCons (mC (.int 0)) (mCons (mC (.int 1)) mNil))))) (mCons (mTup (mCons (mC (.int 0)) (mCons (mC (.int 0)) (mCons (mC (.int 1)) (mCons (mC (.int 1)) mNil))))) (mCons (mTup (mCons (mC (.int 0)) (mCons (mC (.int 1)) (mCons (mC (.int 0)) (mCons (mC (.int 1)) mNil))))) mNil)))))))) mNil))))) (mRet (mC (.bl false))) mNext)
def a3 : MS := (mIfS (mBl (mBin neD (mFrz (mLc (miRng2 (mCons (mC (.int 2)) (mCons (mC (.int 10)) mNil))) (mgName 4) (fun _ h => .ok true h) (mCallP 1 F_can (mCons (mCallP 2 F__law_ring (mCons (mC (.int 2)) (mCons (mVar 4) mNil))) mNil)) [4])) (mFrz (mLst (mCons (mC (.bl true)) (mCons (mC (.bl false)) (mCons (mC (.bl true)) (mCons (mC (.bl false)) (mCons (mC (.bl false)) (mCons (mC (.bl false)) (mCons (mC (.bl true)) (mCons (mC (.bl false)) mNil)))))))))))) (mRet (mC (.bl false))) mNext)
def a4 : MS := (mIfS (mBl (mBin neD (mFrz (mLc (miRng2 (mCons (mC (.int 2)) (mCons (mC (.int 6)) mNil))) (mgName 4) (fun _ h => .ok true h) (mCallP 1 F_can (mCons (mCallP 2 F__law_ring (mCons (mC (.int 3)) (mCons (mVar 4) mNil))) mNil)) [4])) (mFrz (mLst (mCons (mC (.bl false)) (mCons (mC (.bl true)) (mCons (mC (.bl false)) (mCons (mC (.bl false)) mNil)))))))) (mRet (mC (.bl false))) mNext)
def a5 : MS := (mIfS (mBl (mBin neD (mFrz (mLc (miRng2 (mCons (mC (.int 1)) (mCons (mC (.int 7)) mNil))) (mgName 5) (fun _ h => .ok true h) (mCallP 1 F_can (mCons (mCallP 2 F__law_ring (mCons (mVar 5) (mCons (mC (.int 2)) mNil))) mNil)) [5])) (mFrz (mLst (mCons (mC (.bl true)) (mCons (mC (.bl true)) (mCons (mC (.bl false)) (mCons (mC (.bl true)) (mCons (mC (.bl false)) (mCons (mC (.bl false)) mNil)))))))))) (mRet (mC (.bl false))) mNext)
def a6 : MS := (mIfS (mOrT (mTru (mCallP 1 F_can (mCons (mCallP 2 F__law_ring (mCons (mC (.int 4)) (mCons (mC (.int 3)) mNil))) mNil))) (mOrT (mBl (mBin neD (mCB lenUD (mCons (mCallP 1 F_trap (mCons (mCallP 2 F__law_ring (mCons (mC (.int 5)) (mCons (mC (.int 2)) mNil))) mNil)) mNil)) (mC (.int 3)))) (mBl (mBin (isND true) (mCallP 1 F_fewest (mCons (mCallP 2 F__law_ring (mCons (mC (.int 5)) (mCons (mC (.int 2)) mNil))) mNil)) (mC .non))))) (mRet (mC (.bl false))) mNext)
def a7 : MS := (mAsg (mMake "Table" F_Table___init__ (mCons (mC (.str "dials 4 marks 2")) (mCons (mC (.str "turn 1 0 2 3")) (mCons (mC (.str "turn 0 1 3 2")) mNil)))) (mgName 2))
def a8 : MS := (mAsg (mMake "Table" F_Table___init__ (mCons (mC (.str "dials 4 marks 2")) (mCons (mC (.str "turn 1 0 2 3")) (mCons (mC (.str "turn ring")) mNil)))) (mgName 3))
def a9 : MS := (mRet (mAnd (mCallP 1 F_can (mCons (mVar 2) mNil)) (mAnd (mNot (mCallP 1 F_can (mCons (mVar 3) mNil))) (mAnd (mBin eqD (mCB lenUD (mCons (mProp "Table" F_Table_turns (mVar 3)) mNil)) (mC (.int 24))) (mBin eqD (mCB lenUD (mCons (mProp "Table" F_Table_turns (mVar 2)) mNil)) (mC (.int 4)))))))
theorem law_eq : m_law = mSeq a0 (mSeq a1 (mSeq a2 (mSeq a3 (mSeq a4 (mSeq a5 (mSeq a6 (mSeq a7 (mSeq a8 a9)))))))) := by kernel_rfl
end K33

namespace K33
open PySem Ab
def tb0 : D := (.obj { cps := #[84, 97, 98, 108, 101] } [{ cps := #[116, 111, 108, 100] }, { cps := #[109, 97, 110, 121] }, { cps := #[115, 105, 122, 101] }, { cps := #[103, 114, 111, 117, 112] }, { cps := #[107, 110, 111, 119, 110] }, { cps := #[115, 119, 101, 112, 116] }] [(.tup [(.str { cps := #[100, 105, 97, 108, 115, 32, 52, 32, 109, 97, 114, 107, 115, 32, 50] }), (.str { cps := #[116, 117, 114, 110, 32, 114, 105, 110, 103] })]), (.int (4)), (.int (2)), (.tup [(.tup [(.int (0)), (.int (1)), (.int (2)), (.int (3))]), (.tup [(.int (1)), (.int (2)), (.int (3)), (.int (0))]), (.tup [(.int (2)), (.int (3)), (.int (0)), (.int (1))]), (.tup [(.int (3)), (.int (0)), (.int (1)), (.int (2))])]), (.dic [[Sum.inl (0), Sum.inl (0), Sum.inl (0), Sum.inl (0)], [Sum.inl (1), Sum.inl (1), Sum.inl (1), Sum.inl (1)], [Sum.inl (0), Sum.inl (0), Sum.inl (0), Sum.inl (1)], [Sum.inl (1), Sum.inl (1), Sum.inl (1), Sum.inl (0)], [Sum.inl (1), Sum.inl (0), Sum.inl (0), Sum.inl (0)], [Sum.inl (0), Sum.inl (1), Sum.inl (1), Sum.inl (1)], [Sum.inl (0), Sum.inl (1), Sum.inl (0), Sum.inl (0)], [Sum.inl (1), Sum.inl (0), Sum.inl (1), Sum.inl (1)], [Sum.inl (0), Sum.inl (0), Sum.inl (1), Sum.inl (0)], [Sum.inl (1), Sum.inl (1), Sum.inl (0), Sum.inl (1)], [Sum.inl (0), Sum.inl (0), Sum.inl (1), Sum.inl (1)], [Sum.inl (1), Sum.inl (1), Sum.inl (0), Sum.inl (0)], [Sum.inl (1), Sum.inl (0), Sum.inl (0), Sum.inl (1)], [Sum.inl (0), Sum.inl (1), Sum.inl (1), Sum.inl (0)], [Sum.inl (0), Sum.inl (1), Sum.inl (0), Sum.inl (1)], [Sum.inl (1), Sum.inl (0), Sum.inl (1), Sum.inl (0)]] [(.tup [(.int (0)), (.int (0)), (.int (0)), (.int (0))]), (.tup [(.int (0)), (.int (0)), (.int (0)), (.int (0))]), (.tup [(.int (0)), (.int (0)), (.int (0)), (.int (1))]), (.tup [(.int (0)), (.int (0)), (.int (0)), (.int (1))]), (.tup [(.int (0)), (.int (0)), (.int (0)), (.int (1))]), (.tup [(.int (0)), (.int (0)), (.int (0)), (.int (1))]), (.tup [(.int (0)), (.int (0)), (.int (0)), (.int (1))]), (.tup [(.int (0)), (.int (0)), (.int (0)), (.int (1))]), (.tup [(.int (0)), (.int (0)), (.int (0)), (.int (1))]), (.tup [(.int (0)), (.int (0)), (.int (0)), (.int (1))]), (.tup [(.int (0)), (.int (0)), (.int (1)), (.int (1))]), (.tup [(.int (0)), (.int (0)), (.int (1)), (.int (1))]), (.tup [(.int (0)), (.int (0)), (.int (1)), (.int (1))]), (.tup [(.int (0)), (.int (0)), (.int (1)), (.int (1))]), (.tup [(.int (0)), (.int (1)), (.int (0)), (.int (1))]), (.tup [(.int (0)), (.int (1)), (.int (0)), (.int (1))])]), (.tup [(.tup [(.int (0)), (.int (0)), (.int (0)), (.int (1))]), (.tup [(.int (0)), (.int (0)), (.int (1)), (.int (1))]), (.tup [(.int (0)), (.int (1)), (.int (0)), (.int (1))])])])
def tb1 : D := (.obj { cps := #[84, 97, 98, 108, 101] } [{ cps := #[116, 111, 108, 100] }, { cps := #[109, 97, 110, 121] }, { cps := #[115, 105, 122, 101] }, { cps := #[103, 114, 111, 117, 112] }, { cps := #[107, 110, 111, 119, 110] }, { cps := #[115, 119, 101, 112, 116] }] [(.tup [(.str { cps := #[100, 105, 97, 108, 115, 32, 52, 32, 109, 97, 114, 107, 115, 32, 50] }), (.str { cps := #[116, 117, 114, 110, 32, 49, 32, 48, 32, 50, 32, 51] }), (.str { cps := #[116, 117, 114, 110, 32, 48, 32, 49, 32, 51, 32, 50] })]), (.int (4)), (.int (2)), (.tup [(.tup [(.int (0)), (.int (1)), (.int (2)), (.int (3))]), (.tup [(.int (0)), (.int (1)), (.int (3)), (.int (2))]), (.tup [(.int (1)), (.int (0)), (.int (2)), (.int (3))]), (.tup [(.int (1)), (.int (0)), (.int (3)), (.int (2))])]), (.dic [[Sum.inl (0), Sum.inl (0), Sum.inl (0), Sum.inl (0)], [Sum.inl (1), Sum.inl (1), Sum.inl (1), Sum.inl (1)], [Sum.inl (0), Sum.inl (0), Sum.inl (0), Sum.inl (1)], [Sum.inl (1), Sum.inl (1), Sum.inl (1), Sum.inl (0)], [Sum.inl (0), Sum.inl (0), Sum.inl (1), Sum.inl (0)], [Sum.inl (1), Sum.inl (1), Sum.inl (0), Sum.inl (1)], [Sum.inl (0), Sum.inl (0), Sum.inl (1), Sum.inl (1)], [Sum.inl (1), Sum.inl (1), Sum.inl (0), Sum.inl (0)], [Sum.inl (0), Sum.inl (1), Sum.inl (0), Sum.inl (0)], [Sum.inl (1), Sum.inl (0), Sum.inl (1), Sum.inl (1)], [Sum.inl (1), Sum.inl (0), Sum.inl (0), Sum.inl (0)], [Sum.inl (0), Sum.inl (1), Sum.inl (1), Sum.inl (1)], [Sum.inl (0), Sum.inl (1), Sum.inl (0), Sum.inl (1)], [Sum.inl (1), Sum.inl (0), Sum.inl (1), Sum.inl (0)], [Sum.inl (0), Sum.inl (1), Sum.inl (1), Sum.inl (0)], [Sum.inl (1), Sum.inl (0), Sum.inl (0), Sum.inl (1)]] [(.tup [(.int (0)), (.int (0)), (.int (0)), (.int (0))]), (.tup [(.int (0)), (.int (0)), (.int (0)), (.int (0))]), (.tup [(.int (0)), (.int (0)), (.int (0)), (.int (1))]), (.tup [(.int (0)), (.int (0)), (.int (0)), (.int (1))]), (.tup [(.int (0)), (.int (0)), (.int (0)), (.int (1))]), (.tup [(.int (0)), (.int (0)), (.int (0)), (.int (1))]), (.tup [(.int (0)), (.int (0)), (.int (1)), (.int (1))]), (.tup [(.int (0)), (.int (0)), (.int (1)), (.int (1))]), (.tup [(.int (0)), (.int (1)), (.int (0)), (.int (0))]), (.tup [(.int (0)), (.int (1)), (.int (0)), (.int (0))]), (.tup [(.int (0)), (.int (1)), (.int (0)), (.int (0))]), (.tup [(.int (0)), (.int (1)), (.int (0)), (.int (0))]), (.tup [(.int (0)), (.int (1)), (.int (0)), (.int (1))]), (.tup [(.int (0)), (.int (1)), (.int (0)), (.int (1))]), (.tup [(.int (0)), (.int (1)), (.int (0)), (.int (1))]), (.tup [(.int (0)), (.int (1)), (.int (0)), (.int (1))])]), (.tup [(.tup [(.int (0)), (.int (0)), (.int (0)), (.int (1))]), (.tup [(.int (0)), (.int (0)), (.int (1)), (.int (1))]), (.tup [(.int (0)), (.int (1)), (.int (0)), (.int (0))]), (.tup [(.int (0)), (.int (1)), (.int (0)), (.int (1))])])])
def tb2 : D := (.obj { cps := #[84, 97, 98, 108, 101] } [{ cps := #[116, 111, 108, 100] }, { cps := #[109, 97, 110, 121] }, { cps := #[115, 105, 122, 101] }, { cps := #[103, 114, 111, 117, 112] }, { cps := #[107, 110, 111, 119, 110] }, { cps := #[115, 119, 101, 112, 116] }] [(.tup [(.str { cps := #[100, 105, 97, 108, 115, 32, 52, 32, 109, 97, 114, 107, 115, 32, 50] }), (.str { cps := #[116, 117, 114, 110, 32, 49, 32, 48, 32, 50, 32, 51] }), (.str { cps := #[116, 117, 114, 110, 32, 114, 105, 110, 103] })]), (.int (4)), (.int (2)), (.tup [(.tup [(.int (0)), (.int (1)), (.int (2)), (.int (3))]), (.tup [(.int (0)), (.int (1)), (.int (3)), (.int (2))]), (.tup [(.int (0)), (.int (2)), (.int (1)), (.int (3))]), (.tup [(.int (0)), (.int (2)), (.int (3)), (.int (1))]), (.tup [(.int (0)), (.int (3)), (.int (1)), (.int (2))]), (.tup [(.int (0)), (.int (3)), (.int (2)), (.int (1))]), (.tup [(.int (1)), (.int (0)), (.int (2)), (.int (3))]), (.tup [(.int (1)), (.int (0)), (.int (3)), (.int (2))]), (.tup [(.int (1)), (.int (2)), (.int (0)), (.int (3))]), (.tup [(.int (1)), (.int (2)), (.int (3)), (.int (0))]), (.tup [(.int (1)), (.int (3)), (.int (0)), (.int (2))]), (.tup [(.int (1)), (.int (3)), (.int (2)), (.int (0))]), (.tup [(.int (2)), (.int (0)), (.int (1)), (.int (3))]), (.tup [(.int (2)), (.int (0)), (.int (3)), (.int (1))]), (.tup [(.int (2)), (.int (1)), (.int (0)), (.int (3))]), (.tup [(.int (2)), (.int (1)), (.int (3)), (.int (0))]), (.tup [(.int (2)), (.int (3)), (.int (0)), (.int (1))]), (.tup [(.int (2)), (.int (3)), (.int (1)), (.int (0))]), (.tup [(.int (3)), (.int (0)), (.int (1)), (.int (2))]), (.tup [(.int (3)), (.int (0)), (.int (2)), (.int (1))]), (.tup [(.int (3)), (.int (1)), (.int (0)), (.int (2))]), (.tup [(.int (3)), (.int (1)), (.int (2)), (.int (0))]), (.tup [(.int (3)), (.int (2)), (.int (0)), (.int (1))]), (.tup [(.int (3)), (.int (2)), (.int (1)), (.int (0))])]), (.dic [[Sum.inl (0), Sum.inl (0), Sum.inl (0), Sum.inl (0)], [Sum.inl (1), Sum.inl (1), Sum.inl (1), Sum.inl (1)], [Sum.inl (0), Sum.inl (0), Sum.inl (0), Sum.inl (1)], [Sum.inl (1), Sum.inl (1), Sum.inl (1), Sum.inl (0)], [Sum.inl (0), Sum.inl (0), Sum.inl (1), Sum.inl (0)], [Sum.inl (1), Sum.inl (1), Sum.inl (0), Sum.inl (1)], [Sum.inl (0), Sum.inl (1), Sum.inl (0), Sum.inl (0)], [Sum.inl (1), Sum.inl (0), Sum.inl (1), Sum.inl (1)], [Sum.inl (1), Sum.inl (0), Sum.inl (0), Sum.inl (0)], [Sum.inl (0), Sum.inl (1), Sum.inl (1), Sum.inl (1)], [Sum.inl (0), Sum.inl (0), Sum.inl (1), Sum.inl (1)], [Sum.inl (1), Sum.inl (1), Sum.inl (0), Sum.inl (0)], [Sum.inl (0), Sum.inl (1), Sum.inl (0), Sum.inl (1)], [Sum.inl (1), Sum.inl (0), Sum.inl (1), Sum.inl (0)], [Sum.inl (0), Sum.inl (1), Sum.inl (1), Sum.inl (0)], [Sum.inl (1), Sum.inl (0), Sum.inl (0), Sum.inl (1)]] [(.tup [(.int (0)), (.int (0)), (.int (0)), (.int (0))]), (.tup [(.int (0)), (.int (0)), (.int (0)), (.int (0))]), (.tup [(.int (0)), (.int (0)), (.int (0)), (.int (1))]), (.tup [(.int (0)), (.int (0)), (.int (0)), (.int (1))]), (.tup [(.int (0)), (.int (0)), (.int (0)), (.int (1))]), (.tup [(.int (0)), (.int (0)), (.int (0)), (.int (1))]), (.tup [(.int (0)), (.int (0)), (.int (0)), (.int (1))]), (.tup [(.int (0)), (.int (0)), (.int (0)), (.int (1))]), (.tup [(.int (0)), (.int (0)), (.int (0)), (.int (1))]), (.tup [(.int (0)), (.int (0)), (.int (0)), (.int (1))]), (.tup [(.int (0)), (.int (0)), (.int (1)), (.int (1))]), (.tup [(.int (0)), (.int (0)), (.int (1)), (.int (1))]), (.tup [(.int (0)), (.int (0)), (.int (1)), (.int (1))]), (.tup [(.int (0)), (.int (0)), (.int (1)), (.int (1))]), (.tup [(.int (0)), (.int (0)), (.int (1)), (.int (1))]), (.tup [(.int (0)), (.int (0)), (.int (1)), (.int (1))])]), (.tup [(.tup [(.int (0)), (.int (0)), (.int (0)), (.int (1))]), (.tup [(.int (0)), (.int (0)), (.int (1)), (.int (1))])])])
theorem s0 (xs : List D) : a0 [some (.scr xs), none, none, none, none, none] [] = .nx [some (.scr xs), some tb0, none, none, none, none] [] := by kernel_rfl
theorem s1 (xs : List D) : a1 [some (.scr xs), some tb0, none, none, none, none] [] = .nx [some (.scr xs), some tb0, none, none, none, none] [] := by kernel_rfl
theorem s2 (xs : List D) : a2 [some (.scr xs), some tb0, none, none, none, none] [] = .nx [some (.scr xs), some tb0, none, none, none, none] [] := by kernel_rfl
theorem s3 (xs : List D) : a3 [some (.scr xs), some tb0, none, none, none, none] [] = .nx [some (.scr xs), some tb0, none, none, none, none] [] := by kernel_rfl
theorem s4 (xs : List D) : a4 [some (.scr xs), some tb0, none, none, none, none] [] = .nx [some (.scr xs), some tb0, none, none, none, none] [] := by kernel_rfl
theorem s5 (xs : List D) : a5 [some (.scr xs), some tb0, none, none, none, none] [] = .nx [some (.scr xs), some tb0, none, none, none, none] [] := by kernel_rfl
theorem s6 (xs : List D) : a6 [some (.scr xs), some tb0, none, none, none, none] [] = .nx [some (.scr xs), some tb0, none, none, none, none] [] := by kernel_rfl
theorem s7 (xs : List D) : a7 [some (.scr xs), some tb0, none, none, none, none] [] = .nx [some (.scr xs), some tb0, some tb1, none, none, none] [] := by kernel_rfl
theorem s8 (xs : List D) : a8 [some (.scr xs), some tb0, some tb1, none, none, none] [] = .nx [some (.scr xs), some tb0, some tb1, some tb2, none, none] [] := by kernel_rfl
theorem s9 (xs : List D) : a9 [some (.scr xs), some tb0, some tb1, some tb2, none, none] [] = .rt (.bl true) [] := by kernel_rfl
theorem go {m n : MS} {e e' : En} {r : SS} (h : m e [] = .nx e' []) (q : n e' [] = r) : mSeq m n e [] = r := by
  show (match m e [] with | .nx env' h' => n env' h' | r => r) = r
  rw [h]; exact q
theorem law_r (xs : List D) : F_law [.scr xs] [] = .ok (.bl true) [] := by
  have e : m_law [some (.scr xs), none, none, none, none, none] [] = .rt (.bl true) [] := by
    rw [law_eq]
    exact go (s0 xs) (go (s1 xs) (go (s2 xs) (go (s3 xs) (go (s4 xs) (go (s5 xs) (go (s6 xs) (go (s7 xs) (go (s8 xs) (s9 xs)))))))))
  show exitR 0 (bodyR0 (m_law [some (.scr xs), none, none, none, none, none] [])) = _
  rw [e]; rfl
theorem lawL (ns : List Int) (_ : ns.length ≤ 63) : ∃ h', F_law [.scr (ns.map Ab.D.int)] [] = .ok (.bl true) h' := ⟨[], law_r _⟩
end K33

theorem PySem.Challenge.cw_turnedblind_k33_tables_known_by_name_holds : PySem.Challenge.rw_turnedblind_k33_tables_known_by_name.Holds :=
  K33.fits K33.lawL
