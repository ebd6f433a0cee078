import PyProof.Rows.All
import Wide.All
import OpenK.AllK
import Wide.FinOn
import HandS.ForMost
import HandS.Defaults
import HandS.HeadHook2
import HandS.Lambda
import HandS.Flow
import HandS.Wide
import HandS.TupAny
import HandS.IsInst
import HandS.Iter
import HandS.Conv
import HandS.Star
import HandS.More
import HandS.HeadEnd
import HandS.Exc
import HandS.Deep
import HandS.TupMul
import HandS.RaiseMore
import HandS.Style
import HandS.Text
import HandS.Zip
import HandS.SortInts
import PyProof.EnumMake
import KE.GoesMore
import HandS.DictComp
import HandS.SetBool
import HandS.TupSets
import HandS.SortOrd
import HandS.TupLen
import HandS.Property
import HandS.ClsMeth
import HandS.HeadNt
import KE.DatumOrd
import KE.KDictCopyH
import KE.KDictOf
import OpenK.KOps
import HandS.HeadHook3
import HandS.SetFor
import HandS.FStr
import HandS.ExcInit
import HandS.ExcSuper
import KE.KSuper
import KE.KExcSuper
import KE.KTryMore
import HandS.HotCalls
import HandS.ExcField
import KE.KExcIs
import HandS.ExcIs
import HandS.ExcValue
import HandS.MakeKw
import HandS.Strs
import KE.KDictKeyed
import KE.KeyNested
import HandS.Head2
import HandS.Head0
import HandS.Head1
import HandS.HeadHook1
import PyProof.InstNe
import PySem.Challenge.RW_turnedblind_k01_errors_and_limits
set_option Elab.async false
set_option linter.all false
set_option maxRecDepth 100000
set_option maxHeartbeats 0
/-! The abstract layer: data as trees, a numbered heap of what is mutable, and how both stand for a HandS heap. -/
namespace Ab
open PySem PySem.Spec L2

/-- a value: a tree of what never changes, or the number of something that may -/
inductive D where
  | non | bl (b : Bool) | int (i : Int) | str (x : Str) | glo (x : Str) | ty (n : String)
  | tup (ds : List D) | lst (ds : List D) | scr (ds : List D) | loc (n : Nat)
  | obj (c : Str) (ns : List Str) (ds : List D) | dic (ks : List (List Key)) (ds : List D) | nd (ks : List (List (List Int))) (ds : List D) | exv (c : Str) (ns : List Str) (ds : List D) | fn (a : Nat) | dk (kvs : List (Str × Int))
/-- what stands at a number -/
inductive AO where
  | lst (ds : List D)
  | dct (kvs : List (List Key × D))
  | ins (c : Str) (fs : List (Str × D))
  | ndt (kvs : List (List (List Int) × D))
abbrev AH := List AO
abbrev En := List (Option D)
abbrev Ro := Nat → Option Addr

/-- how a computation ends -/
inductive R (α : Type) where
  | ok (a : α) (h : AH)
  | exc (x : Str) (fs : List (Str × D)) (h : AH)
  | bad
def R.bind {α β : Type} (r : R α) (k : α → AH → R β) : R β := match r with
  | .ok a h => k a h
  | .exc x fs h => .exc x fs h
  | .bad => .bad
abbrev M (α : Type) := En → AH → R α

section
variable (K : PySem.W.Frag)
/-- the hash of a tuple of tuples of whole numbers -/
def hash2 (k : List (List Int)) : Int := reduceHash (Builtin.Tuple.tupleHashOf (k.map fun t => reduceHash (Builtin.Tuple.tupleHashOf (t.map hashInt))))
/-- at a: a dict whose keys are tuples of tuples of whole numbers; where the keys' own tuples stand is told -/
def NdO (a : Addr) (xs : List (List (List Int) × Addr × V)) : HO := .ext fun h => (a == sysModules) = false ∧ xs.length ≤ sizeLine ∧ (xs.map (·.1)).Nodup ∧
  ∃ ys : List Value, Vals (xs.map (·.2.2)) ys ∧ ∃ o es ep, h.get? a = some o ∧ o.ExactDict ∧ o.data = .dict es ep ∧ es.toList = (xs.zip ys).map fun p => (⟨hash2 p.1.1, .ref p.1.2.1, p.2⟩ : DictEntry)
/-- the tuple of tuples at b is the key k -/
def NK (P : Hp) (b : Addr) (k : List (List Int)) : Prop := ∃ cs : List Addr, P b = some (.tup (cs.map V.ref)) ∧ cs.length = k.length ∧ ∀ p ∈ cs.zip k, P p.1 = some (.tup (p.2.map V.int))
theorem NK.up {P P' : Hp} {b : Addr} {k : List (List Int)} (s : ∀ a o, P a = some o → P' a = some o) (x : NK P b k) : NK P' b k := by
  obtain ⟨cs, e, l, q⟩ := x
  exact ⟨cs, s _ _ e, l, fun p hp => s _ _ (q p hp)⟩
/-- at a: an exception of the class at C that was caught, its dict (none | at d) -/
def XvO (a C : Addr) (d : Option Addr) : HO := .ext fun h => ∃ (oe : Obj) (vs : Array Value), h.get? a = some oe ∧ Zc (.ref C) d oe ∧ oe.data = .fields vs
def XdP (P : Hp) (d : Option Addr) (fvs : List (Str × V)) : Prop := (d = none ∧ fvs = []) ∨ ∃ dx, d = some dx ∧ P dx = some (.xd fvs)
theorem XdP.up {P P' : Hp} {d : Option Addr} {fvs : List (Str × V)} (s : ∀ a o, P a = some o → P' a = some o) (x : XdP P d fvs) : XdP P' d fvs := x.imp (fun z => z) fun ⟨dx, e, q⟩ => ⟨dx, e, s _ _ q⟩
def NoR (ρ : Ro) (a : Addr) : Prop := ∀ n, ρ n ≠ some a
mutual
/-- how a value stands: by the numbers' addresses ρ and the part of the heap that never changes P -/
inductive Rep (ρ : Ro) (P : Hp) : D → V → Prop
  | non : Rep ρ P .non .non
  | bl (b : Bool) : Rep ρ P (.bl b) (.bl b)
  | int (i : Int) : Rep ρ P (.int i) (.int i)
  | str (x : Str) : Rep ρ P (.str x) (.str x)
  | glo (x : Str) : Rep ρ P (.glo x) (.ref (He.ga K x))
  | ty (n : String) : Rep ρ P (.ty n) (.ty n)
  | tup {a : Addr} {vs : List V} {ds : List D} : P a = some (.tup vs) → RepL ρ P ds vs → Rep ρ P (.tup ds) (.ref a)
  | lst {a : Addr} {vs : List V} {ds : List D} : P a = some (.lst vs) → RepL ρ P ds vs → Rep ρ P (.lst ds) (.ref a)
  | scr {a : Addr} {vs : List V} {ds : List D} : SqL K P a vs → RepL ρ P ds vs → Rep ρ P (.scr ds) (.ref a)
  | loc {n : Nat} {a : Addr} : ρ n = some a → Rep ρ P (.loc n) (.ref a)
  | obj {a dx : Addr} {c : Str} {ns : List Str} {ds : List D} {fvs : List (Str × V)} {vs : List V} : P a = some (.ins (He.ga K c) dx fvs) → fvs = ns.zip vs → ns.length = vs.length → RepL ρ P ds vs → Rep ρ P (.obj c ns ds) (.ref a)
  | dic {a : Addr} {ks : List (List Key)} {ds : List D} {kws : List (List Key × V)} {vs : List V} : P a = some (.dT kws) → kws = ks.zip vs → ks.length = vs.length → RepL ρ P ds vs → Rep ρ P (.dic ks ds) (.ref a)
  | nd {a : Addr} {ks : List (List (List Int))} {ds : List D} {xs : List (List (List Int) × Addr × V)} {vs : List V} : P a = some (NdO a xs) → xs.map (·.1) = ks → vs = xs.map (·.2.2) → (∀ x ∈ xs, NK P x.2.1 x.1) → RepL ρ P ds vs → Rep ρ P (.nd ks ds) (.ref a)
  | exv {a : Addr} {d : Option Addr} {c : Str} {ns : List Str} {ds : List D} {fvs : List (Str × V)} {vs : List V} : P a = some (XvO a (He.ga K c) d) → XdP P d fvs → fvs = ns.zip vs → ns.length = vs.length → RepL ρ P ds vs → Rep ρ P (.exv c ns ds) (.ref a)
  | fn (a : Addr) : Rep ρ P (.fn a) (.ref a)
  | dk {a : Addr} {kvs : List (Str × Int)} : P a = some (.dK (kvs.map fun p => (Sum.inr p.1, V.int p.2))) → Rep ρ P (.dk kvs) (.ref a)
inductive RepL (ρ : Ro) (P : Hp) : List D → List V → Prop
  | nil : RepL ρ P [] []
  | cons {d : D} {v : V} {ds : List D} {vs : List V} : Rep ρ P d v → RepL ρ P ds vs → RepL ρ P (d :: ds) (v :: vs)
end
/-- an object -/
def RO (ρ : Ro) (P H : Hp) (a : Addr) : AO → Prop
  | .lst ds => ∃ vs, H a = some (.lst vs) ∧ RepL K ρ P ds vs
  | .dct kvs => ∃ kws : List (List Key × V), H a = some (.dT kws) ∧ kws.map (·.1) = kvs.map (·.1) ∧ RepL K ρ P (kvs.map (·.2)) (kws.map (·.2))
  | .ins c fs => ∃ dx, ∃ fvs : List (Str × V), H a = some (.ins (He.ga K c) dx fvs) ∧ fvs.map (·.1) = fs.map (·.1) ∧ RepL K ρ P (fs.map (·.2)) (fvs.map (·.2))
  | .ndt kvs => ∃ xs : List (List (List Int) × Addr × V), H a = some (NdO a xs) ∧ xs.map (·.1) = kvs.map (·.1) ∧ (∀ x ∈ xs, NK P x.2.1 x.1) ∧ RepL K ρ P (kvs.map (·.2)) (xs.map (·.2.2))
/-- all but dicts -/
def nD : HO → Bool
  | .dT _ => false
  | _ => true
def Sub (P H : Hp) : Prop := ∀ a o, P a = some o → nD o = true → H a = some o
def nT : HO → Bool
  | .tbl _ => false
  | _ => true
def noTup : HO → Bool
  | .tup _ => false
  | .tbl _ => false
  | _ => true
theorem noT_nT {o : HO} (h : noTup o = true) : nT o = true := by
  cases o with
  | tbl ps => cases h
  | _ => rfl
/-- the code objects of K's functions, their tables that K does not hold, a lambda's name there -/
def tabs3 : List (Addr × Addr × Str) := K.filterMap fun p => match p.2.data with
  | .func fd => (match fd.code with
    | .ref c => (match K.lookup c with
      | some ⟨_, _, .fields vs, _⟩ => (match (vs[11]? : Option Value) with
        | some (.ref b) => if (K.lookup b).isNone = true then some (c, b, fd.qualname ++ ".<locals>." ++ "<lambda>") else none
        | _ => none)
      | _ => none)
    | _ => none)
  | _ => none
def tabsOf : List (Addr × Str) := (tabs3 K).map (·.2)
theorem tabs3_none {p : Addr × Addr × Str} (h : p ∈ tabs3 K) : K.lookup p.2.1 = none := by
  unfold tabs3 at h
  obtain ⟨q, _, e⟩ := List.mem_filterMap.mp h
  try dsimp only at e
  repeat' split at e
  all_goals first
    | (cases e; done)
    | (cases e; exact Option.isNone_iff_eq_none.mp (by assumption))
/-- neither a table of code objects nor a code object -/
def noC (o : HO) : Prop := (∀ ps, o ≠ .tbl ps) ∧ ∀ c q, o ≠ LamX.CodeO c q
def nE : HO → Bool
  | .ext _ => false
  | .tbl _ => false
  | _ => true
theorem noC_of {o : HO} (h : nE o = true) : noC o := by
  refine ⟨fun ps z => ?_, fun c q z => ?_⟩
  · subst z; cases h
  · subst z; cases (show false = true from h)
theorem noC_nT {o : HO} (h : noC o) : nT o = true := by
  cases o with
  | tbl ps => exact absurd rfl (h.1 ps)
  | _ => rfl
/-- what tells of a thing that is no row of fields -/
theorem noC_ext {φ : Heap → Prop} (hφ : ∀ h, φ h → ∃ a o, h.get? a = some o ∧ ∀ vs, o.data ≠ .fields vs) : noC (.ext φ) := by
  refine ⟨fun ps z => (by cases z), fun c q z => ?_⟩
  have z := HO.ext.inj (show HO.ext _ = HO.ext _ from z)
  have hg : ∀ b : Nat, (Heap.mk (Array.replicate (c + 1) (⟨.type "code", none, .fields #[.none, .str q 0], #[]⟩ : Obj)) {}).get? b = if b < c + 1 then some ⟨.type "code", none, .fields #[.none, .str q 0], #[]⟩ else none := fun b => by
    unfold Heap.get?
    simp only [Array.getElem?_replicate]
    by_cases hb : b < c + 1
    · simp only [if_pos hb]
    · simp only [if_neg hb]
  have y := (congrFun z (Heap.mk (Array.replicate (c + 1) (⟨.type "code", none, .fields #[.none, .str q 0], #[]⟩ : Obj)) {})).mpr ⟨_, _, 0, (hg c).trans (if_pos (Nat.lt_succ_self c)), rfl, rfl⟩
  obtain ⟨a, o, ho, hd⟩ := hφ _ y
  rw [hg] at ho
  split at ho
  · cases ho; exact hd _ rfl
  · cases ho
theorem noC_nd {a : Addr} {xs : List (List (List Int) × Addr × V)} : noC (NdO a xs) := noC_ext fun h y => by
  obtain ⟨_, _, _, ys, _, o, es, ep, ho, _, hd, _⟩ := y
  exact ⟨_, o, ho, fun vs z => by rw [hd] at z; cases z⟩
theorem tabs_upd {T : List (Addr × Str)} {H : Hp} {p : Addr} {o : HO} (t : LamX.Tabs T H) (hp : ∀ u, H p = some u → noC u) : LamX.Tabs T (upd H p o) := fun x hx => by
  obtain ⟨ps, h1, h2, h3⟩ := t x hx
  refine ⟨ps, ?_, h2, fun pos cv hc => ?_⟩
  · rw [upd_ne (fun z => (hp (.tbl ps) (by rw [← z]; exact h1)).1 ps rfl)]; exact h1
  · obtain ⟨c, e1, e2⟩ := h3 pos cv hc
    exact ⟨c, e1, by rw [upd_ne (fun z => (hp _ (by rw [← z]; exact e2)).2 _ _ rfl)]; exact e2⟩
/-- what is told of tables of code objects: they are those of K's functions, nothing of them counts as pure -/
structure TbOk (P H : Hp) : Prop where
  tb : LamX.Tabs (tabsOf K) H
  np : ∀ a o, P a = some o → nT o = true
theorem TbOk.upd {P H : Hp} (t : TbOk K P H) {p : Addr} {o : HO} (hc : ∀ u, H p = some u → noC u) (ho : nT o = true) : TbOk K P (upd H p o) := ⟨tabs_upd t.tb hc, t.np⟩
theorem TbOk.new {P H : Hp} (t : TbOk K P H) {p : Addr} {o : HO} (hp : H p = none) (ho : nT o = true) : TbOk K P (L2.upd H p o) := t.upd K (fun u e => by rw [hp] at e; cases e) ho
theorem TbOk.updP {P H : Hp} (t : TbOk K P H) {p : Addr} {o : HO} (ho : nT o = true) : TbOk K (L2.upd P p o) H := ⟨t.tb, fun a u e => by
  by_cases z : a = p
  · subst z; rw [upd_same] at e; cases e; exact ho
  · rw [upd_ne z] at e; exact t.np a u e⟩
/-- the heaps; a dict that nobody changes may be locked while it is walked -/
structure SR (ρ : Ro) (P H : Hp) (h : AH) : Prop where
  sub : Sub P H
  subD : ∀ a kws, P a = some (.dT kws) → Rd H a (.dT kws)
  apart : ∀ n a, ρ n = some a → P a = none
  inj : ∀ n m a, ρ n = some a → ρ m = some a → n = m
  obj : ∀ n o, h[n]? = some o → ∃ a, ρ n = some a ∧ RO K ρ P H a o
  dom : ∀ n, h.length ≤ n → ρ n = none
  tabs : TbOk K P H
/-- the frame -/
def RE (ρ : Ro) (P : Hp) (env : En) (σ : L2.St) : Prop := env.length = σ.length ∧ ∀ (i : Nat) (d : D), env[i]? = some (some d) → ∃ v, σ[i]? = some (some v) ∧ Rep K ρ P d v
end
/-- what a computation may do to what stood -/
structure Step (ρ : Ro) (P H : Hp) (ρ' : Ro) (P' H' : Hp) : Prop where
  mono : ∀ n a, ρ n = some a → ρ' n = some a
  pure : ∀ a o, P a = some o → P' a = some o
  newr : ∀ n a, ρ n = none → ρ' n = some a → H a = none
  newp : ∀ a, P a = none → ((∃ n, ρ n = some a) ∨ ∃ u, H a = some u ∧ noTup u = true) → P' a = none
  keep : ∀ a o, H a = some o → NoR ρ a → (nT o = true ∧ (P a = none ∨ nD o = true)) → H' a = some o
  there : ∀ a, H a ≠ none → H' a ≠ none
section
variable {K : PySem.W.Frag} {ρ ρ' ρ1 : Ro} {P H P' H' P1 H1 : Hp}
theorem Step.refl (ρ : Ro) (P H : Hp) : Step ρ P H ρ P H := ⟨fun _ _ h => h, fun _ _ h => h, fun n a h h' => (by rw [h] at h'; cases h'), fun _ h _ => h, fun _ _ h _ _ => h, fun _ h => h⟩
theorem Step.noR (s : Step ρ P H ρ' P' H') {a : Addr} (ha : H a ≠ none) (h : NoR ρ a) : NoR ρ' a := fun n e => by
  cases q : ρ n with
  | none => exact ha (s.newr n a q e)
  | some b =>
    have := s.mono n b q
    rw [this] at e
    cases e
    exact h n q
theorem Step.noP (s : Step ρ P H ρ' P' H') {a : Addr} (h : P a = none) (ha : (∃ n, ρ n = some a) ∨ ∃ u, H a = some u ∧ noTup u = true) : P' a = none := s.newp a h ha
theorem Step.free (s : Step ρ P H ρ' P' H') {a : Addr} (h : H' a = none) : H a = none := by
  cases w : H a with
  | none => rfl
  | some o => exact absurd h (s.there a (by rw [w]; simp))
theorem nP_step (s : Step ρ P H ρ1 P1 H1) {a : Addr} {o : HO} (h : H a = some o) (w : P a = none ∨ nD o = true) : P1 a = none ∨ nD o = true := by
  rcases w with w | w
  · cases z : noTup o with
    | true => exact .inl (s.newp a w (.inr ⟨o, h, z⟩))
    | false =>
      cases o with
      | tup xs => exact .inr rfl
      | tbl xs => exact .inr rfl
      | _ => cases z
  · exact .inr w
theorem Step.trans (s : Step ρ P H ρ1 P1 H1) (t : Step ρ1 P1 H1 ρ' P' H') : Step ρ P H ρ' P' H' := by
  refine ⟨fun n a h => t.mono n a (s.mono n a h), fun a o h => t.pure a o (s.pure a o h), fun n a h h' => ?_, fun a h ha => ?_, fun a o h hn w => t.keep a o (s.keep a o h hn w) (s.noR (by rw [h]; simp) hn) ⟨w.1, nP_step s h w.2⟩, fun a h => t.there a (s.there a h)⟩
  · cases q : ρ1 n with
    | none => exact s.free (t.newr n a q h')
    | some b =>
      have e := t.mono n b q
      rw [e] at h'
      cases h'
      exact s.newr n a h q
  · have h1 := s.newp a h ha
    refine t.newp a h1 ?_
    by_cases z : ∃ n, ρ n = some a
    · obtain ⟨n, e⟩ := z
      exact .inl ⟨n, s.mono n a e⟩
    · rcases ha with w | ⟨u, e, w⟩
      · exact absurd w z
      · exact .inr ⟨u, s.keep a u e (fun n e => z ⟨n, e⟩) ⟨noT_nT w, .inl h⟩, w⟩
theorem sqL_sub (s : ∀ a o, P a = some o → P' a = some o) {a : Addr} {xs : List V} (h : SqL K P a xs) : SqL K P' a xs := h.imp (fun q => q.imp (s _ _) fun ⟨o, q⟩ => ⟨o, s _ _ q⟩) fun q => q
theorem sqL_s (s : Sub P P') {a : Addr} {xs : List V} (h : SqL K P a xs) : SqL K P' a xs := h.imp (fun q => q.imp (fun q => s _ _ q rfl) fun ⟨o, q⟩ => ⟨o, s _ _ q rfl⟩) fun q => q
theorem sqT_s (s : Sub P P') {a : Addr} {xs : List V} (h : SqT K P a xs) : SqT K P' a xs := h.imp (fun q => q.imp (fun q => s _ _ q rfl) fun ⟨o, q⟩ => ⟨o, s _ _ q rfl⟩) fun q => q
theorem sqT_tk (s : Sub P P') {a : Addr} {xs : List V} (h : P a = some (.tup xs)) : SqT K P' a xs := .of (s _ _ h rfl)
theorem sqT_sub (s : ∀ a o, P a = some o → P' a = some o) {a : Addr} {xs : List V} (h : SqT K P a xs) : SqT K P' a xs := h.imp (fun q => q.imp (s _ _) fun ⟨o, q⟩ => ⟨o, s _ _ q⟩) fun q => q
mutual
theorem Rep.up (r : ∀ n a, ρ n = some a → ρ' n = some a) (s : ∀ a o, P a = some o → P' a = some o) : ∀ {d : D} {v : V}, Rep K ρ P d v → Rep K ρ' P' d v
  | _, _, .non => .non
  | _, _, .bl b => .bl b
  | _, _, .int i => .int i
  | _, _, .str x => .str x
  | _, _, .glo x => .glo x
  | _, _, .ty n => .ty n
  | _, _, .tup p q => .tup (s _ _ p) (RepL.up r s q)
  | _, _, .lst p q => .lst (s _ _ p) (RepL.up r s q)
  | _, _, .scr p q => .scr (sqL_sub s p) (RepL.up r s q)
  | _, _, .loc e => .loc (r _ _ e)
  | _, _, .obj p e l q => .obj (s _ _ p) e l (RepL.up r s q)
  | _, _, .dic p e l q => .dic (s _ _ p) e l (RepL.up r s q)
  | _, _, .nd p e l k q => .nd (s _ _ p) e l (fun x hx => (k x hx).up s) (RepL.up r s q)
  | _, _, .exv p d e l q => .exv (s _ _ p) (d.up s) e l (RepL.up r s q)
  | _, _, .fn a => .fn a
  | _, _, .dk p => .dk (s _ _ p)
theorem RepL.up (r : ∀ n a, ρ n = some a → ρ' n = some a) (s : ∀ a o, P a = some o → P' a = some o) : ∀ {ds : List D} {vs : List V}, RepL K ρ P ds vs → RepL K ρ' P' ds vs
  | _, _, .nil => .nil
  | _, _, .cons a b => .cons (Rep.up r s a) (RepL.up r s b)
end
theorem Rep.step (s : Step ρ P H ρ' P' H') {d : D} {v : V} (h : Rep K ρ P d v) : Rep K ρ' P' d v := h.up s.mono s.pure
theorem RepL.step (s : Step ρ P H ρ' P' H') {d : List D} {v : List V} (h : RepL K ρ P d v) : RepL K ρ' P' d v := h.up s.mono s.pure
theorem RE.step (s : Step ρ P H ρ' P' H') {env : En} {σ : L2.St} (r : RE K ρ P env σ) : RE K ρ' P' env σ := ⟨r.1, fun i d e => let ⟨v, h, q⟩ := r.2 i d e; ⟨v, h, q.step s⟩⟩
theorem RepL.length : ∀ {ds : List D} {vs : List V}, RepL K ρ P ds vs → vs.length = ds.length
  | _, _, .nil => rfl
  | _, _, .cons _ b => by simp [RepL.length b]
theorem RepL.get : ∀ {ds : List D} {vs : List V} {i : Nat} {d : D}, RepL K ρ P ds vs → ds[i]? = some d → ∃ v, vs[i]? = some v ∧ Rep K ρ P d v
  | _, _, _, _, .nil, e => by simp at e
  | _, _, 0, _, .cons a b, e => by simp at e; subst e; exact ⟨_, rfl, a⟩
  | _, _, i + 1, d, .cons a b, e => by
    obtain ⟨v, h1, h2⟩ := RepL.get (i := i) (d := d) b (by simpa using e)
    exact ⟨v, by simpa using h1, h2⟩
theorem RepL.append : ∀ {ds es : List D} {vs ws : List V}, RepL K ρ P ds vs → RepL K ρ P es ws → RepL K ρ P (ds ++ es) (vs ++ ws)
  | _, _, _, _, .nil, s => s
  | _, _, _, _, .cons a b, s => .cons a (RepL.append b s)
theorem RepL.set {d : D} {v : V} (r : Rep K ρ P d v) : ∀ {ds : List D} {vs : List V} (i : Nat), RepL K ρ P ds vs → RepL K ρ P (ds.set i d) (vs.set i v)
  | _, _, _, .nil => .nil
  | _, _, 0, .cons _ t => .cons r t
  | _, _, i + 1, .cons q t => .cons q (RepL.set r i t)
theorem RepL.take : ∀ {ds : List D} {vs : List V} (n : Nat), RepL K ρ P ds vs → RepL K ρ P (ds.take n) (vs.take n)
  | _, _, 0, _ => .nil
  | _, _, _ + 1, .nil => .nil
  | _, _, n + 1, .cons r t => .cons r (RepL.take n t)
theorem RepL.drop : ∀ {ds : List D} {vs : List V} (n : Nat), RepL K ρ P ds vs → RepL K ρ P (ds.drop n) (vs.drop n)
  | _, _, 0, r => r
  | _, _, _ + 1, .nil => .nil
  | _, _, n + 1, .cons _ t => RepL.drop n t
theorem RepL.eraseIdx : ∀ {ds : List D} {vs : List V} (i : Nat), RepL K ρ P ds vs → RepL K ρ P (ds.eraseIdx i) (vs.eraseIdx i)
  | _, _, _, .nil => .nil
  | _, _, 0, .cons _ t => t
  | _, _, i + 1, .cons q t => .cons q (RepL.eraseIdx i t)
theorem RepL.reverse {ds : List D} {vs : List V} (h : RepL K ρ P ds vs) : RepL K ρ P ds.reverse vs.reverse := by
  induction ds generalizing vs with
  | nil => cases h; exact .nil
  | cons d ds ih =>
    cases h with
    | cons a b =>
      rw [List.reverse_cons, List.reverse_cons]
      exact (ih b).append (.cons a .nil)
theorem RepL.ints {ρ : Ro} {P : Hp} : ∀ ns : List Int, RepL K ρ P (ns.map D.int) (ns.map V.int)
  | [] => .nil
  | n :: ns => .cons (.int n) (RepL.ints ns)
theorem RepL.bls_iff : ∀ {bs : List Bool} {vs : List V}, RepL K ρ P (bs.map D.bl) vs → vs = bs.map V.bl
  | [], _, .nil => rfl
  | b :: bs, _, .cons (.bl _) r => by rw [RepL.bls_iff r]; rfl
/-! ### results -/
/-- how a value stands -/
abbrev Rl (α β : Type) := Ro → Hp → α → β → Prop
abbrev RV (K : PySem.W.Frag) : Rl D V := fun ρ P d v => Rep K ρ P d v
abbrev RVs (K : PySem.W.Frag) : Rl (List D) (List V) := fun ρ P d v => RepL K ρ P d v
abbrev RQ (α : Type) : Rl α α := fun _ _ a b => a = b
/-- an exception's dict -/
def RX (K : PySem.W.Frag) (ρ : Ro) (P : Hp) (fs : List (Str × D)) (dd : Option Addr) : Prop :=
  (fs = [] ∧ dd = none) ∨ ∃ da fvs, dd = some da ∧ P da = some (.xd fvs) ∧ fvs.map (·.1) = fs.map (·.1) ∧ RepL K ρ P (fs.map (·.2)) (fvs.map (·.2))
/-- what is wanted behind -/
def Post {α β : Type} (K : PySem.W.Frag) (L : Rl α β) (E : XK) (ρ : Ro) (P H : Hp) (Q : β → Hp → Prop) : R α → Prop
  | .ok a h' => ∀ ρ' P' H' v, Step ρ P H ρ' P' H' → SR K ρ' P' H' h' → L ρ' P' a v → Q v H'
  | .exc x fs h' => ∀ ρ' P' H' dd, Step ρ P H ρ' P' H' → SR K ρ' P' H' h' → RX K ρ' P' fs dd → E (.ref (He.ga K x)) dd H'
  | .bad => False
theorem Post.mono {α β : Type} {L : Rl α β} {E : XK} {Q : β → Hp → Prop} {r : R α} (p : Post K L E ρ P H Q r) (s : Step ρ P H ρ1 P1 H1) : Post K L E ρ1 P1 H1 Q r := by
  cases r with
  | ok a h => exact fun ρ' P' H' v t q1 q2 => p ρ' P' H' v (s.trans t) q1 q2
  | exc x fs h => exact fun ρ' P' H' dd t q1 q2 => p ρ' P' H' dd (s.trans t) q1 q2
  | bad => exact p
theorem Post.imp {α β : Type} {L : Rl α β} {E : XK} {Q Q' : β → Hp → Prop} {r : R α} (p : Post K L E ρ P H Q r) (h : ∀ v H', Q v H' → Q' v H') : Post K L E ρ P H Q' r := by
  cases r with
  | ok a h' => exact fun ρ' P' H' v t q1 q2 => h _ _ (p ρ' P' H' v t q1 q2)
  | exc x fs h => exact p
  | bad => exact p
/-- a reading does what the computation says -/
def Sd {α β : Type} (K : PySem.W.Frag) (L : Rl α β) (E : XK) (t : L2.St → Hp → (β → Hp → Prop) → Prop) (m : M α) : Prop :=
  ∀ ρ P σ H env h, SR K ρ P H h → RE K ρ P env σ → ∀ Q, Post K L E ρ P H Q (m env h) → t σ H Q
/-- one behind another -/
theorem Post.bind {α β γ δ : Type} {L : Rl α β} {L' : Rl γ δ} {E : XK} {Q : δ → Hp → Prop} {r : R α} {k : α → AH → R γ}
    (p : Post K L' E ρ P H Q (r.bind k)) {Q' : β → Hp → Prop} (h : ∀ a h' ρ' P' H' v, Step ρ P H ρ' P' H' → SR K ρ' P' H' h' → L ρ' P' a v → Post K L' E ρ' P' H' Q (k a h') → Q' v H') : Post K L E ρ P H Q' r := by
  cases r with
  | ok a h' => exact fun ρ' P' H' v t q1 q2 => h a h' ρ' P' H' v t q1 q2 (Post.mono (r := k a h') p t)
  | exc x fs h => exact p
  | bad => exact p
/-! ### new things -/
theorem SR.here {h : AH} (s : SR K ρ P H h) {n : Nat} {a : Addr} (e : ρ n = some a) : ∃ o, h[n]? = some o ∧ RO K ρ P H a o := by
  cases q : h[n]? with
  | none =>
    have := s.dom n (by simpa using q)
    rw [this] at e; cases e
  | some o =>
    obtain ⟨b, e1, r⟩ := s.obj n o q
    rw [e] at e1; cases e1
    exact ⟨o, rfl, r⟩
theorem RO.there {a : Addr} {o : AO} (r : RO K ρ P H a o) : H a ≠ none := by
  cases o with
  | lst ds => obtain ⟨vs, e, _⟩ := r; rw [e]; simp
  | dct ds => obtain ⟨vs, e, _⟩ := r; rw [e]; simp
  | ins c fs => obtain ⟨dx, vs, e, _⟩ := r; rw [e]; simp
  | ndt kvs => obtain ⟨xs, e, _⟩ := r; rw [e]; simp
theorem RO.own {a : Addr} {o : AO} (r : RO K ρ P H a o) : ∃ u, H a = some u ∧ noTup u = true := by
  cases o with
  | lst ds => obtain ⟨vs, e, _⟩ := r; exact ⟨_, e, rfl⟩
  | dct ds => obtain ⟨vs, e, _⟩ := r; exact ⟨_, e, rfl⟩
  | ins c fs => obtain ⟨dx, vs, e, _⟩ := r; exact ⟨_, e, rfl⟩
  | ndt kvs => obtain ⟨xs, e, _⟩ := r; exact ⟨_, e, rfl⟩
theorem RO.noC {a : Addr} {o : AO} (r : RO K ρ P H a o) : ∀ u, H a = some u → noC u := fun u e => by
  cases o with
  | lst ds => obtain ⟨vs, e1, _⟩ := r; rw [e] at e1; cases e1; exact noC_of rfl
  | dct ds => obtain ⟨vs, e1, _⟩ := r; rw [e] at e1; cases e1; exact noC_of rfl
  | ins c fs => obtain ⟨dx, vs, e1, _⟩ := r; rw [e] at e1; cases e1; exact noC_of rfl
  | ndt kvs => obtain ⟨xs, e1, _⟩ := r; rw [e] at e1; cases e1; exact noC_nd
theorem SR.noR {h : AH} (s : SR K ρ P H h) {p : Addr} (hp : H p = none) : NoR ρ p := fun n e => by
  obtain ⟨o, _, r⟩ := s.here e
  exact r.there hp
/-- what is locked stays so -/
def Frz (H H' : Hp) : Prop := ∀ a r u, H a = some (.frz r u) → H' a = some (.frz r u)
theorem Frz.refl (H : Hp) : Frz H H := fun _ _ _ e => e
theorem Frz.trans {H H1 H' : Hp} (a : Frz H H1) (b : Frz H1 H') : Frz H H' := fun x r u e => b x r u (a x r u e)
theorem Step.frz {h : AH} (t : Step ρ P H ρ' P' H') (s : SR K ρ P H h) : Frz H H' := fun a r u e => t.keep a _ e (fun n en => by
  obtain ⟨o, _, q⟩ := s.here en
  cases o with
  | lst ds => obtain ⟨vs, e1, _⟩ := q; rw [e] at e1; cases e1
  | dct ds => obtain ⟨vs, e1, _⟩ := q; rw [e] at e1; cases e1
  | ins c fs => obtain ⟨dx, vs, e1, _⟩ := q; rw [e] at e1; cases e1
  | ndt kvs => obtain ⟨xs, e1, _⟩ := q; rw [e] at e1; cases e1) ⟨rfl, .inr rfl⟩
theorem SR.noP {h : AH} (s : SR K ρ P H h) {p : Addr} (hp : H p = none) : P p = none := by
  cases q : P p with
  | none => rfl
  | some o =>
    cases z : nD o with
    | true => rw [s.sub p o q z] at hp; cases hp
    | false =>
      cases o with
      | dT kws => rcases s.subD p kws q with e | ⟨o, e⟩ <;> rw [e] at hp <;> cases hp
      | _ => cases z
theorem RO.up {a : Addr} {o : AO} (r : ∀ n a, ρ n = some a → ρ' n = some a) (s : ∀ a o, P a = some o → P' a = some o) (k : ∀ o, H a = some o → H' a = some o) (x : RO K ρ P H a o) : RO K ρ' P' H' a o := by
  cases o with
  | lst ds => obtain ⟨vs, e, q⟩ := x; exact ⟨vs, k _ e, q.up r s⟩
  | dct ds => obtain ⟨vs, e, e2, q⟩ := x; exact ⟨vs, k _ e, e2, q.up r s⟩
  | ins c fs => obtain ⟨dx, vs, e, e2, q⟩ := x; exact ⟨dx, vs, k _ e, e2, q.up r s⟩
  | ndt kvs => obtain ⟨xs, e, e2, w, q⟩ := x; exact ⟨xs, k _ e, e2, fun y hy => (w y hy).up s, q.up r s⟩
theorem rd_keep {a : Addr} {u : HO} (k : ∀ o, H a = some o → H' a = some o) (x : Rd H a u) : Rd H' a u := x.imp (k _) fun ⟨o, e⟩ => ⟨o, k _ e⟩
theorem upd_keep {p : Addr} {o : HO} (hp : H p = none) : ∀ a u, H a = some u → upd H p o a = some u := fun a u e => by rw [upd_ne (ne_of_none e hp)]; exact e
/-- a new thing that never changes -/
theorem SR.pure {h : AH} (s : SR K ρ P H h) {p : Addr} (hp : H p = none) (o : HO) (ho : nT o = true := by rfl) : SR K ρ (upd P p o) (upd H p o) h ∧ Step ρ P H ρ (upd P p o) (upd H p o) := by
  have np := s.noP hp
  have nr := s.noR hp
  refine ⟨⟨fun a u e n => ?_, fun a u e => ?_, fun n a e => ?_, s.inj, fun n u e => ?_, s.dom, (s.tabs.new (o := o) K hp ho).updP K ho⟩, ⟨fun _ _ e => e, upd_keep np, fun n a e e' => (by rw [e] at e'; cases e'), fun a e ha => ?_, fun a u e _ _ => upd_keep hp a u e, fun a e => ?_⟩⟩
  · by_cases z : a = p
    · subst z; rw [upd_same] at e ⊢; exact e
    · rw [upd_ne z] at e ⊢; exact s.sub a u e n
  · by_cases z : a = p
    · subst z; rw [upd_same] at e; cases e; exact .inl upd_same
    · rw [upd_ne z] at e; exact rd_keep (fun o e => by rw [upd_ne z]; exact e) (s.subD a u e)
  · have z : a ≠ p := fun z => nr n (z ▸ e)
    rw [upd_ne z]; exact s.apart n a e
  · obtain ⟨a, e1, r⟩ := s.obj n u e
    exact ⟨a, e1, r.up (fun _ _ e => e) (upd_keep np) (upd_keep hp a)⟩
  · have z : a ≠ p := fun z => by
      subst z
      rcases ha with ⟨n, e1⟩ | ⟨u, e1, _⟩
      · exact nr n e1
      · rw [hp] at e1; cases e1
    rw [upd_ne z]; exact e
  · cases w : H a with
    | none => exact absurd w e
    | some u => rw [upd_keep hp a u w]; simp
/-- a new thing of no one's (yet) -/
theorem SR.own {h : AH} (s : SR K ρ P H h) {p : Addr} (hp : H p = none) (o : HO) (ho : nT o = true := by rfl) : SR K ρ P (upd H p o) h ∧ Step ρ P H ρ P (upd H p o) := by
  refine ⟨⟨fun a u e n => upd_keep hp a u (s.sub a u e n), fun a u e => rd_keep (upd_keep hp a) (s.subD a u e), s.apart, s.inj, fun n u e => ?_, s.dom, s.tabs.new K hp ho⟩, ⟨fun _ _ e => e, fun _ _ e => e, fun n a e e' => (by rw [e] at e'; cases e'), fun _ e _ => e, fun a u e _ _ => upd_keep hp a u e, fun a e => ?_⟩⟩
  · obtain ⟨a, e1, r⟩ := s.obj n u e
    exact ⟨a, e1, r.up (fun _ _ e => e) (fun _ _ e => e) (upd_keep hp a)⟩
  · cases w : H a with
    | none => exact absurd w e
    | some u => rw [upd_keep hp a u w]; simp
/-- a thing of no one's changes -/
theorem SR.loose {h : AH} (s : SR K ρ P H h) {p : Addr} {o : HO} (np : P p = none) (nr : NoR ρ p) (hc : ∀ u, H p = some u → noC u) (ho : nT o = true := by rfl) : SR K ρ P (upd H p o) h := by
  refine ⟨fun a u e n => ?_, fun a u e => ?_, s.apart, s.inj, fun n u e => ?_, s.dom, s.tabs.upd K hc ho⟩
  · have z : a ≠ p := fun z => by rw [z, np] at e; cases e
    rw [upd_ne z]; exact s.sub a u e n
  · have z : a ≠ p := fun z => by rw [z, np] at e; cases e
    exact rd_keep (fun o e => by rw [upd_ne z]; exact e) (s.subD a u e)
  · obtain ⟨a, e1, r⟩ := s.obj n u e
    have z : a ≠ p := fun z => nr n (z ▸ e1)
    exact ⟨a, e1, r.up (fun _ _ e => e) (fun _ _ e => e) fun o e => by rw [upd_ne z]; exact e⟩
/-- a thing of no one's gets a number -/
theorem SR.number {h : AH} (s : SR K ρ P H h) {p : Addr} {o : AO} (np : P p = none) (nr : NoR ρ p) (r : RO K ρ P H p o) : SR K (fun n => if n = h.length then some p else ρ n) P H (h ++ [o]) := by
  have up : ∀ n a, ρ n = some a → (fun n => if n = h.length then some p else ρ n) n = some a := fun n a e => by
    have z : n ≠ h.length := fun z => by rw [z, s.dom _ (Nat.le_refl _)] at e; cases e
    show (if n = h.length then some p else ρ n) = some a
    rw [if_neg z]; exact e
  refine ⟨s.sub, s.subD, fun n a e => ?_, fun n m a e e' => ?_, fun n u e => ?_, fun n hn => ?_, s.tabs⟩
  · have e : (if n = h.length then some p else ρ n) = some a := e
    split at e
    · cases e; exact np
    · exact s.apart n a e
  · have e : (if n = h.length then some p else ρ n) = some a := e
    have e' : (if m = h.length then some p else ρ m) = some a := e'
    split at e <;> split at e'
    · omega
    · cases e; exact absurd e' (nr m)
    · cases e'; exact absurd e (nr n)
    · exact s.inj n m a e e'
  · by_cases z : n < h.length
    · rw [List.getElem?_append_left z] at e
      obtain ⟨a, e1, q⟩ := s.obj n u e
      exact ⟨a, up n a e1, q.up up (fun _ _ e => e) fun _ e => e⟩
    · have z2 : n = h.length := by
        have := (List.getElem?_eq_some_iff.mp e).1
        simp at this; omega
      subst z2
      rw [List.getElem?_append_right (Nat.le_refl _)] at e
      simp at e
      subst e
      exact ⟨p, by simp, r.up up (fun _ _ e => e) fun _ e => e⟩
  · have z : h.length + 1 ≤ n := by simpa using hn
    show (if n = h.length then some p else ρ n) = none
    rw [if_neg (by omega)]
    exact s.dom n (by omega)
/-- a numbered thing changes -/
theorem SR.put {h : AH} (s : SR K ρ P H h) {n : Nat} {p : Addr} {o : AO} {u : HO} (e : ρ n = some p) (r : RO K ρ P (upd H p u) p o) : SR K ρ P (upd H p u) (h.set n o) ∧ Step ρ P H ρ P (upd H p u) := by
  have np := s.apart n p e
  obtain ⟨o0, e0, r0⟩ := s.here e
  refine ⟨⟨fun a v ea nd => ?_, fun a v ea => ?_, s.apart, s.inj, fun m v ev => ?_, fun m hm => s.dom m (by simpa using hm), s.tabs.upd K r0.noC (noC_nT (r.noC u upd_same))⟩, ⟨fun _ _ e => e, fun _ _ e => e, fun n a e e' => (by rw [e] at e'; cases e'), fun _ e _ => e, fun a v ea hn _ => ?_, fun a ea => ?_⟩⟩
  · have z : a ≠ p := fun z => by rw [z, np] at ea; cases ea
    rw [upd_ne z]; exact s.sub a v ea nd
  · have z : a ≠ p := fun z => by rw [z, np] at ea; cases ea
    exact rd_keep (fun o e => by rw [upd_ne z]; exact e) (s.subD a v ea)
  · by_cases z : m = n
    · subst z
      have hl := (List.getElem?_eq_some_iff.mp e0).1
      rw [List.getElem?_set_self hl] at ev
      cases ev
      exact ⟨p, e, r⟩
    · rw [List.getElem?_set_ne (Ne.symm z)] at ev
      obtain ⟨a, e1, q⟩ := s.obj m v ev
      have za : a ≠ p := fun w => z (s.inj _ _ _ e1 (w ▸ e))
      exact ⟨a, e1, q.up (fun _ _ e => e) (fun _ _ e => e) fun o e => by rw [upd_ne za]; exact e⟩
  · have z : a ≠ p := fun z => hn n (z ▸ e)
    rw [upd_ne z]; exact ea
  · by_cases z : a = p
    · rw [z, upd_same]; simp
    · rw [upd_ne z]; exact ea
/-- a tuple that stands is counted among what never changes -/
theorem SR.adopt {h : AH} (s : SR K ρ P H h) {q : Addr} {xs : List V} (e : H q = some (.tup xs)) : ∃ P2, Step ρ P H ρ P2 H ∧ SR K ρ P2 H h ∧ P2 q = some (.tup xs) := by
  cases z : P q with
  | some o =>
    have : o = .tup xs := by
      cases w : nD o with
      | true => have := s.sub q o z w; rw [e] at this; cases this; rfl
      | false =>
        cases o with
        | dT kws => rcases s.subD q kws z with x | ⟨r, x⟩ <;> rw [e] at x <;> cases x
        | _ => cases w
    subst this
    exact ⟨P, Step.refl .., s, z⟩
  | none =>
    have nr : NoR ρ q := fun n en => by
      obtain ⟨o, _, r⟩ := s.here en
      cases o with
      | lst ds => obtain ⟨vs, e1, _⟩ := r; rw [e] at e1; cases e1
      | dct ds => obtain ⟨vs, e1, _⟩ := r; rw [e] at e1; cases e1
      | ins c fs => obtain ⟨dx, vs, e1, _⟩ := r; rw [e] at e1; cases e1
      | ndt kvs => obtain ⟨xs, e1, _⟩ := r; rw [e] at e1; cases e1
    have kp : ∀ a o, P a = some o → upd P q (.tup xs) a = some o := upd_keep z
    refine ⟨upd P q (.tup xs), ⟨fun _ _ e => e, kp, fun n a e e' => (by rw [e] at e'; cases e'), fun a e1 ha => ?_, fun _ _ e _ _ => e, fun _ e => e⟩, ⟨fun a o ea nd => ?_, fun a kws ea => ?_, fun n a en => ?_, s.inj, fun n o en => ?_, s.dom, s.tabs.updP K rfl⟩, upd_same⟩
    · have ne : a ≠ q := fun w => by
        subst w
        rcases ha with ⟨n, e2⟩ | ⟨u, e2, e3⟩
        · exact nr n e2
        · rw [e] at e2; cases e2; cases e3
      rw [upd_ne ne]; exact e1
    · by_cases w : a = q
      · subst w; rw [upd_same] at ea; cases ea; exact e
      · rw [upd_ne w] at ea; exact s.sub a o ea nd
    · by_cases w : a = q
      · subst w; rw [upd_same] at ea; cases ea
      · rw [upd_ne w] at ea; exact s.subD a kws ea
    · have ne : a ≠ q := fun w => nr n (w ▸ en)
      rw [upd_ne ne]; exact s.apart n a en
    · obtain ⟨a, e1, r⟩ := s.obj n o en
      exact ⟨a, e1, r.up (fun _ _ e => e) kp fun _ e => e⟩
end
end Ab

namespace Ab
open PySem PySem.Spec L2
section
variable {K : PySem.W.Frag} {E : XK} {ρ ρ' ρ1 : Ro} {P H P' H' P1 H1 : Hp}
/-! ### names, constants, operators -/
def mVar (i : Nat) : M D := fun env h => match env[i]? with
  | some (some d) => .ok d h
  | _ => .bad
theorem sd_var {i : Nat} : Sd K (RV K) E (tVar i) (mVar i) := fun ρ P σ H env h s r Q p => by
  unfold mVar at p
  cases q : env[i]? with
  | none => rw [q] at p; exact p.elim
  | some o =>
    cases o with
    | none => rw [q] at p; exact p.elim
    | some d =>
      rw [q] at p
      obtain ⟨v, e, w⟩ := r.2 i d q
      exact ⟨v, e, p ρ P H v (Step.refl ..) s w⟩
def mC (d : D) : M D := fun _ h => .ok d h
theorem sd_c {d : D} {v : V} (w : ∀ ρ P, Rep K ρ P d v) : Sd K (RV K) E (tC v) (mC d) := fun ρ P σ H env h s r Q p => p ρ P H v (Step.refl ..) s (w ρ P)
def OpS (K : PySem.W.Frag) (E : XK) (r : R2) (f : D → D → AH → R D) : Prop := ∀ ρ P H h x y dx dy, SR K ρ P H h → Rep K ρ P dx x → Rep K ρ P dy y → ∀ Q, Post K (RV K) E ρ P H Q (f dx dy h) → r x y H Q
def mBin (f : D → D → AH → R D) (ma mb : M D) : M D := fun env h => (ma env h).bind fun a h1 => (mb env h1).bind fun b h2 => f a b h2
theorem sd_op {r : R2} {f : D → D → AH → R D} {ta tb : TE} {ma mb : M D} (ha : Sd K (RV K) E ta ma) (hb : Sd K (RV K) E tb mb) (hf : OpS K E r f) : Sd K (RV K) E (tOp r ta tb) (mBin f ma mb) := fun ρ P σ H env h s re Q p =>
  ha ρ P σ H env h s re _ (Post.bind p fun a h1 ρ1 P1 H1 v t1 s1 w1 p1 =>
    hb ρ1 P1 σ H1 env h1 s1 (re.step t1) _ (Post.bind p1 fun b h2 ρ2 P2 H2 u t2 s2 w2 p2 => hf ρ2 P2 H2 h2 v u a b s2 (w1.step t2) w2 Q p2))
def UnS (K : PySem.W.Frag) (E : XK) (r : V → Hp → VK → Prop) (f : D → AH → R D) : Prop := ∀ ρ P H h x dx, SR K ρ P H h → Rep K ρ P dx x → ∀ Q, Post K (RV K) E ρ P H Q (f dx h) → r x H Q
def mUn (f : D → AH → R D) (ma : M D) : M D := fun env h => (ma env h).bind fun a h1 => f a h1
theorem sd_un {r : V → Hp → VK → Prop} {f : D → AH → R D} {ta : TE} {ma : M D} (ha : Sd K (RV K) E ta ma) (hf : UnS K E r f) : Sd K (RV K) E (tUn r ta) (mUn f ma) := fun ρ P σ H env h s re Q p =>
  ha ρ P σ H env h s re _ (Post.bind p fun a h1 ρ1 P1 H1 v t1 s1 w1 p1 => hf ρ1 P1 H1 h1 v a s1 w1 Q p1)
/-- what changes nothing -/
theorem Post.here {α β : Type} {L : Rl α β} {a : α} {h : AH} {Q : β → Hp → Prop} {v : β} (p : Post K L E ρ P H Q (.ok a h)) (s : SR K ρ P H h) (w : L ρ P a v) : Q v H := p ρ P H v (Step.refl ..) s w

/-! ### truth, tests -/
def seqD (d : D) (h : AH) : Option (List D) := match d with
  | .lst ds => some ds
  | .scr ds => some ds
  | .loc n => match h[n]? with
    | some (.lst ds) => some ds
    | _ => none
  | _ => none
theorem seqD_sq {h : AH} {d : D} {v : V} {ds : List D} (s : SR K ρ P H h) (w : Rep K ρ P d v) (e : seqD d h = some ds) : ∃ a vs, v = .ref a ∧ SqL K H a vs ∧ RepL K ρ P ds vs := by
  cases w with
  | lst p q => cases e; exact ⟨_, _, rfl, .of (s.sub _ _ p rfl), q⟩
  | scr p q => cases e; exact ⟨_, _, rfl, sqL_s s.sub p, q⟩
  | loc e1 =>
    obtain ⟨o, e2, r⟩ := s.here e1
    simp only [seqD, e2] at e
    cases o with
    | lst es =>
      cases e
      obtain ⟨vs, e3, q⟩ := r
      exact ⟨_, vs, rfl, .of e3, q⟩
    | dct kvs => cases e
    | ins c fs => cases e
    | ndt kvs => cases e
  | _ => cases e
def truD (d : D) (h : AH) : Option Bool := match d with
  | .non => some false
  | .bl b => some b
  | .int i => some (i != 0)
  | .str x => if x.length ≤ sizeLine then some ((x.length : Int) != 0) else none
  | .tup ds => some (!ds.isEmpty)
  | d => (seqD d h).map fun ds => !ds.isEmpty
theorem RepL.isEmpty {ds : List D} {vs : List V} (r : RepL K ρ P ds vs) : ds.isEmpty = vs.isEmpty := by cases r <;> rfl
def mTru (ma : M D) : M Bool := fun env h => (ma env h).bind fun a h1 => match truD a h1 with
  | some b => .ok b h1
  | none => .bad
/-- a comparison as a test: its answer is a truth value -/
def mBl (ma : M D) : M Bool := fun env h => (ma env h).bind fun a h1 => match a with
  | .bl b => .ok b h1
  | _ => .bad
theorem sd_test {ta : TE} {ma : M D} (ha : Sd K (RV K) E ta ma) : Sd K (RQ Bool) E (tTest ta) (mBl ma) := fun ρ P σ H env h s re Q p =>
  ha ρ P σ H env h s re _ (Post.bind p fun a h1 ρ1 P1 H1 v t1 s1 w1 p1 => by
    cases w1 with
    | bl b => exact ⟨b, rfl, p1.here s1 rfl⟩
    | _ => exact p1.elim)
def mNotT (m : M Bool) : M Bool := fun env h => (m env h).bind fun b h1 => .ok (!b) h1
def mAndT (m n : M Bool) : M Bool := fun env h => (m env h).bind fun b h1 => if b = true then n env h1 else .ok false h1
def mOrT (m n : M Bool) : M Bool := fun env h => (m env h).bind fun b h1 => if b = true then .ok true h1 else n env h1
theorem sd_orT {t u : TT} {m n : M Bool} (ha : Sd K (RQ Bool) E t m) (hb : Sd K (RQ Bool) E u n) : Sd K (RQ Bool) E (tOr t u) (mOrT m n) := fun ρ P σ H env h s re Q p =>
  ha ρ P σ H env h s re _ (Post.bind p fun a h1 ρ1 P1 H1 v t1 s1 w1 p1 => by
    cases w1
    cases a with
    | false => exact hb _ _ _ _ _ _ s1 (re.step t1) _ p1
    | true => exact Post.here p1 s1 rfl)
theorem sd_yes : Sd K (RQ Bool) E tYes (fun _ h => .ok true h) := fun ρ P σ H env h s re Q p => p.here s rfl
/-- x and y, x or y, not x as values -/
def mAnd (ma mb : M D) : M D := fun env h => (ma env h).bind fun a h1 => match truD a h1 with
  | some true => mb env h1
  | some false => .ok a h1
  | none => .bad
def mOr (ma mb : M D) : M D := fun env h => (ma env h).bind fun a h1 => match truD a h1 with
  | some true => .ok a h1
  | some false => mb env h1
  | none => .bad
def mNot (ma : M D) : M D := fun env h => (ma env h).bind fun a h1 => match truD a h1 with
  | some b => .ok (.bl (!b)) h1
  | none => .bad
def mIf (m : M Bool) (ma mb : M D) : M D := fun env h => (m env h).bind fun b h1 => if b = true then ma env h1 else mb env h1
theorem sd_if {t : TT} {ta tb : TE} {m : M Bool} {ma mb : M D} (hc : Sd K (RQ Bool) E t m) (ha : Sd K (RV K) E ta ma) (hb : Sd K (RV K) E tb mb) : Sd K (RV K) E (tIf t ta tb) (mIf m ma mb) := fun ρ P σ H env h s re Q p =>
  hc ρ P σ H env h s re _ (Post.bind p fun a h1 ρ1 P1 H1 v t1 s1 w1 p1 => by
    cases w1
    cases a with
    | true => exact ha _ _ _ _ _ _ s1 (re.step t1) _ p1
    | false => exact hb _ _ _ _ _ _ s1 (re.step t1) _ p1)
/-! ### arguments, tuples, lists -/
def mNil : M (List D) := fun _ h => .ok [] h
def mCons (ma : M D) (mr : M (List D)) : M (List D) := fun env h => (ma env h).bind fun a h1 => (mr env h1).bind fun r h2 => .ok (a :: r) h2
theorem sd_nil : Sd K (RVs K) E tNil mNil := fun ρ P σ H env h s re Q p => p.here s .nil
theorem sd_cons {ta : TE} {tr : TA} {ma : M D} {mr : M (List D)} (ha : Sd K (RV K) E ta ma) (hr : Sd K (RVs K) E tr mr) : Sd K (RVs K) E (tCons ta tr) (mCons ma mr) := fun ρ P σ H env h s re Q p =>
  ha ρ P σ H env h s re _ (Post.bind p fun a h1 ρ1 P1 H1 v t1 s1 w1 p1 =>
    hr _ _ _ _ _ _ s1 (re.step t1) _ (Post.bind p1 fun b h2 ρ2 P2 H2 u t2 s2 w2 p2 => p2.here s2 (.cons (w1.step t2) w2)))
/-- a new tuple -/
theorem Post.newT {h : AH} {ds : List D} {vs : List V} {Q : VK} (p : Post K (RV K) E ρ P H Q (.ok (.tup ds) h)) (s : SR K ρ P H h) (w : RepL K ρ P ds vs) : ∀ q, H q = none → Q (.ref q) (upd H q (.tup vs)) := fun q hq => by
  obtain ⟨s', t⟩ := s.pure hq (.tup vs)
  exact p _ _ _ _ t s' (.tup upd_same (w.step t))
def mTup (m : M (List D)) : M D := fun env h => (m env h).bind fun ds h1 => if ds.length ≤ sizeLine then .ok (.tup ds) h1 else .bad
theorem sd_tup {t : TA} {m : M (List D)} (hr : Sd K (RVs K) E t m) : Sd K (RV K) E (tTup t) (mTup m) := fun ρ P σ H env h s re Q p =>
  hr ρ P σ H env h s re _ (Post.bind p fun a h1 ρ1 P1 H1 v t1 s1 w1 p1 => by
    split at p1
    · rename_i hl
      exact ⟨by rw [w1.length]; exact hl, p1.newT s1 w1⟩
    · exact p1.elim)
/-- a new list, no one's yet -/
def PostF (K : PySem.W.Frag) (E : XK) (ρ : Ro) (P H : Hp) (Q : VK) : R (List D) → Prop
  | .ok ds h' => ∀ ρ' P' H' p vs, Step ρ P H ρ' P' H' → SR K ρ' P' H' h' → H p = none → P' p = none → NoR ρ' p → H' p = some (.lst vs) → RepL K ρ' P' ds vs → Q (.ref p) H'
  | .exc x fs h' => ∀ ρ' P' H' dd, Step ρ P H ρ' P' H' → SR K ρ' P' H' h' → RX K ρ' P' fs dd → E (.ref (He.ga K x)) dd H'
  | .bad => False
def SdF (K : PySem.W.Frag) (E : XK) (t : TE) (m : M (List D)) : Prop := ∀ ρ P σ H env h, SR K ρ P H h → RE K ρ P env σ → ∀ Q, PostF K E ρ P H Q (m env h) → t σ H Q
theorem PostF.mono {Q : VK} {r : R (List D)} (p : PostF K E ρ P H Q r) (s : Step ρ P H ρ1 P1 H1) : PostF K E ρ1 P1 H1 Q r := by
  cases r with
  | ok a h => exact fun ρ' P' H' p' vs t q1 q2 q3 q4 q5 q6 => p ρ' P' H' p' vs (s.trans t) q1 (s.free q2) q3 q4 q5 q6
  | exc x fs h => exact fun ρ' P' H' dd t q1 q2 => p ρ' P' H' dd (s.trans t) q1 q2
  | bad => exact p
theorem PostF.bind {α β : Type} {L : Rl α β} {Q : VK} {r : R α} {k : α → AH → R (List D)}
    (p : PostF K E ρ P H Q (r.bind k)) {Q' : β → Hp → Prop} (h : ∀ a h' ρ' P' H' v, Step ρ P H ρ' P' H' → SR K ρ' P' H' h' → L ρ' P' a v → PostF K E ρ' P' H' Q (k a h') → Q' v H') : Post K L E ρ P H Q' r := by
  cases r with
  | ok a h' => exact fun ρ' P' H' v t q1 q2 => h a h' ρ' P' H' v t q1 q2 (PostF.mono (r := k a h') p t)
  | exc x fs h => exact p
  | bad => exact p
theorem PostF.newL {h : AH} {ds : List D} {vs : List V} {Q : VK} (p : PostF K E ρ P H Q (.ok ds h)) (s : SR K ρ P H h) (w : RepL K ρ P ds vs) : ∀ q, H q = none → Q (.ref q) (upd H q (.lst vs)) := fun q hq => by
  obtain ⟨s', t⟩ := s.own hq (.lst vs)
  exact p _ _ _ _ _ t s' hq (s.noP hq) (s.noR hq) upd_same w
def mFrz (m : M (List D)) : M D := fun env h => (m env h).bind fun ds h1 => .ok (.lst ds) h1
def mOwn (m : M (List D)) : M D := fun env h => (m env h).bind fun ds h1 => .ok (.loc h1.length) (h1 ++ [.lst ds])
theorem sd_frz {t : TE} {m : M (List D)} (hr : SdF K E t m) : Sd K (RV K) E t (mFrz m) := fun ρ P σ H env h s re Q p => by
  refine hr ρ P σ H env h s re Q ?_
  have p : Post K (RV K) E ρ P H Q ((m env h).bind fun ds h1 => .ok (.lst ds) h1) := p
  cases q : m env h with
  | bad => rw [q] at p; exact p
  | exc x fs h => rw [q] at p; exact p
  | ok ds h1 =>
    rw [q] at p
    refine fun ρ' P' H' a vs t s1 hp np nr e w => ?_
    have kp : ∀ b o, P' b = some o → upd P' a (.lst vs) b = some o := upd_keep np
    refine p ρ' (upd P' a (.lst vs)) H' _ ⟨t.mono, fun b o eb => kp b o (t.pure b o eb), t.newr, fun b eb hb => ?_, t.keep, t.there⟩ ⟨fun b o eb nd => ?_, fun b o eb => ?_, fun n b eb => ?_, s1.inj, fun n o eo => ?_, s1.dom, s1.tabs.updP K rfl⟩ (.lst upd_same (w.up (fun _ _ e => e) kp))
    · have z : b ≠ a := fun z => by
        subst z
        rcases hb with ⟨n, e1⟩ | ⟨u, e1, _⟩
        · exact nr n (t.mono n b e1)
        · rw [hp] at e1; cases e1
      rw [upd_ne z]; exact t.newp b eb hb
    · by_cases z : b = a
      · subst z; rw [upd_same] at eb; cases eb; exact e
      · rw [upd_ne z] at eb; exact s1.sub b o eb nd
    · by_cases z : b = a
      · subst z; rw [upd_same] at eb; cases eb
      · rw [upd_ne z] at eb; exact s1.subD b o eb
    · have z : b ≠ a := fun z => nr n (z ▸ eb)
      rw [upd_ne z]; exact s1.apart n b eb
    · obtain ⟨b, e1, r⟩ := s1.obj n o eo
      exact ⟨b, e1, r.up (fun _ _ e => e) kp fun _ e => e⟩
theorem sd_own {t : TE} {m : M (List D)} (hr : SdF K E t m) : Sd K (RV K) E t (mOwn m) := fun ρ P σ H env h s re Q p => by
  refine hr ρ P σ H env h s re Q ?_
  have p : Post K (RV K) E ρ P H Q ((m env h).bind fun ds h1 => .ok (.loc h1.length) (h1 ++ [.lst ds])) := p
  cases q : m env h with
  | bad => rw [q] at p; exact p
  | exc x fs h => rw [q] at p; exact p
  | ok ds h1 =>
    rw [q] at p
    refine fun ρ' P' H' a vs t s1 hp np nr e w => ?_
    refine p (fun n => if n = h1.length then some a else ρ' n) P' H' _ ⟨fun n b eb => ?_, t.pure, fun n b e0 eb => ?_, t.newp, t.keep, t.there⟩ (s1.number np nr ⟨vs, e, w⟩) (.loc (by simp))
    · have eb := t.mono n b eb
      have z : n ≠ h1.length := fun z => by rw [z, s1.dom _ (Nat.le_refl _)] at eb; cases eb
      show (if n = h1.length then some a else ρ' n) = some b
      rw [if_neg z]; exact eb
    · have eb : (if n = h1.length then some a else ρ' n) = some b := eb
      split at eb
      · cases eb; exact hp
      · exact t.newr n b e0 eb
def mLst (m : M (List D)) : M (List D) := fun env h => (m env h).bind fun ds h1 => if ds.length ≤ sizeLine then .ok ds h1 else .bad
theorem sf_lst {t : TA} {m : M (List D)} (hr : Sd K (RVs K) E t m) : SdF K E (tLst t) (mLst m) := fun ρ P σ H env h s re Q p =>
  hr ρ P σ H env h s re _ (PostF.bind p fun a h1 ρ1 P1 H1 v t1 s1 w1 p1 => by
    split at p1
    · rename_i hl
      exact ⟨by rw [w1.length]; exact hl, p1.newL s1 w1⟩
    · exact p1.elim)
end
end Ab

namespace Ab
open PySem PySem.Spec L2
/-- how a statement ends -/
inductive SS where
  | nx (env : En) (h : AH)
  | rt (d : D) (h : AH)
  | bk (env : En) (h : AH)
  | ct (env : En) (h : AH)
  | exc (x : Str) (fs : List (Str × D)) (h : AH)
  | bad
abbrev MS := En → AH → SS
def R.then {α : Type} (r : R α) (k : α → AH → SS) : SS := match r with
  | .ok a h => k a h
  | .exc x fs h => .exc x fs h
  | .bad => .bad
section
variable {K : PySem.W.Frag} {E : XK} {ρ ρ' ρ1 : Ro} {P H P' H' P1 H1 : Hp}
def PostS (K : PySem.W.Frag) (E : XK) (ρ : Ro) (P H : Hp) (D : Ends) : SS → Prop
  | .nx env h' => ∀ ρ' P' H' σ', Step ρ P H ρ' P' H' → SR K ρ' P' H' h' → RE K ρ' P' env σ' → D.nx σ' H'
  | .rt d h' => ∀ ρ' P' H' v, Step ρ P H ρ' P' H' → SR K ρ' P' H' h' → Rep K ρ' P' d v → D.rt v H'
  | .bk env h' => ∀ ρ' P' H' σ', Step ρ P H ρ' P' H' → SR K ρ' P' H' h' → RE K ρ' P' env σ' → D.bk σ' H'
  | .ct env h' => ∀ ρ' P' H' σ', Step ρ P H ρ' P' H' → SR K ρ' P' H' h' → RE K ρ' P' env σ' → D.ct σ' H'
  | .exc x fs h' => ∀ ρ' P' H' dd, Step ρ P H ρ' P' H' → SR K ρ' P' H' h' → RX K ρ' P' fs dd → E (.ref (He.ga K x)) dd H'
  | .bad => False
theorem PostS.mono {D : Ends} {r : SS} (p : PostS K E ρ P H D r) (s : Step ρ P H ρ1 P1 H1) : PostS K E ρ1 P1 H1 D r := by
  cases r with
  | nx env h => exact fun ρ' P' H' v t q1 q2 => p ρ' P' H' v (s.trans t) q1 q2
  | rt d h => exact fun ρ' P' H' v t q1 q2 => p ρ' P' H' v (s.trans t) q1 q2
  | bk env h => exact fun ρ' P' H' v t q1 q2 => p ρ' P' H' v (s.trans t) q1 q2
  | ct env h => exact fun ρ' P' H' v t q1 q2 => p ρ' P' H' v (s.trans t) q1 q2
  | exc x fs h => exact fun ρ' P' H' dd t q1 q2 => p ρ' P' H' dd (s.trans t) q1 q2
  | bad => exact p
def SdS (K : PySem.W.Frag) (E : XK) (t : TS) (m : MS) : Prop := ∀ ρ P σ H env h, SR K ρ P H h → RE K ρ P env σ → ∀ D, PostS K E ρ P H D (m env h) → t D σ H
theorem PostS.bind {α β : Type} {L : Rl α β} {D : Ends} {r : R α} {k : α → AH → SS}
    (p : PostS K E ρ P H D (r.then k)) {Q' : β → Hp → Prop} (h : ∀ a h' ρ' P' H' v, Step ρ P H ρ' P' H' → SR K ρ' P' H' h' → L ρ' P' a v → PostS K E ρ' P' H' D (k a h') → Q' v H') : Post K L E ρ P H Q' r := by
  cases r with
  | ok a h' => exact fun ρ' P' H' v t q1 q2 => h a h' ρ' P' H' v t q1 q2 (PostS.mono (r := k a h') p t)
  | exc x fs h => exact p
  | bad => exact p
theorem PostS.next {D : Ends} {env : En} {h : AH} {σ : L2.St} (p : PostS K E ρ P H D (.nx env h)) (s : SR K ρ P H h) (r : RE K ρ P env σ) : D.nx σ H := p ρ P H σ (Step.refl ..) s r
theorem RE.set {env : En} {σ : L2.St} (r : RE K ρ P env σ) {d : D} {v : V} (w : Rep K ρ P d v) (i : Nat) : RE K ρ P (env.set i (some d)) (σ.set i (some v)) := by
  refine ⟨by simp [r.1], fun j e he => ?_⟩
  by_cases z : i = j
  · subst z
    by_cases hl : i < env.length
    · rw [List.getElem?_set_self hl] at he
      cases he
      exact ⟨v, List.getElem?_set_self (by rw [← r.1]; exact hl), w⟩
    · rw [List.getElem?_eq_none (by simpa using hl)] at he; cases he
  · rw [List.getElem?_set_ne z] at he ⊢
    exact r.2 j e he
/-! ### small statements -/
def mNext : MS := fun env h => .nx env h
theorem ss_next : SdS K E tNext mNext := fun ρ P σ H env h s r D p => p.next s r
def mSeq (m n : MS) : MS := fun env h => match m env h with
  | .nx env' h' => n env' h'
  | r => r
theorem ss_seq {t u : TS} {m n : MS} (ha : SdS K E t m) (hb : SdS K E u n) : SdS K E (tSeq t u) (mSeq m n) := fun ρ P σ H env h s re D p => by
  refine ha ρ P σ H env h s re _ ?_
  have p : PostS K E ρ P H D (match m env h with
    | .nx env' h' => n env' h'
    | r => r) := p
  cases q : m env h with
  | nx env' h' =>
    rw [q] at p
    exact fun ρ' P' H' σ' t s' r' => hb _ _ _ _ _ _ s' r' D (PostS.mono (r := n env' h') p t)
  | rt d h' => rw [q] at p; exact p
  | bk env h => rw [q] at p; exact p
  | ct env h => rw [q] at p; exact p
  | exc x fs h => rw [q] at p; exact p
  | bad => rw [q] at p; exact p
def mDrop (m : M D) : MS := fun env h => (m env h).then fun _ h1 => .nx env h1
def mRet (m : M D) : MS := fun env h => (m env h).then fun d h1 => .rt d h1
theorem ss_ret {t : TE} {m : M D} (ha : Sd K (RV K) E t m) : SdS K E (tRet t) (mRet m) := fun ρ P σ H env h s re D p =>
  ha ρ P σ H env h s re _ (PostS.bind p fun a h1 ρ1 P1 H1 v t1 s1 w1 p1 => p1 ρ1 P1 H1 v (Step.refl ..) s1 w1)
def mIfS (m : M Bool) (a b : MS) : MS := fun env h => (m env h).then fun c h1 => if c = true then a env h1 else b env h1
theorem ss_if {t : TT} {ta tb : TS} {m : M Bool} {ma mb : MS} (hc : Sd K (RQ Bool) E t m) (ha : SdS K E ta ma) (hb : SdS K E tb mb) : SdS K E (tIfS t ta tb) (mIfS m ma mb) := fun ρ P σ H env h s re D p =>
  hc ρ P σ H env h s re _ (PostS.bind p fun a h1 ρ1 P1 H1 v t1 s1 w1 p1 => by
    cases w1
    cases a with
    | true => exact ha _ _ _ _ _ _ s1 (re.step t1) _ p1
    | false => exact hb _ _ _ _ _ _ s1 (re.step t1) _ p1)
/-! ### targets -/
/-- what stands behind a target's store -/
abbrev MG := D → En → AH → R En
def SdG (K : PySem.W.Frag) (E : XK) (g : TG) (m : MG) : Prop := ∀ ρ P σ H env h d v, SR K ρ P H h → RE K ρ P env σ → Rep K ρ P d v → ∀ Q : L2.St → Hp → Prop, Post K (RE K) E ρ P H Q (m d env h) → g v σ H Q
def SdGs (K : PySem.W.Frag) (E : XK) (g : TGs) (m : List D → En → AH → R En) : Prop := ∀ ρ P σ H env h d v, SR K ρ P H h → RE K ρ P env σ → RepL K ρ P d v → ∀ Q : L2.St → Hp → Prop, Post K (RE K) E ρ P H Q (m d env h) → g v σ H Q
def mgName (i : Nat) : MG := fun d env h => .ok (env.set i (some d)) h
theorem sg_name {i : Nat} : SdG K E (gName i) (mgName i) := fun ρ P σ H env h d v s re w Q p => Post.here (L := RE K) p s (re.set w i)
def mgNil : List D → En → AH → R En := fun ds env h => match ds with
  | [] => .ok env h
  | _ => .bad
def mgCons (m : MG) (r : List D → En → AH → R En) : List D → En → AH → R En := fun ds env h => match ds with
  | d :: ds => (m d env h).bind fun env' h' => r ds env' h'
  | [] => .bad
theorem sg_nil : SdGs K E gNil mgNil := fun ρ P σ H env h d v s re w Q p => by
  cases w with
  | nil => exact ⟨rfl, Post.here (L := RE K) p s re⟩
  | cons a b => exact p.elim
theorem sg_cons {g : TG} {gs : TGs} {m : MG} {r : List D → En → AH → R En} (ha : SdG K E g m) (hb : SdGs K E gs r) : SdGs K E (gCons g gs) (mgCons m r) := fun ρ P σ H env h d v s re w Q p => by
  cases w with
  | nil => exact p.elim
  | cons a b => exact ⟨_, _, rfl, ha ρ P σ H env h _ _ s re a _ (Post.bind p fun env1 h1 ρ1 P1 H1 σ1 t1 s1 r1 p1 => hb _ _ _ _ _ _ _ _ s1 r1 (b.step t1) Q p1)⟩
def mgTup (n : Nat) (m : List D → En → AH → R En) : MG := fun d env h => match d with
  | .tup ds => if ds.length = n then m ds env h else .bad
  | _ => .bad
def mAsg (m : M D) (g : MG) : MS := fun env h => (m env h).then fun d h1 => (g d env h1).then fun env' h2 => .nx env' h2
theorem ss_asg {t : TE} {g : TG} {m : M D} {mg : MG} (ha : Sd K (RV K) E t m) (hg : SdG K E g mg) : SdS K E (tAsg t g) (mAsg m mg) := fun ρ P σ H env h s re D p =>
  ha ρ P σ H env h s re _ (PostS.bind p fun a h1 ρ1 P1 H1 v t1 s1 w1 p1 => hg _ _ _ _ _ _ _ _ s1 (re.step t1) w1 _ (PostS.bind p1 fun env2 h2 ρ2 P2 H2 σ2 t2 s2 r2 p2 => PostS.next p2 s2 r2))
/-- a, b = x, y: plain names, no tuple made -/
def mPar (i j : Nat) (m : M (List D)) : MS := fun env h => (m env h).then fun ds h1 => match ds with
  | [a, b] => .nx ((env.set i (some a)).set j (some b)) h1
  | _ => .bad
theorem ss_par {i j : Nat} {t : TA} {m : M (List D)} (ha : Sd K (RVs K) E t m) : SdS K E (tPar i j t) (mPar i j m) := fun ρ P σ H env h s re D p =>
  ha ρ P σ H env h s re _ (PostS.bind p fun a h1 ρ1 P1 H1 v t1 s1 w1 p1 => by
    cases w1 with
    | nil => exact p1.elim
    | cons a b =>
      cases b with
      | nil => exact p1.elim
      | cons b c =>
        cases c with
        | nil => exact ⟨_, _, rfl, PostS.next p1 s1 (((re.step t1).set a i).set b j)⟩
        | cons c d => exact p1.elim)
/-- x op= e -/
def mAug (i : Nat) (f : D → D → AH → R D) (m : M D) : MS := fun env h => (mVar i env h).then fun x h0 => (m env h0).then fun y h1 => (f x y h1).then fun z h2 => .nx (env.set i (some z)) h2
/-! ### while -/
def mWhile (c : M Bool) (b : MS) : Nat → MS
  | 0 => fun _ _ => .bad
  | n + 1 => fun env h => (c env h).then fun k h1 => if k = true then (match b env h1 with
      | .nx env' h' => mWhile c b n env' h'
      | .ct env' h' => mWhile c b n env' h'
      | .bk env' h' => .nx env' h'
      | r => r) else .nx env h1
/-! ### for -/
/-- what is walked: items that stand still, or the list at a number as it stands at each turn -/
inductive AI where
  | items (ds : List D)
  | at_ (n : Nat)
/-- an iterable's reading: at an AI the iterator goes so -/
def ItOk (K : PySem.W.Frag) (ρ : Ro) (P H : Hp) : AI → It → Prop
  | .items ds, J => ∀ ρ' P' H', (∀ n a, ρ n = some a → ρ' n = some a) → (∀ a o, P a = some o → P' a = some o) → Frz H H' → ∀ h', SR K ρ' P' H' h' → ∀ i, (∀ d, ds[i]? = some d → J.go i H' ∧ ∀ x H2, J.yld i H' x H2 → ∃ P2, Step ρ' P' H' ρ' P2 H2 ∧ SR K ρ' P2 H2 h' ∧ Rep K ρ' P2 d x) ∧ (ds[i]? = none → J.stop i H')
  | .at_ n, J => ∃ a, ρ n = some a ∧ J = Itl K a
abbrev MI := En → AH → R AI
def SdI (K : PySem.W.Frag) (E : XK) (w : TI) (m : MI) : Prop := ∀ ρ P σ H env h, SR K ρ P H h → RE K ρ P env σ → ∀ Q : It → Hp → Prop,
  (match m env h with
  | .ok a h' => ∀ ρ' P' H' J, Step ρ P H ρ' P' H' → SR K ρ' P' H' h' → ItOk K ρ' P' H' a J → Q J H'
  | .exc x fs h' => ∀ ρ' P' H' dd, Step ρ P H ρ' P' H' → SR K ρ' P' H' h' → RX K ρ' P' fs dd → E (.ref (He.ga K x)) dd H'
  | .bad => False) → w σ H Q
def forItems (g : MG) (b : MS) : List D → MS
  | [] => fun env h => .nx env h
  | d :: ds => fun env h => (g d env h).then fun env1 h1 => match b env1 h1 with
      | .nx env' h' => forItems g b ds env' h'
      | .ct env' h' => forItems g b ds env' h'
      | .bk env' h' => .nx env' h'
      | r => r
def forAt (g : MG) (b : MS) (n : Nat) : Nat → Nat → MS
  | 0, _ => fun _ _ => .bad
  | k + 1, i => fun env h => match h[n]? with
      | some (.lst ds) => (match ds[i]? with
        | none => .nx env h
        | some d => (g d env h).then fun env1 h1 => match b env1 h1 with
          | .nx env' h' => forAt g b n k (i + 1) env' h'
          | .ct env' h' => forAt g b n k (i + 1) env' h'
          | .bk env' h' => .nx env' h'
          | r => r)
      | _ => .bad
def mFor (w : MI) (g : MG) (b : MS) : MS := fun env h => (w env h).then fun a h1 => match a with
  | .items ds => forItems g b ds env h1
  | .at_ n => forAt g b n 1000000 0 env h1
theorem ss_for {w : TI} {g : TG} {t : TS} {m : MI} {mg : MG} {b : MS} (hw : SdI K E w m) (hg : SdG K E g mg) (hb : SdS K E t b) : SdS K E (tFor w g t) (mFor m mg b) := fun ρ P σ H env h s re D p => by
  refine hw ρ P σ H env h s re _ ?_
  have p : PostS K E ρ P H D ((m env h).then fun a h1 => match a with
    | .items ds => forItems mg b ds env h1
    | .at_ n => forAt mg b n 1000000 0 env h1) := p
  cases q : m env h with
  | bad => rw [q] at p; exact p
  | exc x fs h => rw [q] at p; exact p
  | ok a h1 =>
    rw [q] at p
    refine fun ρ0 P0 H0 J t0 s0 j0 => ?_
    have p := PostS.mono p t0
    have re := re.step t0
    cases a with
    | items ds =>
      refine ⟨fun i m σ H => m = ds.length - i ∧ i ≤ ds.length ∧ ∃ ρ P env h, Step ρ0 P0 H0 ρ P H ∧ SR K ρ P H h ∧ RE K ρ P env σ ∧ PostS K E ρ P H D (forItems mg b (ds.drop i) env h), ⟨ds.length, rfl, Nat.zero_le _, ρ0, P0, env, h1, Step.refl .., s0, re, p⟩, ?_⟩
      rintro i m σ H ⟨rfl, hi, ρ, P, env, h, t, s, re, p⟩
      have jj := j0 ρ P H t.mono t.pure (t.frz s0) h s i
      by_cases hlt : i < ds.length
      · have e : ds.drop i = ds[i] :: ds.drop (i + 1) := by rw [List.drop_eq_getElem_cons hlt]
        rw [e] at p
        obtain ⟨go, yl⟩ := jj.1 ds[i] (List.getElem?_eq_getElem hlt)
        refine .inr ⟨go, fun σ' H' => ∃ ρ P env h, Step ρ0 P0 H0 ρ P H' ∧ SR K ρ P H' h ∧ RE K ρ P env σ' ∧ PostS K E ρ P H' D (forItems mg b (ds.drop (i + 1)) env h), fun σ' H' z => ⟨ds.length - (i + 1), by omega, rfl, hlt, z⟩, fun x H' y => ?_⟩
        obtain ⟨P2, tx, sx, rx⟩ := yl x H' y
        have p : PostS K E ρ P H D ((mg ds[i] env h).then fun env1 h1 => match b env1 h1 with
          | .nx env' h' => forItems mg b (ds.drop (i + 1)) env' h'
          | .ct env' h' => forItems mg b (ds.drop (i + 1)) env' h'
          | .bk env' h' => .nx env' h'
          | r => r) := p
        have p := PostS.mono p tx
        refine hg ρ P2 σ H' env h _ _ sx (re.step tx) rx _ (PostS.bind p fun env1 h1 ρ1 P1 H1 σ1 t1 s1 r1 p1 => hb _ _ _ _ _ _ s1 r1 _ ?_)
        cases q : b env1 h1 with
        | nx env' h' => simp only [q] at p1; exact fun ρ' P' H' σ' t2 s' r' => ⟨ρ', P', env', h', ((t.trans tx).trans t1).trans t2, s', r', PostS.mono p1 t2⟩
        | ct env' h' => simp only [q] at p1; exact fun ρ' P' H' σ' t2 s' r' => ⟨ρ', P', env', h', ((t.trans tx).trans t1).trans t2, s', r', PostS.mono p1 t2⟩
        | bk env' h' => simp only [q] at p1; exact p1
        | rt d h' => simp only [q] at p1; exact p1
        | exc x fs h => simp only [q] at p1; exact p1
        | bad => simp only [q] at p1; exact p1
      · have e : i = ds.length := by omega
        subst e
        rw [List.drop_length] at p
        exact .inl ⟨jj.2 (by simp), PostS.next p s re⟩
    | at_ n =>
      obtain ⟨a, ea, rfl⟩ := j0
      refine ⟨fun i m σ H => i + m = 1000000 ∧ ∃ ρ P env h, Step ρ0 P0 H0 ρ P H ∧ SR K ρ P H h ∧ RE K ρ P env σ ∧ PostS K E ρ P H D (forAt mg b n m i env h), ⟨1000000, rfl, ρ0, P0, env, h1, Step.refl .., s0, re, p⟩, ?_⟩
      rintro i m σ H ⟨hm, ρ, P, env, h, t, s, re, p⟩
      cases m with
      | zero => exact p.elim
      | succ m =>
        have en := t.mono n a ea
        obtain ⟨o, eo, r⟩ := s.here en
        cases o with
        | lst ds =>
          obtain ⟨vs, ev, rv⟩ := r
          unfold forAt at p
          simp only [eo] at p
          cases q : ds[i]? with
          | none =>
            rw [q] at p
            refine .inl ⟨⟨vs, .of ev, ?_⟩, PostS.next p s re⟩
            rw [rv.length]
            simpa using q
          | some d =>
            simp only [q] at p
            obtain ⟨v, hv, rd⟩ := rv.get q
            refine .inr ⟨⟨vs, v, .of ev, hv⟩, fun σ' H' => ∃ ρ P env h, Step ρ0 P0 H0 ρ P H' ∧ SR K ρ P H' h ∧ RE K ρ P env σ' ∧ PostS K E ρ P H' D (forAt mg b n m (i + 1) env h), fun σ' H' z => ⟨m, Nat.lt_succ_self m, by omega, z⟩, fun x H' y => ?_⟩
            obtain ⟨rfl, y⟩ := y
            have ex := y vs (.of ev)
            rw [hv] at ex
            cases ex
            refine hg ρ P σ H' env h _ _ s re rd _ (PostS.bind p fun env1 h1 ρ1 P1 H1 σ1 t1 s1 r1 p1 => hb _ _ _ _ _ _ s1 r1 _ ?_)
            cases q : b env1 h1 with
            | nx env' h' => simp only [q] at p1; exact fun ρ' P' H' σ' t2 s' r' => ⟨ρ', P', env', h', (t.trans t1).trans t2, s', r', PostS.mono p1 t2⟩
            | ct env' h' => simp only [q] at p1; exact fun ρ' P' H' σ' t2 s' r' => ⟨ρ', P', env', h', (t.trans t1).trans t2, s', r', PostS.mono p1 t2⟩
            | bk env' h' => simp only [q] at p1; exact p1
            | rt d h' => simp only [q] at p1; exact p1
            | exc x fs h => simp only [q] at p1; exact p1
            | bad => simp only [q] at p1; exact p1
        | dct kvs =>
          unfold forAt at p
          simp only [eo] at p
          exact p.elim
        | ins c fs =>
          unfold forAt at p
          simp only [eo] at p
          exact p.elim
        | ndt kvs =>
          unfold forAt at p
          simp only [eo] at p
          exact p.elim
end
end Ab

namespace Ab
open PySem PySem.Spec L2
section
variable {K : PySem.W.Frag} {E : XK} {ρ ρ' ρ1 : Ro} {P H P' H' P1 H1 : Hp}
/-! ### what is walked -/
def iSeq (K : PySem.W.Frag) (t : TE) : TI := fun σ H W => t σ H fun x H1 => (∃ a, x = .ref a ∧ (((∃ xs, SqL K H1 a xs) ∧ W (Itl K a) H1) ∨ ((∃ xs, SqT K H1 a xs) ∧ W (Itt K a) H1))) ∨ ∃ z, x = .str z ∧ W (Its z) H1
/-- the signs of a text -/
def signsD (z : Str) : List D := z.cps.toList.map fun c => D.str ⟨#[c]⟩
def miSeq (m : M D) : MI := fun env h => (m env h).bind fun d h1 => match d with
  | .str z => .ok (.items (signsD z)) h1
  | .lst ds => .ok (.items ds) h1
  | .scr ds => .ok (.items ds) h1
  | .tup ds => .ok (.items ds) h1
  | .loc n => (match h1[n]? with
    | some (.lst _) => .ok (.at_ n) h1
    | _ => .bad)
  | _ => .bad
theorem itOk_L {h : AH} {a : Addr} {vs : List V} {ds : List D} (q : SqL K P a vs) (r : RepL K ρ P ds vs) : ItOk K ρ P H (.items ds) (Itl K a) := fun ρ' P' H' tm tp _ h' s i => by
  have q' : SqL K H' a vs := sqL_s s.sub (sqL_sub tp q)
  have r' := r.up tm tp
  refine ⟨fun d e => ?_, fun e => ⟨vs, q', by rw [r'.length]; simpa using e⟩⟩
  obtain ⟨v, ev, rv⟩ := r'.get e
  refine ⟨⟨vs, v, q', ev⟩, fun x H2 y => ?_⟩
  obtain ⟨rfl, y⟩ := y
  have z := y vs q'
  rw [ev] at z
  cases z
  exact ⟨P', Step.refl .., s, rv⟩
theorem itOk_T {h : AH} {a : Addr} {vs : List V} {ds : List D} (q : SqT K P a vs) (r : RepL K ρ P ds vs) : ItOk K ρ P H (.items ds) (Itt K a) := fun ρ' P' H' tm tp _ h' s i => by
  have q' : SqT K H' a vs := sqT_s s.sub (sqT_sub tp q)
  have r' := r.up tm tp
  refine ⟨fun d e => ?_, fun e => ⟨vs, q', by rw [r'.length]; simpa using e⟩⟩
  obtain ⟨v, ev, rv⟩ := r'.get e
  refine ⟨⟨vs, v, q', ev⟩, fun x H2 y => ?_⟩
  obtain ⟨rfl, y⟩ := y
  have z := y vs q'
  rw [ev] at z
  cases z
  exact ⟨P', Step.refl .., s, rv⟩
theorem Post.bindI {α β : Type} {L : Rl α β} {r : R α} {k : α → AH → R AI} {Q : It → Hp → Prop}
    (p : match r.bind k with
      | .ok a h' => ∀ ρ' P' H' J, Step ρ P H ρ' P' H' → SR K ρ' P' H' h' → ItOk K ρ' P' H' a J → Q J H'
      | .exc x fs h' => ∀ ρ' P' H' dd, Step ρ P H ρ' P' H' → SR K ρ' P' H' h' → RX K ρ' P' fs dd → E (.ref (He.ga K x)) dd H'
      | .bad => False) {Q' : β → Hp → Prop}
    (h : ∀ a h' ρ' P' H' v, Step ρ P H ρ' P' H' → SR K ρ' P' H' h' → L ρ' P' a v → (match k a h' with
      | .ok a h2 => ∀ ρ2 P2 H2 J, Step ρ' P' H' ρ2 P2 H2 → SR K ρ2 P2 H2 h2 → ItOk K ρ2 P2 H2 a J → Q J H2
      | .exc x fs h2 => ∀ ρ2 P2 H2 dd, Step ρ' P' H' ρ2 P2 H2 → SR K ρ2 P2 H2 h2 → RX K ρ2 P2 fs dd → E (.ref (He.ga K x)) dd H2
      | .bad => False) → Q' v H') : Post K L E ρ P H Q' r := by
  cases r with
  | ok a h' =>
    intro ρ' P' H' v t q1 q2
    refine h a h' ρ' P' H' v t q1 q2 ?_
    have p : match k a h' with
      | .ok a h' => ∀ ρ' P' H' J, Step ρ P H ρ' P' H' → SR K ρ' P' H' h' → ItOk K ρ' P' H' a J → Q J H'
      | .exc x fs h' => ∀ ρ' P' H' dd, Step ρ P H ρ' P' H' → SR K ρ' P' H' h' → RX K ρ' P' fs dd → E (.ref (He.ga K x)) dd H'
      | .bad => False := p
    cases e : k a h' with
    | ok b h2 => simp only [e] at p; exact fun ρ2 P2 H2 J u => p ρ2 P2 H2 J (t.trans u)
    | exc x fs h2 => simp only [e] at p; exact fun ρ2 P2 H2 dd u => p ρ2 P2 H2 dd (t.trans u)
    | bad => simp only [e] at p
  | exc x fs h => exact p
  | bad => exact p
theorem itOk_S {z : Str} : ItOk K ρ P H (.items (signsD z)) (Its z) := fun ρ' P' H' tm tp _ h' s i => by
  unfold signsD
  refine ⟨fun d e => ?_, fun e => ?_⟩
  · rw [List.getElem?_map] at e
    cases q : z.cps.toList[i]? with
    | none => rw [q] at e; cases e
    | some c =>
      rw [q] at e
      cases e
      have qa : z.cps[i]? = some c := by rw [← Array.getElem?_toList]; exact q
      refine ⟨(Array.getElem?_eq_some_iff.mp qa).1, fun x H2 y => ?_⟩
      obtain ⟨rfl, c', ec, rfl⟩ := y
      rw [qa] at ec
      cases ec
      exact ⟨P', Step.refl .., s, .str _⟩
  · show z.cps.size ≤ i
    rw [List.getElem?_eq_none_iff, List.length_map, Array.length_toList] at e
    exact e
theorem itOk_R {lo : Int} {n : Nat} : ItOk K ρ P H (.items ((List.range n).map fun i => D.int (lo + (i : Nat)))) (Itr lo n) := fun ρ' P' H' tm tp _ h' s i => by
  refine ⟨fun d e => ?_, fun e => (show n ≤ i by simpa using e)⟩
  rw [List.getElem?_map] at e
  cases q : (List.range n)[i]? with
  | none => rw [q] at e; cases e
  | some j =>
    rw [q] at e
    obtain ⟨hl, ej⟩ := List.getElem?_eq_some_iff.mp q
    simp at ej hl
    subst ej
    cases e
    refine ⟨hl, fun x H2 y => ?_⟩
    obtain ⟨rfl, rfl⟩ := y
    exact ⟨P', Step.refl .., s, .int _⟩
/-- within the word of a range -/
def InW (i : Int) : Prop := -(2 ^ 62) ≤ i ∧ i < 2 ^ 62
@[irreducible] instance insInW (i : Int) : Decidable (InW i) := inferInstanceAs (Decidable (_ ∧ _))
def rngD (lo hi : Int) : List D := (List.range (hi - lo).toNat).map fun i => D.int (lo + (i : Nat))
def miRng (m : M (List D)) : MI := fun env h => (m env h).bind fun ds h1 => match ds with
  | [.int j] => if InW j then .ok (.items (rngD 0 j)) h1 else .bad
  | [.int i, .int j] => if InW i ∧ InW j then .ok (.items (rngD i j)) h1 else .bad
  | _ => .bad
theorem si_rng1 {t : TA} {m : M (List D)} (ha : Sd K (RVs K) E t m) : SdI K E (iRng1 t) (fun env h => (m env h).bind fun ds h1 => match ds with
    | [.int j] => if InW j then .ok (.items (rngD 0 j)) h1 else .bad
    | _ => .bad) := fun ρ P σ H env h s re Q p =>
  ha ρ P σ H env h s re _ (Post.bindI p fun a h1 ρ1 P1 H1 v t1 s1 w1 p1 => by
    cases w1 with
    | nil => exact p1.elim
    | cons a b =>
      cases a with
      | int j =>
        cases b with
        | nil =>
          dsimp only at p1
          by_cases hb : InW j
          · rw [if_pos hb] at p1
            refine ⟨j, rfl, hb.1, hb.2, p1 ρ1 P1 H1 _ (Step.refl ..) s1 ?_⟩
            have e : (j - 0).toNat = j.toNat := by omega
            show ItOk K ρ1 P1 H1 (.items ((List.range (j - 0).toNat).map fun i => D.int (0 + (i : Nat)))) _
            rw [e]
            exact itOk_R
          · rw [if_neg hb] at p1; exact p1.elim
        | cons c d => exact p1.elim
      | _ => exact p1.elim)
/-! ### comprehensions -/
def wipeE (env : En) : List Nat → En
  | [] => env
  | v :: vs => (wipeE env vs).set v none
theorem RE.wipe {env : En} {σ : L2.St} (r : RE K ρ P env σ) : ∀ vs : List Nat, RE K ρ P (wipeE env vs) (wipe σ vs)
  | [] => r
  | v :: vs => by
    obtain ⟨hl, hr⟩ := RE.wipe r vs
    refine ⟨by show ((wipeE env vs).set v none).length = ((L2.wipe σ vs).set v none).length; simp [hl], fun i d e => ?_⟩
    have e : ((wipeE env vs).set v none)[i]? = some (some d) := e
    show ∃ u, ((L2.wipe σ vs).set v none)[i]? = some (some u) ∧ _
    by_cases z : v = i
    · subst z
      by_cases hv : v < (wipeE env vs).length
      · rw [List.getElem?_set_self hv] at e; cases e
      · rw [List.getElem?_eq_none (by simpa using hv)] at e; cases e
    · rw [List.getElem?_set_ne z] at e ⊢
      exact hr i d e
theorem wipe_set {σ : L2.St} {i : Nat} {o : Option V} : ∀ {vs : List Nat}, i ∈ vs → wipe (σ.set i o) vs = wipe σ vs
  | [], h => by cases h
  | v :: vs, h => by
    show (wipe (σ.set i o) vs).set v none = (wipe σ vs).set v none
    by_cases hi : i ∈ vs
    · rw [wipe_set hi]
    · have e : i = v := (List.mem_cons.mp h).resolve_right hi
      subst e
      have aux : ∀ ws : List Nat, i ∉ ws → wipe (σ.set i o) ws = (wipe σ ws).set i o := by
        intro ws
        induction ws with
        | nil => intro _; rfl
        | cons w ws ih =>
          intro hw
          show (wipe (σ.set i o) ws).set w none = ((wipe σ ws).set w none).set i o
          rw [ih (fun z => hw (List.mem_cons_of_mem _ z)), List.set_comm _ _ (fun z : i = w => hw (by rw [z]; exact List.mem_cons_self))]
      rw [aux vs hi, List.set_set]
theorem wipe_wipe {σ : L2.St} : ∀ {vs ws : List Nat}, (∀ i ∈ ws, i ∈ vs) → wipe (wipe σ ws) vs = wipe σ vs
  | vs, [], _ => rfl
  | vs, w :: ws, h => by
    show wipe ((wipe σ ws).set w none) vs = _
    rw [wipe_set (h w List.mem_cons_self), wipe_wipe fun i hi => h i (List.mem_cons_of_mem _ hi)]
/-- a target that stores at these places alone -/
def GW (vs : List Nat) (g : TG) : Prop := ∀ v σ H Q, g v σ H Q → g v σ H fun σ' H' => wipe σ' vs = wipe σ vs ∧ Q σ' H'
def GWs (vs : List Nat) (g : TGs) : Prop := ∀ v σ H Q, g v σ H Q → g v σ H fun σ' H' => wipe σ' vs = wipe σ vs ∧ Q σ' H'
theorem gw_name {vs : List Nat} {i : Nat} (h : i ∈ vs) : GW vs (gName i) := fun v σ H Q q => ⟨wipe_set h, q⟩
def lcItems (g : MG) (c : M Bool) (e : M D) (env : En) : List D → AH → R (List D)
  | [], h => .ok [] h
  | d :: ds, h => (g d env h).bind fun env1 h1 => (c env1 h1).bind fun b h2 => if b = true then (e env1 h2).bind fun y h3 => (lcItems g c e env ds h3).bind fun r h4 => .ok (y :: r) h4 else lcItems g c e env ds h2
def lcAt (g : MG) (c : M Bool) (e : M D) (env : En) (n : Nat) : Nat → Nat → AH → R (List D)
  | 0, _ => fun _ => .bad
  | k + 1, i => fun h => match h[n]? with
    | some (.lst ds) => (match ds[i]? with
      | none => .ok [] h
      | some d => if i < sizeLine then (g d env h).bind fun env1 h1 => (c env1 h1).bind fun b h2 => if b = true then (e env1 h2).bind fun y h3 => (lcAt g c e env n k (i + 1) h3).bind fun r h4 => .ok (y :: r) h4 else lcAt g c e env n k (i + 1) h2 else .bad)
    | _ => .bad
def mLc (w : MI) (g : MG) (c : M Bool) (e : M D) (vs : List Nat) : M (List D) := fun env h => (w env h).bind fun a h1 => match a with
  | .items ds => if ds.length ≤ sizeLine then lcItems g c e (wipeE env vs) ds h1 else .bad
  | .at_ n => lcAt g c e (wipeE env vs) n 1000000 0 h1
theorem Step.loose {ρ0 : Ro} {P0 H0 : Hp} (t : Step ρ0 P0 H0 ρ P H) {p : Addr} {o : HO} (h0 : H0 p = none) : Step ρ0 P0 H0 ρ P (upd H p o) := by
  refine ⟨t.mono, t.pure, t.newr, t.newp, fun a u e hn w => ?_, fun a e => ?_⟩
  · rw [upd_ne (ne_of_none e h0)]; exact t.keep a u e hn w
  · by_cases z : a = p
    · rw [z, upd_same]; simp
    · rw [upd_ne z]; exact t.there a e
theorem PostF.bindA {α β : Type} {L : Rl α β} {Q : VK} {r : R α} {k : α → AH → R (List D)} {ρ0 : Ro} {P0 H0 : Hp}
    (p : PostF K E ρ0 P0 H0 Q (r.bind k)) (t0 : Step ρ0 P0 H0 ρ P H) {Q' : β → Hp → Prop} (h : ∀ a h' ρ' P' H' v, Step ρ P H ρ' P' H' → SR K ρ' P' H' h' → L ρ' P' a v → PostF K E ρ0 P0 H0 Q (k a h') → Q' v H') : Post K L E ρ P H Q' r := by
  cases r with
  | ok a h' => exact fun ρ' P' H' v t q1 q2 => h a h' ρ' P' H' v t q1 q2 p
  | exc x fs h => exact fun ρ' P' H' dd t q1 q2 => p ρ' P' H' dd (t0.trans t) q1 q2
  | bad => exact p
/-- the new list within a comprehension -/
structure LcS (K : PySem.W.Frag) (ρ0 : Ro) (P0 H0 : Hp) (D0 : Addr) (ρ : Ro) (P H : Hp) (h : AH) (acc : List D) : Prop where
  t : Step ρ0 P0 H0 ρ P H
  s : SR K ρ P H h
  np : P D0 = none
  nr : NoR ρ D0
  at_ : ∃ vs, H D0 = some (.lst vs) ∧ RepL K ρ P acc vs
theorem LcS.step {ρ0 : Ro} {P0 H0 : Hp} {D0 : Addr} {h h' : AH} {acc : List D} (x : LcS K ρ0 P0 H0 D0 ρ P H h acc) (t : Step ρ P H ρ' P' H') (s : SR K ρ' P' H' h') : LcS K ρ0 P0 H0 D0 ρ' P' H' h' acc := by
  obtain ⟨vs, e, r⟩ := x.at_
  have ne : H D0 ≠ none := by rw [e]; simp
  exact ⟨x.t.trans t, s, t.noP x.np (.inr ⟨_, e, rfl⟩), t.noR ne x.nr, vs, t.keep _ _ e x.nr ⟨rfl, .inr rfl⟩, r.step t⟩
theorem LcS.app {ρ0 : Ro} {P0 H0 : Hp} {D0 : Addr} {h : AH} {acc : List D} (x : LcS K ρ0 P0 H0 D0 ρ P H h acc) (h0 : H0 D0 = none) {d : D} {v : V} (w : Rep K ρ P d v) : ∃ vs, H D0 = some (.lst vs) ∧ vs.length = acc.length ∧ LcS K ρ0 P0 H0 D0 ρ P (upd H D0 (.lst (vs ++ [v]))) h (acc ++ [d]) := by
  obtain ⟨vs, e, r⟩ := x.at_
  exact ⟨vs, e, r.length, x.t.loose h0, x.s.loose x.np x.nr (fun u q => by rw [e] at q; cases q; exact noC_of rfl), x.np, x.nr, vs ++ [v], upd_same, r.append (.cons w .nil)⟩
theorem LcS.fin {ρ0 : Ro} {P0 H0 : Hp} {D0 : Addr} {h : AH} {acc : List D} {Q : VK} (x : LcS K ρ0 P0 H0 D0 ρ P H h acc) (h0 : H0 D0 = none) (p : PostF K E ρ0 P0 H0 Q (.ok acc h)) : Q (.ref D0) H := by
  obtain ⟨vs, e, r⟩ := x.at_
  exact p ρ P H D0 vs x.t x.s h0 x.np x.nr e r
theorem R.bind_ok {α : Type} (r : R α) : (r.bind fun a h => .ok a h) = r := by cases r <;> rfl
theorem R.bind_bind {α β γ : Type} (r : R α) (f : α → AH → R β) (g : β → AH → R γ) : ((r.bind f).bind g) = r.bind fun a h => (f a h).bind g := by cases r <;> rfl
theorem sf_lc {w : TI} {g : TG} {tt : TT} {te : TE} {vs : List Nat} {mw : MI} {mg : MG} {mc : M Bool} {me : M D} (hw : SdI K E w mw) (hg : SdG K E g mg) (hv : GW vs g) (hc : Sd K (RQ Bool) E tt mc) (he : Sd K (RV K) E te me) :
    SdF K E (tLc w g tt te vs) (mLc mw mg mc me vs) := fun ρ P σ H env h s re Q p => by
  refine hw ρ P σ H env h s re _ ?_
  have p : PostF K E ρ P H Q ((mw env h).bind fun a h1 => match a with
    | .items ds => if ds.length ≤ sizeLine then lcItems mg mc me (wipeE env vs) ds h1 else .bad
    | .at_ n => lcAt mg mc me (wipeE env vs) n 1000000 0 h1) := p
  cases q : mw env h with
  | bad => rw [q] at p; exact p
  | exc x fs h => rw [q] at p; exact p
  | ok a h1 =>
    rw [q] at p
    refine fun ρ0 P0 H0 J t0 s0 j0 D0 hD => ?_
    have p := PostF.mono p t0
    have re := (re.step t0).wipe vs
    obtain ⟨sD, tD⟩ := s0.own hD (.lst [])
    have x0 : LcS K ρ0 P0 H0 D0 ρ0 P0 (upd H0 D0 (.lst [])) h1 [] := ⟨tD, sD, s0.noP hD, s0.noR hD, [], upd_same, .nil⟩
    -- one turn's body
    have turn : ∀ {ρ : Ro} {P H : Hp} {h : AH} {acc : List D} {d : D} {v : V} {rest : AH → R (List D)} {Nx : Hp → Prop}, LcS K ρ0 P0 H0 D0 ρ P H h acc → acc.length < sizeLine → Rep K ρ P d v →
        PostF K E ρ0 P0 H0 Q (((mg d (wipeE env vs) h).bind fun env1 h1 => (mc env1 h1).bind fun b h2 => if b = true then (me env1 h2).bind fun y h3 => (rest h3).bind fun r h4 => .ok (y :: r) h4 else rest h2).bind fun r h => .ok (acc ++ r) h) →
        (∀ ρ' P' H' h' acc', LcS K ρ0 P0 H0 D0 ρ' P' H' h' acc' → acc'.length ≤ acc.length + 1 → PostF K E ρ0 P0 H0 Q ((rest h').bind fun r h => .ok (acc' ++ r) h) → Nx H') →
        g v (wipe σ vs) H fun σ2 H2 => wipe σ2 vs = wipe σ vs ∧ tt σ2 H2 fun b H3 => if b = true then te σ2 H3 fun y H4 => ∃ acc, H4 D0 = some (.lst acc) ∧ acc.length < sizeLine ∧ Nx (upd H4 D0 (.lst (acc ++ [y]))) else Nx H3 := by
      intro ρ P H h acc d v rest Nx x hl rd pp nx
      have re' : RE K ρ P (wipeE env vs) (wipe σ vs) := ⟨re.1, fun i d e => let ⟨v, h1, h2⟩ := re.2 i d e; ⟨v, h1, h2.up x.t.mono x.t.pure⟩⟩
      rw [R.bind_bind] at pp
      have gg := hg ρ P (wipe σ vs) H (wipeE env vs) h d v x.s re' rd (fun σ2 H2 => tt σ2 H2 fun b H3 => if b = true then te σ2 H3 fun y H4 => ∃ acc, H4 D0 = some (.lst acc) ∧ acc.length < sizeLine ∧ Nx (upd H4 D0 (.lst (acc ++ [y]))) else Nx H3)
        (PostF.bindA pp x.t fun env1 h1 ρ1 P1 H1 σ1 t1 s1 r1 p1 => by
          rw [R.bind_bind] at p1
          have x1 := x.step t1 s1
          refine hc ρ1 P1 σ1 H1 env1 h1 s1 r1 _ (PostF.bindA p1 x1.t fun b h2 ρ2 P2 H2 b' t2 s2 eb p2 => ?_)
          cases eb
          have x2 := x1.step t2 s2
          cases b with
          | false =>
            rw [if_neg Bool.false_ne_true] at p2 ⊢
            exact nx ρ2 P2 H2 h2 acc x2 (Nat.le_succ _) p2
          | true =>
            rw [if_pos rfl] at p2 ⊢
            rw [R.bind_bind] at p2
            refine he ρ2 P2 σ1 H2 env1 h2 s2 (r1.step t2) _ (PostF.bindA p2 x2.t fun y h3 ρ3 P3 H3 yv t3 s3 ry p3 => ?_)
            obtain ⟨ws, e1, e2, x3⟩ := (x2.step t3 s3).app hD ry
            refine ⟨ws, e1, by rw [e2]; exact hl, nx _ _ _ _ _ x3 (by simp) ?_⟩
            rw [R.bind_bind] at p3
            have e : (fun (a : List D) (h : AH) => R.bind (R.ok (y :: a) h) fun r h => R.ok (acc ++ r) h) = fun r h => R.ok (acc ++ [y] ++ r) h := by funext a h; show R.ok (acc ++ (y :: a)) h = _; simp
            have p4 : PostF K E ρ0 P0 H0 Q ((rest h3).bind fun (a : List D) (h : AH) => R.bind (R.ok (y :: a) h) fun r h => R.ok (acc ++ r) h) := p3
            rw [e] at p4
            exact p4)
      have g2 := hv _ _ _ _ gg
      rw [wipe_wipe fun i hi => hi] at g2
      exact g2
    cases a with
    | items ds =>
      have p : PostF K E ρ0 P0 H0 Q (if ds.length ≤ sizeLine then lcItems mg mc me (wipeE env vs) ds h1 else .bad) := p
      by_cases hs : ds.length ≤ sizeLine
      · rw [if_pos hs] at p
        refine ⟨fun i m H => m = ds.length - i ∧ i ≤ ds.length ∧ ∃ ρ P h acc, LcS K ρ0 P0 H0 D0 ρ P H h acc ∧ acc.length ≤ i ∧ PostF K E ρ0 P0 H0 Q ((lcItems mg mc me (wipeE env vs) (ds.drop i) h).bind fun r h => .ok (acc ++ r) h), ⟨ds.length, rfl, Nat.zero_le _, ρ0, P0, h1, [], x0, Nat.le_refl _, ?_⟩, ?_⟩
        · have e : (fun (r : List D) (h : AH) => R.ok ([] ++ r) h) = fun r h => R.ok r h := rfl
          rw [e, R.bind_ok]
          exact p
        · rintro i m H ⟨rfl, hi, ρ, P, h, acc, x, ha, p⟩
          have t' : Step ρ0 P0 H0 ρ P H := x.t
          have jj := j0 ρ P H t'.mono t'.pure (t'.frz s0) h x.s i
          by_cases hlt : i < ds.length
          · have e : ds.drop i = ds[i] :: ds.drop (i + 1) := by rw [List.drop_eq_getElem_cons hlt]
            rw [e] at p
            obtain ⟨go, yl⟩ := jj.1 ds[i] (List.getElem?_eq_getElem hlt)
            refine .inr ⟨go, fun H' => ∃ ρ P h acc, LcS K ρ0 P0 H0 D0 ρ P H' h acc ∧ acc.length ≤ i + 1 ∧ PostF K E ρ0 P0 H0 Q ((lcItems mg mc me (wipeE env vs) (ds.drop (i + 1)) h).bind fun r h => .ok (acc ++ r) h), fun H' z => ⟨ds.length - (i + 1), by omega, rfl, hlt, z⟩, fun v H' y => ?_⟩
            obtain ⟨P2, tx, sx, rx⟩ := yl v H' y
            exact turn (rest := lcItems mg mc me (wipeE env vs) (ds.drop (i + 1))) (x.step tx sx) (by omega) rx p fun ρ' P' H' h' acc' x' hl' p' => ⟨ρ', P', h', acc', x', by omega, p'⟩
          · have e : i = ds.length := by omega
            subst e
            rw [List.drop_length] at p
            refine .inl ⟨jj.2 (by simp), x.fin (E := E) hD ?_⟩
            have p : PostF K E ρ0 P0 H0 Q (.ok (acc ++ []) h) := p
            rw [List.append_nil] at p
            exact p
      · rw [if_neg hs] at p; exact p.elim
    | at_ n =>
      obtain ⟨a, ea, rfl⟩ := j0
      have p : PostF K E ρ0 P0 H0 Q (lcAt mg mc me (wipeE env vs) n 1000000 0 h1) := p
      refine ⟨fun i m H => i + m = 1000000 ∧ ∃ ρ P h acc, LcS K ρ0 P0 H0 D0 ρ P H h acc ∧ acc.length ≤ i ∧ PostF K E ρ0 P0 H0 Q ((lcAt mg mc me (wipeE env vs) n m i h).bind fun r h => .ok (acc ++ r) h), ⟨1000000, rfl, ρ0, P0, h1, [], x0, Nat.le_refl _, ?_⟩, ?_⟩
      · have e : (fun (r : List D) (h : AH) => R.ok ([] ++ r) h) = fun r h => R.ok r h := rfl
        rw [e, R.bind_ok]
        exact p
      · rintro i m H ⟨hm, ρ, P, h, acc, x, ha, p⟩
        cases m with
        | zero => exact p.elim
        | succ m =>
          have en := x.t.mono n a ea
          obtain ⟨o, eo, r⟩ := x.s.here en
          cases o with
          | lst ds =>
            obtain ⟨ws, ev, rv⟩ := r
            unfold lcAt at p
            simp only [eo] at p
            cases q : ds[i]? with
            | none =>
              simp only [q] at p
              refine .inl ⟨⟨ws, .of ev, by rw [rv.length]; simpa using q⟩, x.fin (E := E) hD ?_⟩
              have p : PostF K E ρ0 P0 H0 Q (.ok (acc ++ []) h) := p
              rw [List.append_nil] at p
              exact p
            | some d =>
              simp only [q] at p
              obtain ⟨v, hv1, rd⟩ := rv.get q
              by_cases hi : i < sizeLine
              · rw [if_pos hi] at p
                refine .inr ⟨⟨ws, v, .of ev, hv1⟩, fun H' => ∃ ρ P h acc, LcS K ρ0 P0 H0 D0 ρ P H' h acc ∧ acc.length ≤ i + 1 ∧ PostF K E ρ0 P0 H0 Q ((lcAt mg mc me (wipeE env vs) n m (i + 1) h).bind fun r h => .ok (acc ++ r) h), fun H' z => ⟨m, Nat.lt_succ_self m, by omega, z⟩, fun y H' yy => ?_⟩
                obtain ⟨rfl, yy⟩ := yy
                have ex := yy ws (.of ev)
                rw [hv1] at ex
                cases ex
                exact turn (rest := lcAt mg mc me (wipeE env vs) n m (i + 1)) x (by omega) rd p fun ρ' P' H' h' acc' x' hl' p' => ⟨ρ', P', h', acc', x', by omega, p'⟩
              · rw [if_neg hi] at p; exact p.elim
          | dct kvs =>
            unfold lcAt at p
            simp only [eo] at p
            exact p.elim
          | ins c fs =>
            unfold lcAt at p
            simp only [eo] at p
            exact p.elim
          | ndt kvs =>
            unfold lcAt at p
            simp only [eo] at p
            exact p.elim
end
end Ab

namespace Ab
open PySem PySem.Spec L2
/-! ### a def: its frame at the entry, its end; numbers made within are dropped -/
mutual
def below (n : Nat) : D → Bool
  | .tup ds => belowL n ds
  | .lst ds => belowL n ds
  | .scr ds => belowL n ds
  | .obj _ _ ds => belowL n ds
  | .dic _ ds => belowL n ds
  | .nd _ ds => belowL n ds
  | .exv _ _ ds => belowL n ds
  | .loc m => decide (m < n)
  | _ => true
def belowL (n : Nat) : List D → Bool
  | [] => true
  | d :: ds => below n d && belowL n ds
end
def AO.below (n : Nat) : AO → Bool
  | .lst ds => belowL n ds
  | .dct kvs => belowL n (kvs.map (·.2))
  | .ins _ fs => belowL n (fs.map (·.2))
  | .ndt kvs => belowL n (kvs.map (·.2))
def initE (N : Nat) (ds : List D) : En := ds.map some ++ List.replicate (N - ds.length) none
def bodyR : SS → R D
  | .nx _ h => .ok .non h
  | .rt d h => .ok d h
  | .exc x fs h => .exc x fs h
  | _ => .bad
def bodyR0 : SS → R D
  | .nx _ h => .ok .non h
  | .rt d h => .ok d h
  | _ => .bad
def exitD (n : Nat) (d : D) (h : AH) : R D :=
  if (h.take n).all (AO.below n) = true then
    (if below n d = true then .ok d (h.take n) else match d with
      | .loc k => (match h[k]? with
        | some (.lst ds) => if belowL n ds = true then .ok (.lst ds) (h.take n) else .ok d h
        | some (.dct kvs) => if belowL n (kvs.map (·.2)) = true then .ok (.dic (kvs.map (·.1)) (kvs.map (·.2))) (h.take n) else .ok d h
        | _ => .ok d h)
      | _ => .ok d h)
  else .ok d h
def exitR (n : Nat) : R D → R D
  | .ok d h => exitD n d h
  | .exc x fs h => if (h.take n).all (AO.below n) = true ∧ belowL n (fs.map (·.2)) = true then .exc x fs (h.take n) else .exc x fs h
  | .bad => .bad
abbrev Fn := List D → AH → R D
/-- a def that lets nothing out; numbers dropped (T), kept (K) -/
def mFnT (N : Nat) (m : MS) : Fn := fun ds h => exitR h.length (bodyR0 (m (initE N ds) h))
def mFnK (N : Nat) (m : MS) : Fn := fun ds h => bodyR0 (m (initE N ds) h)
/-- one that may raise -/
def mFnTX (N : Nat) (m : MS) : Fn := fun ds h => exitR h.length (bodyR (m (initE N ds) h))
section
variable {K : PySem.W.Frag} {E : XK} {ρ ρ' ρ1 : Ro} {P H P' H' P1 H1 : Hp}
/-- numbers from n on forgotten -/
def cutR (n : Nat) (ρ : Ro) : Ro := fun k => if k < n then ρ k else none
mutual
theorem Rep.cut {n : Nat} : ∀ {d : D} {v : V}, Rep K ρ P d v → below n d = true → Rep K (cutR n ρ) P d v
  | _, _, .non, _ => .non
  | _, _, .bl b, _ => .bl b
  | _, _, .int i, _ => .int i
  | _, _, .str x, _ => .str x
  | _, _, .glo x, _ => .glo x
  | _, _, .ty x, _ => .ty x
  | _, _, .tup p r, h => .tup p (RepL.cut r h)
  | _, _, .lst p r, h => .lst p (RepL.cut r h)
  | _, _, .scr p r, h => .scr p (RepL.cut r h)
  | _, _, .loc (n := k) e, h => .loc (by
      have hk : k < n := of_decide_eq_true h
      show (if k < n then ρ k else none) = _
      rw [if_pos hk]; exact e)
  | _, _, .obj p e l r, h => .obj p e l (RepL.cut r h)
  | _, _, .dic p e l r, h => .dic p e l (RepL.cut r h)
  | _, _, .nd p e l k r, h => .nd p e l k (RepL.cut r h)
  | _, _, .exv p d e l r, h => .exv p d e l (RepL.cut r h)
  | _, _, .fn a, _ => .fn a
  | _, _, .dk p, _ => .dk p
theorem RepL.cut {n : Nat} : ∀ {ds : List D} {vs : List V}, RepL K ρ P ds vs → belowL n ds = true → RepL K (cutR n ρ) P ds vs
  | _, _, .nil, _ => .nil
  | _, _, .cons a b, h => .cons (Rep.cut a (Bool.and_eq_true_iff.mp h).1) (RepL.cut b (Bool.and_eq_true_iff.mp h).2)
end
theorem SR.cut {h' : AH} {n : Nat} (s : SR K ρ' P' H' h') (hb : (h'.take n).all (AO.below n) = true) : SR K (cutR n ρ') P' H' (h'.take n) := by
  have sub : ∀ {k : Nat} {a : Addr}, cutR n ρ' k = some a → k < n ∧ ρ' k = some a := fun {k a} e => by
    have e : (if k < n then ρ' k else none) = some a := e
    split at e
    · exact ⟨by assumption, e⟩
    · cases e
  refine ⟨s.sub, s.subD, fun k a e => s.apart k a (sub e).2, fun k m a e e' => s.inj k m a (sub e).2 (sub e').2, fun k o e => ?_, fun k hk => ?_, s.tabs⟩
  · have hk : k < n := by
      have := (List.getElem?_eq_some_iff.mp e).1
      simp at this; omega
    have e2 : h'[k]? = some o := by rw [List.getElem?_take_of_lt hk] at e; exact e
    obtain ⟨a, e1, r⟩ := s.obj k o e2
    refine ⟨a, by show (if k < n then ρ' k else none) = _; rw [if_pos hk]; exact e1, ?_⟩
    have ho : o.below n = true := List.all_eq_true.mp hb o (List.mem_of_getElem? e)
    cases o with
    | lst ds =>
      obtain ⟨vs, e3, r3⟩ := r
      exact ⟨vs, e3, r3.cut ho⟩
    | dct kvs =>
      obtain ⟨vs, e3, e4, r3⟩ := r
      exact ⟨vs, e3, e4, r3.cut ho⟩
    | ins c fs =>
      obtain ⟨dx, vs, e3, e4, r3⟩ := r
      exact ⟨dx, vs, e3, e4, r3.cut ho⟩
    | ndt kvs =>
      obtain ⟨xs, e3, e4, w, r3⟩ := r
      exact ⟨xs, e3, e4, w, r3.cut ho⟩
  · show (if k < n then ρ' k else none) = none
    split
    · exact s.dom k (by simp at hk; omega)
    · rfl
theorem Step.cut {h : AH} (s : SR K ρ P H h) (t : Step ρ P H ρ' P' H') : Step ρ P H (cutR h.length ρ') P' H' := by
  refine ⟨fun k a e => ?_, t.pure, fun k a e e' => ?_, t.newp, t.keep, t.there⟩
  · have hk : k < h.length := by
      cases Nat.lt_or_ge k h.length with
      | inl z => exact z
      | inr z => rw [s.dom k z] at e; cases e
    show (if k < h.length then ρ' k else none) = _
    rw [if_pos hk]; exact t.mono k a e
  · have e' : (if k < h.length then ρ' k else none) = some a := e'
    split at e'
    · exact t.newr k a e e'
    · cases e'
/-- a thing made within, that no number keeps: it never changes any more -/
theorem freeze {h h' : AH} {k : Nat} {a : Addr} {u : HO} (s : SR K ρ P H h) (t : Step ρ P H ρ' P' H') (s' : SR K ρ' P' H' h') (hb : (h'.take h.length).all (AO.below h.length) = true) (e : ρ' k = some a) (hk : ¬ k < h.length) (ev : H' a = some u) :
    Step ρ P H (cutR h.length ρ') (upd P' a u) H' ∧ SR K (cutR h.length ρ') (upd P' a u) H' (h'.take h.length) ∧ ∀ b o, P' b = some o → upd P' a u b = some o := by
  have np := s'.apart k a e
  have h0 : H a = none := t.newr k a (s.dom k (Nat.le_of_not_lt hk)) e
  have sc := s'.cut hb
  have tc := t.cut s
  have nr : NoR (cutR h.length ρ') a := fun m em => by
    have em : (if m < h.length then ρ' m else none) = some a := em
    split at em
    · have := s'.inj m k a em e
      omega
    · cases em
  have kp : ∀ b o, P' b = some o → upd P' a u b = some o := upd_keep np
  refine ⟨⟨tc.mono, fun b o eb => kp b o (tc.pure b o eb), tc.newr, fun b eb hb => ?_, tc.keep, tc.there⟩, ⟨fun b o eb nd => ?_, fun b o eb => ?_, fun m b eb => ?_, sc.inj, fun m o eo => ?_, sc.dom, sc.tabs.updP K (by obtain ⟨o, _, r⟩ := s'.here e; exact noC_nT (r.noC u ev))⟩, kp⟩
  · have z : b ≠ a := fun z => by
      subst z
      rcases hb with ⟨n, e1⟩ | ⟨u, e1, _⟩
      · exact nr n (tc.mono n b e1)
      · rw [h0] at e1; cases e1
    rw [upd_ne z]; exact tc.newp b eb hb
  · by_cases z : b = a
    · subst z; rw [upd_same] at eb; cases eb; exact ev
    · rw [upd_ne z] at eb; exact sc.sub b o eb nd
  · by_cases z : b = a
    · subst z; rw [upd_same] at eb; cases eb; exact .inl ev
    · rw [upd_ne z] at eb; exact sc.subD b o eb
  · have z : b ≠ a := fun z => nr m (z ▸ eb)
    rw [upd_ne z]; exact sc.apart m b eb
  · obtain ⟨b, e1, r⟩ := sc.obj m o eo
    exact ⟨b, e1, r.up (fun _ _ e => e) kp fun _ e => e⟩
theorem zip_parts {α β : Type} : ∀ {l : List (α × β)}, l = (l.map (·.1)).zip (l.map (·.2))
  | [] => rfl
  | p :: l => by simp only [List.map_cons, List.zip_cons_cons]; rw [← zip_parts (l := l)]
theorem post_exit {h : AH} (s : SR K ρ P H h) {Q : VK} : ∀ {r : R D}, Post K (RV K) E ρ P H Q (exitR h.length r) → Post K (RV K) E ρ P H Q r
  | .bad, p => p
  | .exc x fs h', p => by
    intro ρ' P' H' dd t s' rx
    have p : Post K (RV K) E ρ P H Q (if (h'.take h.length).all (AO.below h.length) = true ∧ belowL h.length (fs.map (·.2)) = true then .exc x fs (h'.take h.length) else .exc x fs h') := p
    split at p
    · rename_i hb
      refine p _ P' H' dd (t.cut s) (s'.cut hb.1) ?_
      rcases rx with z | ⟨da, fvs, e1, e2, e3, r⟩
      · exact .inl z
      · exact .inr ⟨da, fvs, e1, e2, e3, r.cut hb.2⟩
    · exact p ρ' P' H' dd t s' rx
  | .ok d h', p => by
    intro ρ' P' H' v t s' w
    have p : Post K (RV K) E ρ P H Q (exitD h.length d h') := p
    unfold exitD at p
    split at p
    · rename_i hb
      split at p
      · rename_i hd
        exact p _ P' H' v (t.cut s) (s'.cut hb) (w.cut hd)
      · rename_i hd
        split at p
        · rename_i k pold
          split at p
          · rename_i ds ek
            split at p
            · rename_i hds
              cases w with
              | loc e =>
                rename_i a
                obtain ⟨o, eo, r⟩ := s'.here e
                rw [ek] at eo
                cases eo
                obtain ⟨vs, ev, rv⟩ := r
                have hk : ¬ k < h.length := fun z => hd (decide_eq_true z)
                obtain ⟨st, sr, kp⟩ := freeze s t s' hb e hk ev
                exact p _ _ H' _ st sr (.lst upd_same ((rv.cut hds).up (fun _ _ e => e) kp))
            · exact p ρ' P' H' v t s' w
          · rename_i kvs ek
            split at p
            · rename_i hds
              cases w with
              | loc e =>
                rename_i a
                obtain ⟨o, eo, r⟩ := s'.here e
                rw [ek] at eo
                cases eo
                obtain ⟨kws, ev, e4, rv⟩ := r
                have hk : ¬ k < h.length := fun z => hd (decide_eq_true z)
                obtain ⟨st, sr, kp⟩ := freeze s t s' hb e hk ev
                have hl := congrArg List.length e4
                simp only [List.length_map] at hl
                exact p _ _ H' _ st sr (.dic (vs := kws.map (·.2)) upd_same (by rw [← e4]; exact zip_parts) (by simp only [List.length_map]; exact hl.symm) ((rv.cut hds).up (fun _ _ e => e) kp))
            · exact p ρ' P' H' v t s' w
          · exact p ρ' P' H' v t s' w
        · exact p ρ' P' H' v t s' w
    · exact p ρ' P' H' v t s' w
theorem re_start {N : List Str} {ds : List D} {vs : List V} (r : RepL K ρ P ds vs) : RE K ρ P (initE N.length ds) (L2.start N vs) := by
  have hl := r.length
  refine ⟨by unfold initE L2.start; simp [hl], fun i d e => ?_⟩
  unfold initE at e
  by_cases hi : i < ds.length
  · rw [List.getElem?_append_left (by simpa using hi), List.getElem?_map] at e
    cases q : ds[i]? with
    | none => rw [q] at e; cases e
    | some d' =>
      rw [q] at e
      cases e
      obtain ⟨v, ev, rv⟩ := r.get q
      refine ⟨v, ?_, rv⟩
      unfold L2.start
      rw [List.getElem?_append_left (by simp [hl]; exact hi), List.getElem?_map, ev]
      rfl
  · rw [List.getElem?_append_right (by simpa using hi), List.getElem?_replicate] at e
    split at e <;> cases e
/-- the promise of a def that computes F -/
def spD (K : PySem.W.Frag) (n : Nat) (F : Fn) : Sp := fun vs H Q E => vs.length = n ∧ ∃ ρ P h ds, SR K ρ P H h ∧ RepL K ρ P ds vs ∧ Post K (RV K) E ρ P H Q (F ds h)
def mCall (n : Nat) (F : Fn) (m : M (List D)) : M D := fun env h => (m env h).bind fun ds h1 => if ds.length = n then F ds h1 else .bad
theorem sd_call {n : Nat} {F : Fn} {t : TA} {m : M (List D)} (ha : Sd K (RVs K) E t m) : Sd K (RV K) E (tCall (spD K n F) [] E t) (mCall n F m) := fun ρ P σ H env h s re Q p =>
  ha ρ P σ H env h s re _ (Post.bind p fun a h1 ρ1 P1 H1 v t1 s1 w1 p1 => by
    split at p1
    · rename_i hl
      show spD K n F (v ++ []) H1 Q E
      rw [List.append_nil]
      exact ⟨by rw [w1.length]; exact hl, ρ1, P1, h1, a, s1, w1, p1⟩
    · exact p1.elim)
/-- keywords: the values put into the parameters' order -/
def mCallK (n : Nat) (F : Fn) (g : List D → List D → List D) (m mk : M (List D)) : M D := fun env h => (m env h).bind fun ds h1 => (mk env h1).bind fun es h2 => if (g ds es).length = n then F (g ds es) h2 else .bad
end
/-! ### a judgement of the text and its computation -/
def JB (X : Cx) (E : XK) (s : List Stmt) (m : MS) : Prop := ∃ t, PSs X s t ∧ SdS X.K E t m
section
variable {P : Program} {w : World} {K : PySem.W.Frag} {mg : Str → Option Value} {base : Heap} {x qual : Str} {params : Arguments} {body : List Stmt} {scope : Scope} {dvs : List V} {kws : List (Str × V)} {f : Addr} {fd : FuncData} {N ps : List Str} {k : Nat} {m : MS}
theorem bodyR0_ok {E' E : XK} {ρ : Ro} {Pp H : Hp} {Q : VK} {r : SS} (p : Post K (RV K) E ρ Pp H Q (bodyR0 r)) : PostS K E' ρ Pp H { nx := fun _ H' => Q .non H', rt := Q } r := by
  cases r with
  | nx env h => exact fun ρ' P' H' σ' t s r => p ρ' P' H' .non t s .non
  | rt d h => exact p
  | bk env h => exact p.elim
  | ct env h => exact p.elim
  | exc x fs h => exact p.elim
  | bad => exact p.elim
end
end Ab

namespace Ab
open PySem PySem.Spec L2
/-! A def's promise where no repr is under way around (guards known): for defs that ask repr of containers. -/
structure FnG (P : Program) (w : World) (K : PySem.W.Frag) (mg : Str → Option Value) (base : Heap) (CX : CXT) (k : Nat) (f : Addr) (fd : FuncData) (ps : List Str) (sp : Sp) : Prop where
  len : ∀ vs H Q E, sp vs H Q E → vs.length = ps.length
  go : ∀ (A : Around) (outer : List PySem.Env) (s : Shared) (H : Hp) (args : Args) (us : List Value) (vs : List V) (Q : VK) (E : XK),
    Room k A ∧ A.guards = some [] → Env0 P w K mg base A outer s H → BindsTo s fd args (ps.zip us) → Vals vs us → sp vs H Q E →
    codeAny (model P w) A (.call (.ref f) args) (CR CX outer P w H s Q E) s
theorem FnG.of {P : Program} {w : World} {K : PySem.W.Frag} {mg : Str → Option Value} {base : Heap} {CX : CXT} {k : Nat} {f : Addr} {fd : FuncData} {ps : List Str} {sp : Sp} (F : FnOk P w K mg base CX k f fd ps sp) : FnG P w K mg base CX k f fd ps sp :=
  ⟨F.len, fun A o s H a us vs Q E hr e0 hb r h => F.run A o s H a us vs Q E hr.1 e0 hb r h⟩
theorem FnG.mono {P : Program} {w : World} {K : PySem.W.Frag} {mg : Str → Option Value} {base : Heap} {CX : CXT} {j k : Nat} {f : Addr} {fd : FuncData} {ps : List Str} {sp : Sp} (F : FnG P w K mg base CX j f fd ps sp) (h : j ≤ k) : FnG P w K mg base CX k f fd ps sp :=
  ⟨F.len, fun A o s H a us vs Q E hr e0 hb r q => F.go A o s H a us vs Q E ⟨hr.1.mono h, hr.2⟩ e0 hb r q⟩
theorem cr_up {CX : CXT} {P : Program} {w : World} {outer : List PySem.Env} {H : Hp} {s : Shared} {Q : VK} {E : XK} {r : Result} {s' : Shared} (h : CR CX0 outer P w H s Q E r s') : CR CX outer P w H s Q E r s' := by
  cases r with
  | error e => exact (show False from h).elim
  | ok f => cases f <;> exact h
theorem FnG.up {CX : CXT} {P : Program} {w : World} {K : PySem.W.Frag} {mg : Str → Option Value} {base : Heap} {k : Nat} {f : Addr} {fd : FuncData} {ps : List Str} {sp : Sp} (F : FnG P w K mg base CX0 k f fd ps sp) : FnG P w K mg base CX k f fd ps sp :=
  ⟨F.len, fun A o s H a us vs Q E hr e0 hb r h => codeAny_mono (F.go A o s H a us vs Q E hr e0 hb r h) fun _ _ z => cr_up z⟩
/-- nothing is let out -/
theorem passE {X : Cx} : Passes (L2.CX X.prog X.w) X E0 := fun _ _ _ _ _ _ _ z => by
  obtain ⟨_, _, _, _, _, _, _, _, _, _, _, _, z⟩ := z
  exact (show False from z).elim
/-- all is let out -/
theorem passX {X : Cx} {E : XK} {E₁ : Value → Shared → Prop} (hs : X.stack = X.env :: X.outer := by rfl) (hf : X.env.frame = some X.env.locals := by rfl) (hex : X.ex = [] := by rfl)
    (hx : X.xe = fun e s' => wpAny (model X.prog X.w) X.A (leaving X.env e) (fun _ s'' => L2.CX X.prog X.w X.outer X.H_0 X.s_0 E e s'') E₁ s' := by rfl) : Passes (L2.CX X.prog X.w) X E := L2.passes_call (L2.takes_of (E := E) hs hf hex hx) fun _ _ _ _ h => h
section
variable {P : Program} {w : World} {K : PySem.W.Frag} {mg : Str → Option Value} {base : Heap} {x qual : Str} {params : Arguments} {body : List Stmt} {scope : Scope} {dvs : List V} {kws : List (Str × V)} {f : Addr} {fd : FuncData} {N ps : List Str} {k : Nat} {m : MS}
/-- a def by its body, the guards known -/
theorem FunD.okG {CX : CXT} {sp : Sp} (F : FunD K x qual params body scope dvs kws f fd) (S : FnScope N ps scope) (len : ∀ vs H Q E, sp vs H Q E → vs.length = ps.length)
    (hbody : ∀ (cdv : Value) (A : Around) (outer : List PySem.Env) (s : Shared) (H : Hp) (vs : List V) (Q : VK) (E : XK), Room k (A.deeper (PyProof.Rows.envOfC qual scope s.heap.objs.size f cdv)) → A.guards = some [] → sp vs H Q E →
      ∃ t, PSs (cxOf CX P w K mg base N qual scope f cdv A outer s H E) body t ∧ t { nx := fun _ H' => Q .non H', rt := Q } (L2.start N vs) H) : FnG P w K mg base CX (k + 1) f fd ps sp := by
  obtain ⟨oc, od, dV, kV, doc, pm, an, cdv, ct, osl, rfl, lk, hcd, _, _⟩ := F.ex
  refine ⟨len, fun A outer s H args us vs Q E hr e0 hb r hsp => ?_⟩
  refine StX.run_bnd lk hcd S hr.1 e0 (G := fun vs' H' => vs' = vs ∧ H' = H) (fun A' Ex Q' h => ?_) fun s2 H2 vs' g hr' => ?_
  · exact hb _ _ _ _ (h s H vs us e0 Un.refl rfl (fun _ _ z => z) r (len _ _ _ _ hsp) ⟨rfl, rfl⟩)
  · obtain ⟨rfl, rfl⟩ := g
    exact hbody cdv A outer s2 _ _ Q E hr' hr.2 hsp
theorem fn_okKG (F : FunD K x qual params body scope dvs kws f fd) (S : FnScope N ps scope)
    (hb : ∀ (cdv : Value) (A : Around) (outer : List PySem.Env) (s : Shared) (H : Hp) (E : XK), Room k (A.deeper (PyProof.Rows.envOfC qual scope s.heap.objs.size f cdv)) → A.guards = some [] → JB (cxOf CX0 P w K mg base N qual scope f cdv A outer s H E).nox E0 body m) :
    FnG P w K mg base (L2.CX P w) (k + 1) f fd ps (spD K ps.length (mFnK N.length m)) := by
  refine FnG.up ?_
  refine FunD.okG F S (fun vs H Q E h => h.1) fun cdv A outer s H vs Q E hr hg h => ?_
  obtain ⟨t, ht, hs⟩ := hb cdv A outer s H E hr hg
  obtain ⟨_, ρ, Pp, h0, ds, sr, rl, p⟩ := h
  exact ⟨t, ht.nox, hs ρ Pp _ H _ h0 sr (re_start rl) _ (bodyR0_ok p)⟩
theorem fn_okTG (F : FunD K x qual params body scope dvs kws f fd) (S : FnScope N ps scope)
    (hb : ∀ (cdv : Value) (A : Around) (outer : List PySem.Env) (s : Shared) (H : Hp) (E : XK), Room k (A.deeper (PyProof.Rows.envOfC qual scope s.heap.objs.size f cdv)) → A.guards = some [] → JB (cxOf CX0 P w K mg base N qual scope f cdv A outer s H E).nox E0 body m) :
    FnG P w K mg base (L2.CX P w) (k + 1) f fd ps (spD K ps.length (mFnT N.length m)) := by
  refine FnG.up ?_
  refine FunD.okG F S (fun vs H Q E h => h.1) fun cdv A outer s H vs Q E hr hg h => ?_
  obtain ⟨t, ht, hs⟩ := hb cdv A outer s H E hr hg
  obtain ⟨_, ρ, Pp, h0, ds, sr, rl, p⟩ := h
  exact ⟨t, ht.nox, hs ρ Pp _ H _ h0 sr (re_start rl) _ (bodyR0_ok (post_exit sr p))⟩
end
/-! ### calls -/
section
variable {X : Cx} {CX : CXT} {k : Nat} {f C : Addr} {fd : FuncData} {ps ks : List Str} {sp : Sp} {E : XK} {x : Str} {p pos : Pos} {e : Expr} {es : List Expr} {t tk : TA} {kws : List Keyword}
theorem cr_ok {pins : List (Addr × Obj)} {σ : L2.St} {H : Hp} {s s' : Shared} {Q : VK} {r : Result} (I : Inv X pins σ H s) (hx : Passes CX X E) (h : CR CX X.stack X.prog X.w H s Q E r s') :
    match (generalizing := true) r with
    | .error e => X.xe e s'
    | .ok (.ret u) => EP X pins σ Q u s'
    | .ok _ => False := by
  cases r with
  | error e => exact hx pins σ H s e s' I h
  | ok fl => cases fl <;> first | exact I.after h | exact h
theorem run_g {pins : List (Addr × Obj)} {σ : L2.St} {H : Hp} {s : Shared} {Q : VK} {us us' : List Value} {vs : List V} {kw : List (Str × Value)} (F : FnG X.prog X.w X.K X.mg X.base CX k f fd ps sp) (hr : Room k X.A) (hg : X.A.guards = some []) (hx : Passes CX X E)
    (I : Inv X pins σ H s) (hb : us'.length = ps.length → BindsTo s fd ⟨us, kw⟩ (ps.zip us')) (r : Vals vs us') (h : sp vs H Q E) : wpAny (model X.prog X.w) X.A (call (.ref f) us kw) (EP X pins σ Q) X.xe s := by
  refine wpAny_call (codeAny_mono (F.go X.A X.stack s H ⟨us, kw⟩ us' vs Q E ⟨hr, hg⟩ I.env0 (hb (by rw [← r.length]; exact F.len _ _ _ _ h)) r h) fun r s' hq => ?_)
  have z := cr_ok I hx hq
  cases r with
  | error e => exact z
  | ok fl => cases fl <;> first | exact z | exact z.elim
theorem pe_callG (F : FnG X.prog X.w X.K X.mg X.base CX k f fd ps sp) (hr : Room k X.A) (hgu : X.A.guards = some []) (hg : Gl X x) (hm : X.mg x = some (.ref f)) (hk : PySem.W.keepIn X.K (.ref f) = true) (hb : Binds X.K fd ps []) (hx : Passes CX X E) (ha : PA X (e :: es) t)
    (hdb : (x == ("__debug__" : Str)) = false := by decide) (he : starEach (e :: es) X.env = (false, eval e X.env) :: starEach es X.env := by rfl) (hpl : (backTo pos (starEach es X.env)).any (·.1) = false := by rfl) : PE X (.Call (.Name x p) (e :: es) [] pos) (tCall sp [] E t) :=
  ⟨fun pins s σ H Q I h => wpAny_Call_Name_kw (ld_glob I hg hm (PySem.W.callWith_K (h₀ := X.base) I.ok.mod.kin hk (thn (ha.run pos pins s σ H _ I h) fun us s1 z => by
    obtain ⟨vs, H1, I1, r, q⟩ := z
    rw [List.append_nil] at q
    refine ⟨I1.kIn, run_g F hr hgu hx I1 (fun hl => ?_) r q⟩
    have hb1 := hb s1 us I1.kIn (by rw [List.append_nil]; exact hl)
    rw [List.append_nil] at hb1
    exact hb1) he hpl) hdb)⟩
end
/-! ### the law's own call -/
section
variable {P : Program} {w : World} {K : PySem.W.Frag} {mg mb : Str → Option Value} {k : Nat} {fa a : Addr} {fd : FuncData} {x : Str} {sp : Sp} {s₁ : Shared} {vs : List Value} {ns : List Int}
/-- the script as the abstract heap has it: a known list, or (where the module's own part holds it) nothing -/
def scriptHp (K : PySem.W.Frag) (a : Addr) (vs : List Value) (ns : List Int) : Hp := fun b =>
  if b = a ∧ K.lookup a = none then some (.frz { cls := .type "list", data := .seq vs.toArray } (.lst (ns.map V.int))) else if b ∈ (tabsOf K).map (·.1) then some (.tbl #[]) else none
theorem scriptHp_some {b : Addr} {u : HO} (e : scriptHp K a vs ns b = some u) : (b = a ∧ K.lookup a = none ∧ u = .frz { cls := .type "list", data := .seq vs.toArray } (.lst (ns.map V.int))) ∨ (b ∈ (tabsOf K).map (·.1) ∧ u = .tbl #[]) := by
  unfold scriptHp at e
  by_cases z : b = a ∧ K.lookup a = none
  · rw [if_pos z] at e; cases e; exact .inl ⟨z.1, z.2, rfl⟩
  · rw [if_neg z] at e
    by_cases y : b ∈ (tabsOf K).map (·.1)
    · rw [if_pos y] at e; cases e; exact .inr ⟨y, rfl⟩
    · rw [if_neg y] at e; cases e
theorem law_callG (KX : K.In s₁.heap) (hns : s₁.heap.Ns mainGlobals mg) (hb : s₁.heap.Ns builtinsNs mb) (hbb : ∀ x : Str, x ≠ "__name__" → mb x = bootBuiltins x) (hlim : s₁.heap.NoLimit) (hg : s₁.gens = #[])
    (hT : ∀ p ∈ tabs3 K, s₁.heap.get? p.2.1 = some { cls := .none, data := .fields #[] } ∧ PySem.W.CodeHd s₁.heap p.1 p.2.1)
    (hbm : ∃ (bm : Addr) (ob : Obj), mg "__builtins__" = some (.ref bm) ∧ bm ≠ builtinsNs ∧ s₁.heap.get? bm = some ob ∧ ob.cls = .type "module" ∧ ob.dict = some builtinsNs ∧ ob.data = .plain) (ha : s₁.heap.get? a = some { cls := .type "list", data := .seq vs.toArray }) (hi : PyProof.Rows.IntsAre vs ns) (hl : ns.length ≤ sizeLine) (hr : Room k callerA)
    (F : ∀ base : Heap, K.In base → base.Ns mainGlobals mg → (∀ p ∈ tabs3 K, LamX.TabB base mg p.1 p.2.1) → FnG P w K mg base (L2.CX P w) k fa fd [x] sp) (hbind : ∀ (s : Shared) (u : Value), BindsTo s fd ⟨[u], []⟩ [(x, u)])
    (hsp : ∀ H : Hp, LamX.Tabs (tabsOf K) H → (∀ b u, H b = some u → (∃ o, u = .frz o (.lst (ns.map V.int))) ∨ (b ∈ (tabsOf K).map (·.1) ∧ ∃ ps, u = .tbl ps)) → SqL K H a (ns.map V.int) → sp [.ref a] H (fun v _ => v = .bl true) fun _ _ _ => False) :
    codeAny (model P w) callerA (.call (.ref fa) ⟨[.ref a], []⟩) (fun r s' => r = .ok (.ret (.bool true)) ∧ OldK s₁.heap s'.heap ∧ s'.os = s₁.os ∧ PyProof.Rows.AllBare s'.gens) s₁ := by
  have rv := vals_ints hi
  have tab : ∀ {b : Addr}, b ∈ (tabsOf K).map (·.1) → K.lookup b = none ∧ s₁.heap.get? b = some { cls := .none, data := .fields #[] } := fun {b} hb => by
    obtain ⟨p, hp, e⟩ := List.mem_map.mp hb
    obtain ⟨p3, hp3, e3⟩ := List.mem_map.mp hp
    subst e3
    subst e
    exact ⟨tabs3_none K hp3, (hT p3 hp3).1⟩
  have hok : HOk P w (scriptHp K a vs ns) s₁.heap := fun b u e => by
    rcases scriptHp_some e with ⟨rfl, _, rfl⟩ | ⟨hb, rfl⟩
    · exact ⟨ha, by rw [List.length_map]; exact hl, vs, _, rv, ha⟩
    · exact (tab hb).2
  -- a namespace, a written thing is not the script
  have free : ∀ {b : Addr} {o : Obj}, s₁.heap.get? b = some o → ((∀ q n, o.data ≠ .seq q n) ∧ o.data ≠ .fields #[]) ∨ K.lookup b = some o → scriptHp K a vs ns b = none := fun {b o} e z => by
    cases q : scriptHp K a vs ns b with
    | none => rfl
    | some u =>
      rcases scriptHp_some q with ⟨rfl, kn, _⟩ | ⟨hb, _⟩
      · rcases z with z | z
        · rw [ha] at e; cases e; exact absurd rfl (z.1 _ _)
        · rw [kn] at z; cases z
      · rcases z with z | z
        · rw [(tab hb).2] at e; cases e; exact absurd rfl z.2
        · rw [(tab hb).1] at z; cases z
  have nsK : ∀ {b : Addr} {m : Str → Option Value}, s₁.heap.Ns b m → (hidT s₁.heap (scriptHp K a vs ns)).Ns b m := fun {b m} n => by
    obtain ⟨o, es, ep, e, d, r⟩ := n
    exact ⟨o, es, ep, hidT_get e (free e (.inl ⟨fun q n z => (by rw [d] at z; cases z), fun z => by rw [d] at z; cases z⟩)), d, r⟩
  have hKb : K.In (hidT s₁.heap (scriptHp K a vs ns)) := fun b o e => hidT_get (KX b o e) (free (KX b o e) (.inr e))
  have e0 : Env0 P w K mg (hidT s₁.heap (scriptHp K a vs ns)) callerA [] s₁ (scriptHp K a vs ns) := by
    refine ⟨rfl, ⟨hKb, nsK hns, ⟨mb, nsK hb, hbb⟩, ?_⟩, fun b o e => of_hidT e, Nat.le_of_eq (hidT_size _ _), trivial, fun b hb => ?_, hok, .of_eq hg⟩
    · obtain ⟨mc, h1, h2⟩ := hlim
      exact ⟨mc, nsK h1, h2⟩
    · cases (show b ∈ ([] : List Addr) from hb)
  have hS : SqL K (scriptHp K a vs ns) a (ns.map V.int) := by
    cases q : K.lookup a with
    | none => exact .inl (.inr ⟨_, if_pos ⟨rfl, q⟩⟩)
    | some o =>
      have e := KX a o q
      rw [ha] at e
      cases e
      exact .inr ⟨_, vs.toArray, _, q, rfl, rfl, rfl, by rw [List.size_toArray, hi.length]; exact hl, by simpa using rv⟩
  have TB : ∀ p ∈ tabs3 K, LamX.TabB (hidT s₁.heap (scriptHp K a vs ns)) mg p.1 p.2.1 := fun p hp => by
    obtain ⟨hTp, hC⟩ := hT p hp
    refine ⟨?_, ?_, fun z => ?_⟩
    · obtain ⟨o, us, file, tf, flags, tg, inF, text, tt, e1, r1, r2, r3, r4, r5, r6, r7, r8, hne⟩ := hC
      refine ⟨o, us, file, tf, flags, tg, inF, text, tt, hidT_get e1 (free e1 (.inl ⟨fun q n z => (by rw [r2] at z; cases z), fun z => ?_⟩)), r1, r2, r3, r4, r5, r6, r7, r8, hne⟩
      rw [r2] at z
      cases z
      simp at r3
    · obtain ⟨bm, ob, b1, b2, b3, b4, b5, b6⟩ := hbm
      have nG : bm ≠ mainGlobals := fun q => by
        obtain ⟨o, es, ep, e, hd, _⟩ := hns
        rw [q, e] at b3
        cases b3
        rw [hd] at b6
        cases b6
      have nP : bm ≠ p.2.1 := fun q => by
        rw [q, hTp] at b3
        cases b3
        cases b6
      exact ⟨bm, ob, b1, b2, nG, nP, hidT_get b3 (free b3 (.inl ⟨fun q n z => (by rw [b6] at z; cases z), fun z => by rw [b6] at z; cases z⟩)), b4, b5, b6⟩
    · obtain ⟨o, es, ep, e, hd, _⟩ := hns
      rw [z, hTp] at e
      cases e
      cases hd
  have hTab : LamX.Tabs (tabsOf K) (scriptHp K a vs ns) := fun p hp => by
    refine LamX.TabS.nil ?_
    have hb : p.1 ∈ (tabsOf K).map (·.1) := List.mem_map.mpr ⟨p, hp, rfl⟩
    have ne : ¬ (p.1 = a ∧ K.lookup a = none) := fun z => by
      have y := (tab hb).2
      rw [z.1, ha] at y
      have y' : Data.seq vs.toArray _ = Data.fields #[] := congrArg Obj.data (Option.some.inj y)
      cases y'
    unfold scriptHp
    rw [if_neg ne, if_pos hb]
  refine codeAny_mono ((F _ hKb (nsK hns) TB).go callerA [] s₁ (scriptHp K a vs ns) ⟨[.ref a], []⟩ [.ref a] [.ref a] _ _ ⟨hr, rfl⟩ e0 (hbind s₁ (.ref a)) (.cons rfl .nil)
    (hsp _ hTab (fun b u e => (scriptHp_some e).imp (fun z => ⟨_, z.2.2⟩) fun z => ⟨z.1, _, z.2⟩) hS)) fun r s' h => ?_
  have h : CR (L2.CX P w) [] P w (scriptHp K a vs ns) s₁ (fun v _ => v = .bl true) (fun _ _ _ => False) r s' := h
  cases r with
  | error e =>
    obtain ⟨_, _, _, _, _, _, _, _, _, _, _, _, z⟩ := (show L2.CX P w _ _ _ _ _ _ from h)
    exact (show False from z).elim
  | ok fl =>
    cases fl with
    | next => exact h.elim
    | brk => exact h.elim
    | cont => exact h.elim
    | ret u =>
      obtain ⟨v, H', os, bare, un, hok', r', q⟩ := h
      have q : v = .bl true := q
      subst q
      obtain rfl : u = Value.bool true := r'
      have nb : ∀ b, b ∉ frs ([] : List PySem.Env) := fun b z => by cases (show b ∈ ([] : List Addr) from z)
      have key : ∀ b o, b ∉ (tabsOf K).map (·.1) → s₁.heap.get? b = some o → s'.heap.get? b = some o := fun b o hb e => by
        cases q : scriptHp K a vs ns b with
        | none => exact un.keep b o e q (nb b) (fun z => by cases z)
        | some u =>
          rcases scriptHp_some q with ⟨rfl, _, rfl⟩ | ⟨y, _⟩
          · have e2 := (hok' b _ (un.frzs b _ _ q)).1
            rw [ha] at e
            cases e
            exact e2
          · exact absurd y hb
      have grown : ∀ p ∈ tabs3 K, ∃ more : Array Value, s'.heap.get? p.2.1 = some { cls := .none, data := .fields more } := fun p hp => by
        obtain ⟨ps, e1, e2, e3⟩ := hTab p.2 (List.mem_map.mpr ⟨p, hp, rfl⟩)
        obtain ⟨more, z⟩ := un.tbls p.2.1 ps e1
        exact ⟨_, hok' p.2.1 _ z⟩
      have mem3 : ∀ b, b ∈ (tabsOf K).map (·.1) → ∃ p ∈ tabs3 K, p.2.1 = b := fun b hb => by
        obtain ⟨p, hp, e⟩ := List.mem_map.mp hb
        obtain ⟨p3, hp3, e3⟩ := List.mem_map.mp hp
        subst e3
        exact ⟨p3, hp3, e⟩
      refine ⟨rfl, ⟨fun b o e => ?_, fun b o e => ?_⟩, os, bare⟩
      · by_cases hb : b ∈ (tabsOf K).map (·.1)
        · obtain ⟨p, hp, ep⟩ := mem3 b hb
          obtain ⟨more, hm⟩ := grown p hp
          rw [← ep] at e ⊢
          rw [(hT p hp).1] at e
          cases e
          exact .inr (.inl ⟨((hT p hp).2.tab (hT p hp).1).isCodeTable, rfl, #[], more, rfl, by rw [Array.empty_append]; exact hm⟩)
        · exact .inl (key b o hb e)
      · by_cases hb : b ∈ (tabsOf K).map (·.1)
        · obtain ⟨p, hp, ep⟩ := mem3 b hb
          obtain ⟨more, hm⟩ := grown p hp
          rw [← ep]
          exact ⟨_, hm⟩
        · exact ⟨o, key b o hb e⟩
theorem walk_G {l : PySem.W.OpenLaw} {n k : Nat} {q : Program} {loose : List Str} {XP : (Str → Option Value) → Heap → Prop} {YP : World → Heap → Prop} {d : DefRec} {x : Str}
    (hn : l.most = some n) (hn2 : n ≤ sizeLine) (hdf : d.params.defaults = []) (hr : Room k callerA)
    (F : ∀ (w : World) (mg : Str → Option Value) (fa : Addr) (h : Heap), YP w h → h.Ns mainGlobals mg → mg d.name = some (.ref fa) →
      ∃ (K : PySem.W.Frag) (fd : FuncData) (sp : Sp), K.In h ∧ (∀ (s : Shared) (u : Value), BindsTo s fd ⟨[u], []⟩ [(x, u)]) ∧
        (∀ (H : Hp) (a : Addr) (ns : List Int), ns.length ≤ n → LamX.Tabs (tabsOf K) H → (∀ b u, H b = some u → (∃ o, u = .frz o (.lst (ns.map V.int))) ∨ (b ∈ (tabsOf K).map (·.1) ∧ ∃ ps, u = .tbl ps)) → SqL K H a (ns.map V.int) → sp [.ref a] H (fun v _ => v = .bl true) fun _ _ _ => False) ∧
        (∀ p ∈ tabs3 K, h.get? p.2.1 = some { cls := .none, data := .fields #[] } ∧ PySem.W.CodeHd h p.1 p.2.1) ∧
        ∀ base : Heap, K.In base → base.Ns mainGlobals mg → (∀ p ∈ tabs3 K, LamX.TabB base mg p.1 p.2.1) → FnG l.prog w K mg base (L2.CX l.prog w) k fa fd [x] sp) :
    PySem.W.WalkO q loose XP YP l.row.toRowW d [] (fun f vs => PySem.call f vs) := by
  refine Att.attach_call hn hdf fun w s₀ s₁ mg mb fa o pm cd doc a vs ns G Y ho hd hcd hmg hobj hints hlen hg => ?_
  obtain ⟨K, fd, sp, KX, hb, hsp, hT, hF⟩ := F w mg fa _ Y G.T.g hmg
  exact law_callG KX G.T.g G.T.b G.T.builtins G.T.nolimit hg hT G.T.bmain hobj hints (Nat.le_trans hlen hn2) hr hF hb fun H hTb hO hS => hsp H a ns hlen hTb hO hS
/-- the law's promise, by what it computes -/
theorem sp_law {F : Fn} (h : ∀ ns : List Int, ns.length ≤ 63 → ∃ h', F [.scr (ns.map D.int)] [] = .ok (.bl true) h') (H : Hp) (a : Addr) (ns : List Int) (hl : ns.length ≤ 63) (hT : LamX.Tabs (tabsOf K) H)
    (hO : ∀ b u, H b = some u → (∃ o, u = .frz o (.lst (ns.map V.int))) ∨ (b ∈ (tabsOf K).map (·.1) ∧ ∃ ps, u = .tbl ps)) (hS : SqL K H a (ns.map V.int)) :
    spD K 1 F [.ref a] H (fun v _ => v = .bl true) fun _ _ _ => False := by
  obtain ⟨h', e⟩ := h ns hl
  have hP : ∀ b u, (fun b => match H b with
      | some (.tbl _) => none
      | o => o : Hp) b = some u → H b = some u := fun b u z => by
    dsimp only at z
    split at z
    · cases z
    · exact z
  have hN : ∀ b u, (fun b => match H b with
      | some (.tbl _) => none
      | o => o : Hp) b = some u → nT u = true := fun b u z => by
    dsimp only at z
    split at z
    · cases z
    · rename_i q
      cases u with
      | tbl ps => exact absurd z (q ps)
      | _ => rfl
  have hS' : SqL K (fun b => match H b with
      | some (.tbl _) => none
      | o => o) a (ns.map V.int) := by
    rcases hS with (z | ⟨o, z⟩) | z
    · exact .inl (.inl (by dsimp only; rw [z]))
    · exact .inl (.inr ⟨o, by dsimp only; rw [z]⟩)
    · exact .inr z
  refine ⟨rfl, fun _ => none, fun b => match H b with
      | some (.tbl _) => none
      | o => o, [], [.scr (ns.map D.int)], ⟨fun b u z _ => hP b u z, fun b u z => .inl (hP b _ z), fun n a e => (by cases e), fun n m a e => (by cases e), fun n o e => (by simp at e), fun _ _ => rfl, hT, hN⟩, .cons (.scr hS' (RepL.ints ns)) .nil, ?_⟩
  rw [e]
  intro ρ' P' H' v t s w
  cases w
  rfl
end
end Ab

namespace Ab
open PySem PySem.Spec L2
/-! ### plain data -/
mutual
def toPy0 : D → Option PyData
  | .non => some .none
  | .bl b => some (.bool b)
  | .int i => some (.int i)
  | .str x => some (.str x)
  | .tup ds => (toPyL ds).map PyData.tuple
  | .lst ds => (toPyL ds).map PyData.list
  | .scr ds => (toPyL ds).map PyData.list
  | _ => none
def toPyL : List D → Option (List PyData)
  | [] => some []
  | d :: ds => match toPy0 d, toPyL ds with
    | some p, some ps => some (p :: ps)
    | _, _ => none
end
def toPy (h : AH) (d : D) : Option PyData := match d with
  | .loc n => (match h[n]? with
    | some (.lst ds) => (toPyL ds).map PyData.list
    | _ => none)
  | d => toPy0 d
section
variable {K : PySem.W.Frag} {E : XK} {ρ ρ' ρ1 : Ro} {P H P' H' P1 H1 : Hp}
mutual
theorem dp_of0 (sub : Sub P H) : ∀ {d : D} {v : V} {p : PyData}, Rep K ρ P d v → toPy0 d = some p → Dp K H v p
  | _, _, _, .non, e => by cases e; exact .non
  | _, _, _, .bl b, e => by cases e; exact .bl b
  | _, _, _, .int i, e => by cases e; exact .int i
  | _, _, _, .str x, e => by cases e; exact .str x
  | _, _, _, .glo x, e => by cases e
  | _, _, _, .ty x, e => by cases e
  | _, _, _, .loc x, e => by cases e
  | _, _, p, .tup (ds := ds) q r, e => by
    have e : (toPyL ds).map PyData.tuple = some p := e
    cases z : toPyL ds with
    | none => rw [z] at e; cases e
    | some ps => rw [z] at e; cases e; exact .tup (sqT_tk sub q) (dp_ofL sub r z)
  | _, _, p, .lst (ds := ds) q r, e => by
    have e : (toPyL ds).map PyData.list = some p := e
    cases z : toPyL ds with
    | none => rw [z] at e; cases e
    | some ps => rw [z] at e; cases e; exact .lst (.of (sub _ _ q rfl)) (dp_ofL sub r z)
  | _, _, p, .scr (ds := ds) q r, e => by
    have e : (toPyL ds).map PyData.list = some p := e
    cases z : toPyL ds with
    | none => rw [z] at e; cases e
    | some ps => rw [z] at e; cases e; exact .lst (sqL_s sub q) (dp_ofL sub r z)
theorem dp_ofL (sub : Sub P H) : ∀ {ds : List D} {vs : List V} {ps : List PyData}, RepL K ρ P ds vs → toPyL ds = some ps → DpAll K H vs ps
  | _, _, _, .nil, e => by cases e; exact .nil
  | _, _, ps, .cons (d := d) (ds := ds) a b, e => by
    have e : (match toPy0 d, toPyL ds with
      | some p, some ps => some (p :: ps)
      | _, _ => none) = some ps := e
    cases z : toPy0 d with
    | none => rw [z] at e; cases e
    | some p =>
      cases y : toPyL ds with
      | none => rw [z, y] at e; cases e
      | some qs => rw [z, y] at e; cases e; exact .cons (dp_of0 sub a z) (dp_ofL sub b y)
end
theorem dp_of {h : AH} {d : D} {v : V} {p : PyData} (s : SR K ρ P H h) (w : Rep K ρ P d v) (e : toPy h d = some p) : Dp K H v p := by
  cases w with
  | loc e1 =>
    obtain ⟨o, eo, r⟩ := s.here e1
    simp only [toPy, eo] at e
    cases o with
    | lst ds =>
      obtain ⟨vs, ev, rv⟩ := r
      simp only at e
      cases z : toPyL ds with
      | none => rw [z] at e; cases e
      | some ps => rw [z] at e; cases e; exact .lst (.of ev) (dp_ofL s.sub rv z)
    | dct kvs => cases e
    | ins c fs => cases e
    | ndt kvs => cases e
  | non => exact dp_of0 (ρ := ρ) s.sub (.non) e
  | bl b => exact dp_of0 (ρ := ρ) s.sub (.bl b) e
  | int i => exact dp_of0 (ρ := ρ) s.sub (.int i) e
  | str x => exact dp_of0 (ρ := ρ) s.sub (.str x) e
  | glo x => exact dp_of0 (ρ := ρ) s.sub (.glo x) e
  | obj _ _ _ _ => cases e
  | dic _ _ _ _ => cases e
  | nd _ _ _ _ _ => cases e
  | exv _ _ _ _ _ => cases e
  | fn _ => cases e
  | dk _ => cases e
  | ty x => exact dp_of0 (ρ := ρ) s.sub (.ty x) e
  | tup q r => exact dp_of0 (ρ := ρ) s.sub (.tup q r) e
  | lst q r => exact dp_of0 (ρ := ρ) s.sub (.lst q r) e
  | scr q r => exact dp_of0 (ρ := ρ) s.sub (.scr q r) e
/-! ### operators -/
def lstD (d : D) (h : AH) : Option (List D) := match d with
  | .lst ds => some ds
  | .loc n => match h[n]? with
    | some (.lst ds) => some ds
    | _ => none
  | _ => none
theorem lstD_ok {h : AH} {d : D} {v : V} {ds : List D} (s : SR K ρ P H h) (w : Rep K ρ P d v) (e : lstD d h = some ds) : ∃ a vs, v = .ref a ∧ H a = some (.lst vs) ∧ RepL K ρ P ds vs := by
  cases w with
  | lst p q => cases e; exact ⟨_, _, rfl, s.sub _ _ p rfl, q⟩
  | loc e1 =>
    obtain ⟨o, e2, r⟩ := s.here e1
    simp only [lstD, e2] at e
    cases o with
    | lst es => cases e; obtain ⟨vs, e3, q⟩ := r; exact ⟨_, vs, rfl, e3, q⟩
    | dct kvs => cases e
    | ins c fs => cases e
    | ndt kvs => cases e
  | _ => cases e
def rAddU (K : PySem.W.Frag) : R2 := fun x y H Q => rI0 (fun i j => .int (i + j)) x y H Q ∨ (∃ i j, x = .str i ∧ y = .str j ∧ i.length + j.length ≤ sizeLine ∧ Q (.str (i ++ j)) H) ∨ rCatA K x y H Q
theorem op_addU {X : Cx} : OpR X (binaryOp .Add) (rAddU X.K) := op_add.or (op_add_str.or op_catA)
def addD : D → D → AH → R D
  | .int i, .int j, h => .ok (.int (i + j)) h
  | .str i, .str j, h => if i.length + j.length ≤ sizeLine then .ok (.str (i ++ j)) h else .bad
  | .tup xs, .tup ys, h => if xs.length + ys.length ≤ sizeLine then .ok (.tup (xs ++ ys)) h else .bad
  | _, _, _ => .bad
theorem os_add : OpS K E (rAddU K) addD := fun ρ P H h x y dx dy s wx wy Q p => by
  cases wx with
  | int i =>
    cases wy with
    | int j => exact .inl ⟨i, j, rfl, rfl, Post.here p s (.int _)⟩
    | _ => exact p.elim
  | str i =>
    cases wy with
    | str j =>
      have p : Post K (RV K) E ρ P H Q (if i.length + j.length ≤ sizeLine then .ok (.str (i ++ j)) h else .bad) := p
      split at p
      · rename_i hl; exact .inr (.inl ⟨i, j, rfl, rfl, hl, Post.here p s (.str _)⟩)
      · exact p.elim
    | _ => exact p.elim
  | tup q r =>
    cases wy with
    | tup q' r' =>
      rename_i a xs ds b ys es
      have p : Post K (RV K) E ρ P H Q (if ds.length + es.length ≤ sizeLine then .ok (.tup (ds ++ es)) h else .bad) := p
      split at p
      · rename_i hl
        refine .inr (.inr ⟨a, b, xs, ys, rfl, rfl, sqT_tk s.sub q, sqT_tk s.sub q', by rw [r.length, r'.length]; exact hl, fun e => ?_, fun _ e => ?_, fun _ _ => p.newT s (r.append r')⟩)
        · subst e; cases r; exact Post.here p s (.tup q' r')
        · subst e; cases r'; rw [List.append_nil] at p; exact Post.here p s (.tup q r)
      · exact p.elim
    | _ => exact p.elim
  | _ => exact p.elim
/-- two lists: a new one -/
def catD : D → D → AH → R (List D) := fun a b h => match lstD a h, lstD b h with
  | some xs, some ys => if xs.length + ys.length ≤ sizeLine then .ok (xs ++ ys) h else .bad
  | _, _ => .bad
def mBinF (f : D → D → AH → R (List D)) (ma mb : M D) : M (List D) := fun env h => (ma env h).bind fun a h1 => (mb env h1).bind fun b h2 => f a b h2
theorem sf_cat {ta tb : TE} {ma mb : M D} (ha : Sd K (RV K) E ta ma) (hb : Sd K (RV K) E tb mb) : SdF K E (tOp rCat ta tb) (mBinF catD ma mb) := fun ρ P σ H env h s re Q p =>
  ha ρ P σ H env h s re _ (PostF.bind p fun a h1 ρ1 P1 H1 v t1 s1 w1 p1 =>
    hb ρ1 P1 σ H1 env h1 s1 (re.step t1) _ (PostF.bind p1 fun b h2 ρ2 P2 H2 u t2 s2 w2 p2 => by
      unfold catD at p2
      cases ea : lstD a h2 with
      | none => rw [ea] at p2; exact p2.elim
      | some xs =>
        cases eb : lstD b h2 with
        | none => rw [ea, eb] at p2; exact p2.elim
        | some ys =>
          rw [ea, eb] at p2
          dsimp only at p2
          obtain ⟨a1, vs, rfl, q1, r1⟩ := lstD_ok s2 (w1.step t2) ea
          obtain ⟨b1, us, rfl, q2, r2⟩ := lstD_ok s2 w2 eb
          split at p2
          · rename_i hl
            exact ⟨a1, b1, vs, us, rfl, rfl, q1, q2, by rw [r1.length, r2.length]; exact hl, p2.newL s2 (r1.append r2)⟩
          · exact p2.elim))
/-- list * int -/
def repD : D → D → AH → R (List D) := fun a b h => match lstD a h, b with
  | some xs, .int k => if -(2 ^ 63) ≤ k ∧ k < 2 ^ 63 ∧ xs.length * k.toNat ≤ sizeLine then .ok (List.replicate k.toNat xs).flatten h else .bad
  | _, _ => .bad
theorem RepL.rep {ds : List D} {vs : List V} (r : RepL K ρ P ds vs) : ∀ k : Nat, RepL K ρ P (List.replicate k ds).flatten (List.replicate k vs).flatten
  | 0 => .nil
  | k + 1 => by
    rw [List.replicate_succ, List.replicate_succ, List.flatten_cons, List.flatten_cons]
    exact r.append (RepL.rep r k)
def subD : D → D → AH → R D
  | .int i, .int j, h => .ok (.int (i - j)) h
  | _, _, _ => .bad
@[irreducible] instance insCMul (i j : Int) : Decidable (CMul i j) := inferInstanceAs (Decidable ((-(2 ^ 64) < i ∧ i < 2 ^ 64) ∨ (-(2 ^ 64) < j ∧ j < 2 ^ 64)))
@[irreducible] instance insCMulW (i j : Int) : Decidable (CMulW i j) := inferInstanceAs (Decidable (_ < _))
def rMulU (K : PySem.W.Frag) : R2 := fun x y H Q => rI CMul (fun i j => .int (i * j)) x y H Q ∨ rI CMulW (fun i j => .int (i * j)) x y H Q ∨ rRepT K x y H Q
theorem op_mulU {X : Cx} : OpR X (binaryOp .Mult) (rMulU X.K) := op_mul.or (op_mulW.or op_repT)
def mulD : D → D → AH → R D
  | .int i, .int j, h => if CMul i j ∨ CMulW i j then .ok (.int (i * j)) h else .bad
  | .tup xs, .int k, h => if xs ≠ [] ∧ 2 ≤ k ∧ k ≤ 1000 ∧ xs.length ≤ 1000 then .ok (.tup (List.replicate k.toNat xs).flatten) h else .bad
  | _, _, _ => .bad
theorem os_mul : OpS K E (rMulU K) mulD := fun ρ P H h x y dx dy s wx wy Q p => by
  cases wx with
  | int i =>
    cases wy with
    | int j =>
      have p : Post K (RV K) E ρ P H Q (if CMul i j ∨ CMulW i j then .ok (.int (i * j)) h else .bad) := p
      split at p
      · rename_i hc
        rcases hc with hc | hc
        · exact .inl ⟨i, j, rfl, rfl, hc, Post.here p s (.int _)⟩
        · exact .inr (.inl ⟨i, j, rfl, rfl, hc, Post.here p s (.int _)⟩)
      · exact p.elim
    | _ => exact p.elim
  | tup q r =>
    rename_i a xs ds
    cases wy with
    | int k =>
      have p : Post K (RV K) E ρ P H Q (if ds ≠ [] ∧ 2 ≤ k ∧ k ≤ 1000 ∧ ds.length ≤ 1000 then .ok (.tup (List.replicate k.toNat ds).flatten) h else .bad) := p
      split at p
      · rename_i hc
        refine .inr (.inr ⟨a, k, xs, rfl, rfl, sqT_tk s.sub q, fun e => ?_, hc.2.1, hc.2.2.1, by rw [r.length]; exact hc.2.2.2, p.newT s (r.rep _)⟩)
        subst e; cases r; exact hc.1 rfl
      · exact p.elim
    | _ => exact p.elim
  | _ => exact p.elim
@[irreducible] instance insCDivW (i j : Int) : Decidable (CDivW i j) := inferInstanceAs (Decidable (_ ∧ _))
@[irreducible] instance insCDiv (i j : Int) : Decidable (CDiv i j) := inferInstanceAs (Decidable (_ ∧ _))
@[irreducible] instance insCPow (i j : Int) : Decidable (CPow i j) := inferInstanceAs (Decidable (_ ∧ _))
def rDivU : R2 := fun x y H Q => rI CDiv (fun i j => .int (i / j)) x y H Q ∨ rI CDivW (fun i j => .int (i / j)) x y H Q
theorem op_divU {X : Cx} : OpR X (binaryOp .FloorDiv) rDivU := op_fdiv.or op_fdivW
def divD : D → D → AH → R D
  | .int i, .int j, h => if CDiv i j ∨ CDivW i j then .ok (.int (i / j)) h else .bad
  | _, _, _ => .bad
theorem os_div : OpS K E rDivU divD := fun ρ P H h x y dx dy s wx wy Q p => by
  cases wx with
  | int i =>
    cases wy with
    | int j =>
      have p : Post K (RV K) E ρ P H Q (if CDiv i j ∨ CDivW i j then .ok (.int (i / j)) h else .bad) := p
      split at p
      · rename_i hc
        rcases hc with hc | hc
        · exact .inl ⟨i, j, rfl, rfl, hc, Post.here p s (.int _)⟩
        · exact .inr ⟨i, j, rfl, rfl, hc, Post.here p s (.int _)⟩
      · exact p.elim
    | _ => exact p.elim
  | _ => exact p.elim
def modD : D → D → AH → R D
  | .int i, .int j, h => if 0 < j then .ok (.int (i % j)) h else .bad
  | _, _, _ => .bad
theorem os_mod : OpS K E (rI (fun _ j => 0 < j) fun i j => .int (i % j)) modD := fun ρ P H h x y dx dy s wx wy Q p => by
  cases wx with
  | int i =>
    cases wy with
    | int j =>
      have p : Post K (RV K) E ρ P H Q (if 0 < j then .ok (.int (i % j)) h else .bad) := p
      split at p
      · rename_i hc; exact ⟨i, j, rfl, rfl, hc, Post.here p s (.int _)⟩
      · exact p.elim
    | _ => exact p.elim
  | _ => exact p.elim
def powD : D → D → AH → R D
  | .int i, .int j, h => if CPow i j then .ok (.int (i ^ j.toNat)) h else .bad
  | _, _, _ => .bad
theorem os_pow : OpS K E (rI CPow fun i j => .int (i ^ j.toNat)) powD := fun ρ P H h x y dx dy s wx wy Q p => by
  cases wx with
  | int i =>
    cases wy with
    | int j =>
      have p : Post K (RV K) E ρ P H Q (if CPow i j then .ok (.int (i ^ j.toNat)) h else .bad) := p
      split at p
      · rename_i hc; exact ⟨i, j, rfl, rfl, hc, Post.here p s (.int _)⟩
      · exact p.elim
    | _ => exact p.elim
  | _ => exact p.elim
/-- comparisons of ints -/
def cmpD (f : Int → Int → Bool) : D → D → AH → R D
  | .int i, .int j, h => .ok (.bl (f i j)) h
  | _, _, _ => .bad
theorem os_cmp {f : Int → Int → Bool} : OpS K E (rI0 fun i j => .bl (f i j)) (cmpD f) := fun ρ P H h x y dx dy s wx wy Q p => by
  cases wx with
  | int i =>
    cases wy with
    | int j => exact ⟨i, j, rfl, rfl, Post.here p s (.bl _)⟩
    | _ => exact p.elim
  | _ => exact p.elim
/-- -x -/
def negD : D → AH → R D
  | .int i, h => .ok (.int (-i)) h
  | _, _ => .bad
theorem us_neg : UnS K E (rU fun i => .int (-i)) negD := fun ρ P H h x dx s wx Q p => by
  cases wx with
  | int i => exact ⟨i, rfl, Post.here p s (.int _)⟩
  | _ => exact p.elim
/-! == of data -/
def rEqU (K : PySem.W.Frag) : R2 := fun x y H Q => rEq x y H Q ∨ rEqD K x y H Q
def rNeU (K : PySem.W.Frag) : R2 := fun x y H Q => rNe x y H Q ∨ rNeD K x y H Q
theorem op_eqU {X : Cx} (hu : X.A.units + 64 < cLine) : OpR X (compareOp .Eq) (rEqU X.K) := op_eq.or (op_eqD hu)
theorem op_neU {X : Cx} (hu : X.A.units + 64 < cLine) : OpR X (compareOp .NotEq) (rNeU X.K) := op_ne.or (op_neD hu)
def eqB (a b : D) (h : AH) : Option Bool := match a, b with
  | .int i, .int j => some (decide (i = j))
  | .bl i, .bl j => some (decide (i = j))
  | .str i, .str j => some (decide (i = j))
  | a, b => match toPy h a, toPy h b with
    | some p, some q => if SeqAt.shaped p = true ∧ SeqAt.shaped q = true then some (PyData.eqv p q) else none
    | _, _ => none
theorem eqB_ok {h : AH} {a b : D} {x y : V} {k : Bool} (s : SR K ρ P H h) (wx : Rep K ρ P a x) (wy : Rep K ρ P b y) (e : eqB a b h = some k) :
    (scal x y = true ∧ decide (x = y) = k) ∨ ∃ p q, Dp K H x p ∧ Dp K H y q ∧ SeqAt.shaped p = true ∧ SeqAt.shaped q = true ∧ PyData.eqv p q = k := by
  have gen : (match toPy h a, toPy h b with
    | some p, some q => if SeqAt.shaped p = true ∧ SeqAt.shaped q = true then some (PyData.eqv p q) else none
    | _, _ => none) = some k → ∃ p q, Dp K H x p ∧ Dp K H y q ∧ SeqAt.shaped p = true ∧ SeqAt.shaped q = true ∧ PyData.eqv p q = k := fun e => by
    cases ea : toPy h a with
    | none => rw [ea] at e; cases e
    | some p =>
      cases eb : toPy h b with
      | none => rw [ea, eb] at e; cases e
      | some q =>
        rw [ea, eb] at e
        dsimp only at e
        split at e
        · rename_i hh; cases e; exact ⟨p, q, dp_of s wx ea, dp_of s wy eb, hh.1, hh.2, rfl⟩
        · cases e
  unfold eqB at e
  split at e
  · cases wx; cases wy; cases e; exact .inl ⟨rfl, by rw [dec_int]; rfl⟩
  · cases wx; cases wy; cases e; exact .inl ⟨rfl, by rw [dec_bl]; rename_i i j; cases i <;> cases j <;> rfl⟩
  · cases wx; cases wy; cases e; exact .inl ⟨rfl, by rename_i i j; by_cases z : i = j; · subst z; simp
                                                     · rw [decide_eq_false z, decide_eq_false fun q => z (V.str.inj q)]⟩
  · exact .inr (gen e)
def eqD (a b : D) (h : AH) : R D := match eqB a b h with
  | some k => .ok (.bl k) h
  | none => .bad
def neD (a b : D) (h : AH) : R D := match eqB a b h with
  | some k => .ok (.bl (!k)) h
  | none => .bad
theorem os_eq : OpS K E (rEqU K) eqD := fun ρ P H h x y dx dy s wx wy Q p => by
  unfold eqD at p
  cases e : eqB dx dy h with
  | none => rw [e] at p; exact p.elim
  | some k =>
    rw [e] at p
    have q := Post.here p s (.bl k)
    rcases eqB_ok s wx wy e with ⟨h1, h2⟩ | ⟨a, b, h1, h2, h3, h4, h5⟩
    · exact .inl ⟨h1, by rw [h2]; exact q⟩
    · exact .inr ⟨a, b, h1, h2, h3, h4, by rw [h5]; exact q⟩
theorem os_ne : OpS K E (rNeU K) neD := fun ρ P H h x y dx dy s wx wy Q p => by
  unfold neD at p
  cases e : eqB dx dy h with
  | none => rw [e] at p; exact p.elim
  | some k =>
    rw [e] at p
    have q := Post.here p s (.bl !k)
    rcases eqB_ok s wx wy e with ⟨h1, h2⟩ | ⟨a, b, h1, h2, h3, h4, h5⟩
    · exact .inl ⟨h1, by rw [h2]; exact q⟩
    · exact .inr ⟨a, b, h1, h2, h3, h4, by rw [h5]; exact q⟩
/-! in -/
def rInG (K : PySem.W.Frag) (neg : Bool) : R2 := fun x y H Q => ∃ d ds, Dp K H x d ∧ (Dp K H y (.list ds) ∨ Dp K H y (.tuple ds)) ∧ SeqAt.shaped d = true ∧ PyData.canLayAll0 ds = true ∧ Q (.bl (if neg then !ds.any (fun z => PyData.eqv z d) else ds.any fun z => PyData.eqv z d)) H
theorem room_in {X : Cx} {d : PyData} {ds : List PyData} (sd : SeqAt.shaped d = true) (hu : X.A.units + 65 < cLine) : X.A.units + 1 + min (PyData.depthAll ds) d.depth < cLine := by
  have h1 := SeqAt.depth_of_shaped sd
  have h2 : min (PyData.depthAll ds) d.depth ≤ d.depth := Nat.min_le_right _ _
  omega
theorem op_inG {X : Cx} (hu : X.A.units + 65 < cLine) : OpR X (compareOp .In) (rInG X.K false) := by
  intro pins s σ H x y v u Q I rx ry h
  obtain ⟨d, ds, hd, he, sd, se, q⟩ := h
  obtain ⟨as, r1⟩ := Dp.reads I d x v hd rx
  have hr := room_in (X := X) (ds := ds) sd hu
  rcases he with he | he
  · obtain ⟨bs, r2⟩ := Dp.reads I _ y u he ry
    exact SeqAt.in_list_reads r2 r1 se (SeqAt.canLay_of_shaped sd) hr ⟨.bl _, H, I, rfl, q⟩
  · obtain ⟨bs, r2⟩ := Dp.reads I _ y u he ry
    exact SeqAt.in_tuple_reads r2 r1 se (SeqAt.canLay_of_shaped sd) hr ⟨.bl _, H, I, rfl, q⟩
def inB (a b : D) (h : AH) : Option Bool := match toPy h a, toPy h b with
  | some p, some (.list qs) => if SeqAt.shaped p = true ∧ PyData.canLayAll0 qs = true then some (qs.any fun z => PyData.eqv z p) else none
  | some p, some (.tuple qs) => if SeqAt.shaped p = true ∧ PyData.canLayAll0 qs = true then some (qs.any fun z => PyData.eqv z p) else none
  | _, _ => none
def inD0 (neg : Bool) (a b : D) (h : AH) : R D := match inB a b h with
  | some k => .ok (.bl (if neg then !k else k)) h
  | none => .bad
def inD (neg : Bool) (a b : D) (h : AH) : R D := match a, b with
  | .str x, .str z => (match x.cps.toList with
    | [c] => .ok (.bl (if neg then !decide (c ∈ z.cps.toList) else decide (c ∈ z.cps.toList))) h
    | _ => .bad)
  | a, b => inD0 neg a b h
theorem os_in0 {neg : Bool} : OpS K E (rInG K neg) (inD0 neg) := fun ρ P H h x y dx dy s wx wy Q p => by
  unfold inD0 at p
  cases e : inB dx dy h with
  | none => rw [e] at p; exact p.elim
  | some k =>
    rw [e] at p
    have q := Post.here p s (.bl _)
    unfold inB at e
    cases ea : toPy h dx with
    | none => rw [ea] at e; cases e
    | some a =>
      cases eb : toPy h dy with
      | none => rw [ea, eb] at e; cases e
      | some b =>
        rw [ea, eb] at e
        have hb := dp_of s wy eb
        have ha := dp_of s wx ea
        cases b with
        | list qs =>
          dsimp only at e
          split at e
          · rename_i hh; cases e; exact ⟨a, qs, ha, .inl hb, hh.1, hh.2, q⟩
          · cases e
        | tuple qs =>
          dsimp only at e
          split at e
          · rename_i hh; cases e; exact ⟨a, qs, ha, .inr hb, hh.1, hh.2, q⟩
          · cases e
        | _ => cases e
def rInS1 (neg : Bool) : R2 := fun x y H Q => ∃ (c : Nat) (z : Str), x = .str ⟨#[c]⟩ ∧ y = .str z ∧ Q (.bl (if neg then !decide (c ∈ z.cps.toList) else decide (c ∈ z.cps.toList))) H
def rInU (K : PySem.W.Frag) (neg : Bool) : R2 := fun x y H Q => rInG K neg x y H Q ∨ rInS1 neg x y H Q
theorem op_inU {X : Cx} (hu : X.A.units + 65 < cLine) : OpR X (compareOp .In) (rInU X.K false) := (op_inG hu).or op_in_sign
theorem os_in {neg : Bool} : OpS K E (rInU K neg) (inD neg) := fun ρ P H h x y dx dy s wx wy Q p => by
  unfold inD at p
  split at p
  · rename_i z1 z2
    cases wx
    cases wy
    split at p
    · rename_i c ec
      refine .inr ⟨c, z2, ?_, rfl, Post.here p s (.bl _)⟩
      have : z1.cps = #[c] := by
        have := congrArg List.toArray ec
        simpa using this
      cases z1
      cases this
      rfl
    · exact p.elim
  · exact .inl (os_in0 ρ P H h x y dx dy s wx wy Q p)

/-! is None -/
def isND (neg : Bool) (a b : D) (h : AH) : R D := match b with
  | .non => .ok (.bl (match a with
    | .non => !neg
    | _ => neg)) h
  | _ => .bad
/-! xs[i] -/
def ixD (a b : D) (h : AH) : R D := match a, b with
  | .str z, .int i => if z.length ≤ sizeLine then (match atI z.cps.toList i with
    | some c => .ok (.str ⟨#[c]⟩) h
    | none => .bad) else .bad
  | .tup ds, .int i => (match atI ds i with
    | some d => .ok d h
    | none => .bad)
  | a, .int i => (match seqD a h with
    | some ds => (match atI ds i with
      | some d => .ok d h
      | none => .bad)
    | none => .bad)
  | _, _ => .bad
theorem RepL.atI {ds : List D} {vs : List V} {i : Int} {d : D} (r : RepL K ρ P ds vs) (e : atI ds i = some d) : ∃ v, L2.atI vs i = some v ∧ Rep K ρ P d v := by
  have hl := r.length
  unfold L2.atI at e ⊢
  rw [hl]
  cases q : ixN ds.length i with
  | none => rw [q] at e; cases e
  | some j =>
    rw [q] at e
    exact r.get e
theorem os_ix : OpS K E (rIx K) ixD := fun ρ P H h x y dx dy s wx wy Q p => by
  have sq : ∀ {ds : List D} {i : Int}, dy = .int i → seqD dx h = some ds → Post K (RV K) E ρ P H Q (match atI ds i with
      | some d => .ok d h
      | none => .bad) → rIx K x y H Q := fun {ds i} ey es pp => by
    subst ey
    cases wy
    cases e : L2.atI ds i with
    | none => rw [e] at pp; exact pp.elim
    | some d =>
      rw [e] at pp
      obtain ⟨a, vs, rfl, q, r⟩ := seqD_sq s wx es
      obtain ⟨v, e2, rv⟩ := r.atI e
      exact .inl ⟨a, vs, i, v, rfl, rfl, q, e2, Post.here pp s rv⟩
  cases wy with
  | int i =>
    cases wx with
    | str z =>
      have p : Post K (RV K) E ρ P H Q (if z.length ≤ sizeLine then (match L2.atI z.cps.toList i with
        | some c => .ok (.str ⟨#[c]⟩) h
        | none => .bad) else .bad) := p
      split at p
      · rename_i hl
        cases e : L2.atI z.cps.toList i with
        | none => rw [e] at p; exact p.elim
        | some c =>
          rw [e] at p
          exact .inr (.inr ⟨z, i, c, rfl, rfl, hl, e, Post.here p s (.str _)⟩)
      · exact p.elim
    | tup q r =>
      rename_i a vs ds
      have p : Post K (RV K) E ρ P H Q (match L2.atI ds i with
        | some d => .ok d h
        | none => .bad) := p
      cases e : L2.atI ds i with
      | none => rw [e] at p; exact p.elim
      | some d =>
        rw [e] at p
        obtain ⟨v, e2, rv⟩ := r.atI e
        exact .inr (.inl ⟨a, vs, i, v, rfl, rfl, sqT_tk s.sub q, e2, Post.here p s rv⟩)
    | lst q r => exact sq rfl rfl p
    | scr q r => exact sq rfl rfl p
    | loc e =>
      rename_i n a
      have p : Post K (RV K) E ρ P H Q (match seqD (.loc n) h with
        | some ds => (match L2.atI ds i with
          | some d => .ok d h
          | none => .bad)
        | none => .bad) := p
      cases q : seqD (.loc n) h with
      | none => rw [q] at p; exact p.elim
      | some ds => rw [q] at p; exact sq rfl q p
    | _ => exact p.elim
  | _ => cases wx <;> exact p.elim
end
end Ab

namespace Ab
open PySem PySem.Spec L2
section
variable {K : PySem.W.Frag} {E : XK} {ρ ρ' ρ1 : Ro} {P H P' H' P1 H1 : Hp}
/-! ### built-in functions, by values -/
def CbS (K : PySem.W.Frag) (E : XK) (r : List V → Hp → VK → Prop) (f : List D → AH → R D) : Prop := ∀ ρ P H h vs ds, SR K ρ P H h → RepL K ρ P ds vs → ∀ Q, Post K (RV K) E ρ P H Q (f ds h) → r vs H Q
def CbF (K : PySem.W.Frag) (E : XK) (r : List V → Hp → VK → Prop) (f : List D → AH → R (List D)) : Prop := ∀ ρ P H h vs ds, SR K ρ P H h → RepL K ρ P ds vs → ∀ Q, PostF K E ρ P H Q (f ds h) → r vs H Q
def mCB (f : List D → AH → R D) (m : M (List D)) : M D := fun env h => (m env h).bind fun ds h1 => f ds h1
def mCBF (f : List D → AH → R (List D)) (m : M (List D)) : M (List D) := fun env h => (m env h).bind fun ds h1 => f ds h1
theorem sd_cb {r : List V → Hp → VK → Prop} {f : List D → AH → R D} {t : TA} {m : M (List D)} (hr : CbS K E r f) (ha : Sd K (RVs K) E t m) : Sd K (RV K) E (tCB r t) (mCB f m) := fun ρ P σ H env h s re Q p =>
  ha ρ P σ H env h s re _ (Post.bind p fun a h1 ρ1 P1 H1 v t1 s1 w1 p1 => hr _ _ _ _ _ _ s1 w1 Q p1)
theorem RepL.one {d : D} {vs : List V} (r : RepL K ρ P [d] vs) : ∃ v, vs = [v] ∧ Rep K ρ P d v := by
  cases r with
  | cons a b => cases b; exact ⟨_, rfl, a⟩
theorem RepL.two {d e : D} {vs : List V} (r : RepL K ρ P [d, e] vs) : ∃ v u, vs = [v, u] ∧ Rep K ρ P d v ∧ Rep K ρ P e u := by
  cases r with
  | cons a b =>
    obtain ⟨u, rfl, w⟩ := b.one
    exact ⟨_, u, rfl, a, w⟩
def lenD : List D → AH → R D
  | [.str x], h => if x.length ≤ sizeLine then .ok (.int x.length) h else .bad
  | [.tup ds], h => .ok (.int ds.length) h
  | [d], h => (match seqD d h with
    | some ds => .ok (.int ds.length) h
    | none => .bad)
  | _, _ => .bad
theorem cb_len : CbS K E (fun xs H Q => ∃ x n, xs = [x] ∧ LenV K x H n ∧ Q (.int n) H) lenD := fun ρ P H h vs ds s w Q p => by
  unfold lenD at p
  split at p
  · obtain ⟨v, rfl, r⟩ := w.one
    cases r
    split at p
    · rename_i hl; exact ⟨_, _, rfl, ⟨hl, rfl⟩, Post.here p s (.int _)⟩
    · exact p.elim
  · obtain ⟨v, rfl, r⟩ := w.one
    cases r with
    | tup q r => exact ⟨_, _, rfl, .inr ⟨_, sqT_tk s.sub q, rfl⟩, by rw [r.length]; exact Post.here p s (.int _)⟩
  · obtain ⟨v, rfl, r⟩ := w.one
    split at p
    · rename_i e
      obtain ⟨a, us, rfl, q, r2⟩ := seqD_sq s r e
      exact ⟨_, _, rfl, .inl ⟨_, q, rfl⟩, by rw [r2.length]; exact Post.here p s (.int _)⟩
    · exact p.elim
  · exact p.elim
def absD : List D → AH → R D
  | [.int i], h => .ok (.int (if i < 0 then -i else i)) h
  | _, _ => .bad
theorem cb_abs : CbS K E (fun xs H Q => ∃ i, xs = [.int i] ∧ Q (.int (if i < 0 then -i else i)) H) absD := fun ρ P H h vs ds s w Q p => by
  unfold absD at p
  split at p
  · obtain ⟨v, rfl, r⟩ := w.one
    cases r
    exact ⟨_, rfl, Post.here p s (.int _)⟩
  · exact p.elim
def max2D : List D → AH → R D
  | [.int i, .int j], h => .ok (.int (if j > i then j else i)) h
  | _, _ => .bad
def min2D : List D → AH → R D
  | [.int i, .int j], h => .ok (.int (if j < i then j else i)) h
  | _, _ => .bad
theorem cb_max2 : CbS K E (fun xs H Q => ∃ i j, xs = [.int i, .int j] ∧ Q (.int (if j > i then j else i)) H) max2D := fun ρ P H h vs ds s w Q p => by
  unfold max2D at p
  split at p
  · obtain ⟨v, u, rfl, r1, r2⟩ := w.two
    cases r1; cases r2
    exact ⟨_, _, rfl, Post.here p s (.int _)⟩
  · exact p.elim
theorem cb_min2 : CbS K E (fun xs H Q => ∃ i j, xs = [.int i, .int j] ∧ Q (.int (if j < i then j else i)) H) min2D := fun ρ P H h vs ds s w Q p => by
  unfold min2D at p
  split at p
  · obtain ⟨v, u, rfl, r1, r2⟩ := w.two
    cases r1; cases r2
    exact ⟨_, _, rfl, Post.here p s (.int _)⟩
  · exact p.elim
def intD : List D → AH → R D
  | [.int i], h => .ok (.int i) h
  | [.bl k], h => .ok (.int (if k then 1 else 0)) h
  | _, _ => .bad
theorem cb_int : CbS K E (fun xs H Q => (∃ i, xs = [.int i] ∧ Q (.int i) H) ∨ ∃ k, xs = [.bl k] ∧ Q (.int (if k then 1 else 0)) H) intD := fun ρ P H h vs ds s w Q p => by
  unfold intD at p
  split at p
  · obtain ⟨v, rfl, r⟩ := w.one
    cases r
    exact .inl ⟨_, rfl, Post.here p s (.int _)⟩
  · obtain ⟨v, rfl, r⟩ := w.one
    cases r
    exact .inr ⟨_, rfl, Post.here p s (.int _)⟩
  · exact p.elim
def strD : List D → AH → R D
  | [.int i], h => if i.natAbs.log2 < 1920 then .ok (.str (toString i)) h else .bad
  | _, _ => .bad
def divmodD : List D → AH → R D
  | [.int i, .int j], h => if CDiv i j then .ok (.tup [.int (i / j), .int (i % j)]) h else .bad
  | _, _ => .bad
theorem cb_divmod : CbS K E (fun xs H Q => ∃ i j, xs = [.int i, .int j] ∧ CDiv i j ∧ ∀ p, H p = none → Q (.ref p) (upd H p (.tup [.int (i / j), .int (i % j)]))) divmodD := fun ρ P H h vs ds s w Q p => by
  unfold divmodD at p
  split at p
  · obtain ⟨v, u, rfl, r1, r2⟩ := w.two
    cases r1; cases r2
    split at p
    · rename_i hc; exact ⟨_, _, rfl, hc, p.newT s (.cons (.int _) (.cons (.int _) .nil))⟩
    · exact p.elim
  · exact p.elim
/-- list(xs) -/
def listD : List D → AH → R (List D)
  | [.tup ds], h => .ok ds h
  | [d], h => (match seqD d h with
    | some ds => .ok ds h
    | none => .bad)
  | _, _ => .bad
/-- tuple(xs) -/
def tupleD : List D → AH → R D
  | [.tup ds], h => .ok (.tup ds) h
  | [d], h => (match seqD d h with
    | some ds => .ok (.tup ds) h
    | none => .bad)
  | _, _ => .bad
/-- the truth values of a list -/
def blsD : List D → Option (List Bool)
  | [] => some []
  | .bl b :: ds => (blsD ds).map (b :: ·)
  | _ => none
theorem blsD_ok : ∀ {ds : List D} {bs : List Bool}, blsD ds = some bs → ds = bs.map D.bl
  | [], _, e => by cases e; rfl
  | d :: ds, bs, e => by
    cases d with
    | bl b =>
      have e : (blsD ds).map (b :: ·) = some bs := e
      cases q : blsD ds with
      | none => rw [q] at e; cases e
      | some cs => rw [q] at e; cases e; rw [blsD_ok q]; rfl
    | _ => cases e
def allD (any : Bool) : List D → AH → R D
  | [d], h => (match seqD d h with
    | some ds => (match blsD ds with
      | some bs => .ok (.bl (if any then bs.any id else bs.all id)) h
      | none => .bad)
    | _ => .bad)
  | _, _ => .bad
theorem cb_all : CbS K E (rAll K) (allD false) := fun ρ P H h vs ds s w Q p => by
  unfold allD at p
  split at p
  · obtain ⟨v, rfl, r⟩ := w.one
    split at p
    · rename_i e
      split at p
      · rename_i bs eb
        obtain ⟨a, us, rfl, q, r2⟩ := seqD_sq s r e
        rw [blsD_ok eb] at r2
        rw [RepL.bls_iff r2] at q
        exact ⟨_, bs, rfl, q, Post.here p s (.bl _)⟩
      · exact p.elim
    · exact p.elim
  · exact p.elim
def intsD : List D → Option (List Int)
  | [] => some []
  | .int b :: ds => (intsD ds).map (b :: ·)
  | _ => none
def sumD : List D → AH → R D
  | [d], h => (match seqD d h with
    | some ds => (match intsD ds with
      | some bs => .ok (.int bs.sum) h
      | none => .bad)
    | _ => .bad)
  | _, _ => .bad
/-- isinstance of a built-in type -/
def tyD (d : D) (h : AH) : Option String := match d with
  | .non => some "NoneType"
  | .bl _ => some "bool"
  | .int _ => some "int"
  | .str _ => some "str"
  | .tup _ => some "tuple"
  | .lst _ => some "list"
  | .scr _ => some "list"
  | .dk _ => some "dict"
  | .loc n => (match h[n]? with
    | some (.lst _) => some "list"
    | _ => none)
  | _ => none
def isTy (a b : String) : Option Bool := if (a = "NoneType" ∨ a = "bool" ∨ a = "int" ∨ a = "str" ∨ a = "tuple" ∨ a = "list" ∨ a = "dict") ∧ (b = "bool" ∨ b = "int" ∨ b = "str" ∨ b = "tuple" ∨ b = "list") then some (decide (a = b) || (decide (a = "bool") && decide (b = "int"))) else none
def isiD : List D → AH → R D
  | [d, .ty n], h => (match tyD d h with
    | some t => (match isTy t n with
      | some k => .ok (.bl k) h
      | none => .bad)
    | _ => .bad)
  | _, _ => .bad
end
/-! ### repr -/
mutual
/-- a bound of a repr's length that does not hang on the ints -/
def cost : PyData → Nat
  | .none => 8
  | .bool _ => 8
  | .int _ => 2000
  | .str x => (reprText x).length
  | .list ds => costL ds + 4
  | .tuple ds => costL ds + 4
  | .dict _ => 0
def costL : List PyData → Nat
  | [] => 0
  | d :: ds => cost d + 2 + costL ds
end
mutual
def noDict : PyData → Bool
  | .list ds => noDictL ds
  | .tuple ds => noDictL ds
  | .dict _ => false
  | _ => true
def noDictL : List PyData → Bool
  | [] => true
  | d :: ds => noDict d && noDictL ds
end
theorem listText_le : ∀ ts : List Str, (listText ts).length ≤ piled ts + 2
  | [] => by decide
  | t :: r => by
    have h := textFrom_length_pos r 1 ((("[" : String) : Str) ++ (if (0 : Nat) > 0 then ", " else "" : String) ++ t) (Nat.succ_pos 0)
    have e : (listText (t :: r)).length = (textFrom 1 ((("[" : String) : Str) ++ (if (0 : Nat) > 0 then ", " else "" : String) ++ t) r).length + 1 := strLen_append _ _
    have e2 : ((("[" : String) : Str) ++ (if (0 : Nat) > 0 then ", " else "" : String) ++ t).length = 1 + t.length := by rw [strLen_append, strLen_append]; rfl
    rw [e, h, e2, piled_cons]
    omega
theorem tupleText_le (ts : List Str) : (tupleText ts).length ≤ piled ts + 4 := by
  unfold tupleText
  rw [strLen_append, strLen_append]
  have e1 : ((("(" : String) : Str)).length = 1 := rfl
  have e3 : (((if ts.length == 1 then ",)" else ")" : String) : Str)).length ≤ 2 := by split <;> decide
  rw [e1]
  by_cases z : ts = []
  · subst z
    have e0 : (Str.join ((", " : String) : Str) []).length = 0 := rfl
    rw [e0]
    omega
  · have := join_length_add ts z
    omega
mutual
theorem shown_le : ∀ d : PyData, d.showable = true → noDict d = true → d.shown.length ≤ cost d
  | .none, _, _ => by decide
  | .bool b, _, _ => by cases b <;> decide
  | .int i, h, _ => by
    have h1 : i.natAbs.log2 < 1920 := of_decide_eq_true h
    have h2 := int_text_length_le (k := 1920) (by decide) h1
    show (Str.ofString (toString i)).length ≤ 2000
    have h3 : (Str.ofString (toString i)).length = (toString i).length := by
      rw [Str.ofString_eq_toList]
      show ((toString i).toList.map Char.toNat).toArray.size = _
      rw [List.size_toArray, List.length_map]
      exact String.length_toList
    omega
  | .str x, _, _ => Nat.le_refl _
  | .list ds, h, n => by
    have h1 := shownL_le ds (by simpa only [PyData.showable] using h) (by simpa only [noDict] using n)
    have h2 := listText_le (PyData.shownAll ds)
    show (PyData.shown (.list ds)).length ≤ costL ds + 4
    rw [PyData.shown]
    omega
  | .tuple ds, h, n => by
    have h1 := shownL_le ds (by simpa only [PyData.showable] using h) (by simpa only [noDict] using n)
    have h2 := tupleText_le (PyData.shownAll ds)
    show (PyData.shown (.tuple ds)).length ≤ costL ds + 4
    rw [PyData.shown]
    omega
  | .dict _, _, n => by simp [noDict] at n
theorem shownL_le : ∀ ds : List PyData, PyData.showableAll ds = true → noDictL ds = true → piled (PyData.shownAll ds) ≤ costL ds
  | [], _, _ => by decide
  | d :: ds, h, n => by
    have h' : d.showable = true ∧ PyData.showableAll ds = true := by simpa only [PyData.showableAll, Bool.and_eq_true] using h
    have n' : noDict d = true ∧ noDictL ds = true := by simpa only [noDictL, Bool.and_eq_true] using n
    have h1 := shown_le d h'.1 n'.1
    have h2 := shownL_le ds h'.2 n'.2
    show piled (PyData.shown d :: PyData.shownAll ds) ≤ cost d + 2 + costL ds
    rw [piled_cons]
    omega
end
mutual
theorem noDict_has : ∀ d : PyData, noDict d = true → d.hasDict = false
  | .none, _ => by simp only [PyData.hasDict]
  | .bool _, _ => by simp only [PyData.hasDict]
  | .int _, _ => by simp only [PyData.hasDict]
  | .str _, _ => by simp only [PyData.hasDict]
  | .list ds, h => by simp only [PyData.hasDict]; exact noDictL_has ds (by simpa only [noDict] using h)
  | .tuple ds, h => by simp only [PyData.hasDict]; exact noDictL_has ds (by simpa only [noDict] using h)
  | .dict _, n => by simp [noDict] at n
theorem noDictL_has : ∀ ds : List PyData, noDictL ds = true → PyData.hasDictAll ds = false
  | [], _ => by simp only [PyData.hasDictAll]
  | d :: ds, n => by
    have n' : noDict d = true ∧ noDictL ds = true := by simpa only [noDictL, Bool.and_eq_true] using n
    simp only [PyData.hasDictAll, noDict_has d n'.1, noDictL_has ds n'.2, Bool.or_self]
end
def reprOk (d : PyData) : Bool := d.showable && (noDict d && (decide (cost d ≤ sizeLine) && decide (d.depth ≤ 64)))
def rReprU (K : PySem.W.Frag) : List V → Hp → VK → Prop := fun xs H Q => ∃ x d, xs = [x] ∧ Dp K H x d ∧ reprOk d = true ∧ Q (.str d.shown) H
theorem call_reprU {X : Cx} (hg : X.A.guards = some []) (hu : X.A.units + 70 < cLine) : CallR X (.builtin "repr") (rReprU X.K) := by
  intro pins s σ H xs us Q I r h
  obtain ⟨x, d, rfl, dp, ok, q⟩ := h
  obtain ⟨u, rfl, rx⟩ := vals1 r
  simp only [reprOk, Bool.and_eq_true, decide_eq_true_eq] at ok
  obtain ⟨h1, h2, h3, h4⟩ := ok
  have hl := shown_le d h1 h2
  have go : ∀ a, x = .ref a → wpAny (model X.prog X.w) X.A (call (.builtin "repr") [u]) (EP X pins σ Q) X.xe s := fun a e => by
    obtain ⟨as, rd⟩ := Dp.reads I d x u dp rx
    subst e
    obtain rfl : u = Value.ref a := rx
    exact repr_of_reads' rd h1 (fun z => by rw [noDict_has d h2] at z; cases z) hg (by omega) (fun _ _ e => e) (fun h' u tk hk => ⟨.str _, H, I.kept hk, ⟨_, rfl⟩, q⟩) (Nat.le_trans hl h3)
  cases dp with
  | non => obtain rfl : u = Value.none := rx; exact P.repr_of_none ⟨.str _, H, I.tok _, ⟨_, rfl⟩, q⟩
  | bl b =>
    obtain rfl : u = Value.bool b := rx
    refine P.repr_of_bool ⟨.str _, H, I.tok _, ⟨_, rfl⟩, ?_⟩
    cases b <;> exact q
  | int i =>
    obtain ⟨t, rfl⟩ := rx
    exact P.repr_of_int (of_decide_eq_true h1) ⟨.str _, H, I.tok _, ⟨_, rfl⟩, q⟩
  | str y =>
    obtain ⟨t, rfl⟩ := rx
    exact P.repr_of_str ⟨.str _, H, I.tok _, ⟨_, rfl⟩, q⟩ (Nat.le_trans hl h3)
  | lst a b => exact go _ rfl
  | tup a b => exact go _ rfl
section
variable {K : PySem.W.Frag} {E : XK} {ρ ρ' ρ1 : Ro} {P H P' H' P1 H1 : Hp}
def reprD : List D → AH → R D
  | [d], h => (match toPy h d with
    | some p => if reprOk p = true then .ok (.str p.shown) h else .bad
    | none => .bad)
  | _, _ => .bad
theorem cb_repr : CbS K E (rReprU K) reprD := fun ρ P H h vs ds s w Q p => by
  unfold reprD at p
  split at p
  · obtain ⟨v, rfl, r⟩ := w.one
    split at p
    · rename_i d ed
      split at p
      · rename_i hk; exact ⟨v, d, rfl, dp_of s r ed, hk, Post.here p s (.str _)⟩
      · exact p.elim
    · exact p.elim
  · exact p.elim
/-! ### slices -/
def cutL {α : Type} (xs : List α) (lo hi : Option Int) : List α := (xs.drop (HT.sIx xs.length 0 lo)).take (HT.sIx xs.length xs.length hi - HT.sIx xs.length 0 lo)
theorem RepL.cutL {ds : List D} {vs : List V} (r : RepL K ρ P ds vs) (lo hi : Option Int) : RepL K ρ P (Ab.cutL ds lo hi) (cutV vs lo hi) := by
  unfold Ab.cutL cutV
  rw [r.length]
  exact (r.drop _).take _
def mNoPart : M (Option Int) := fun _ h => .ok none h
def mPart (m : M D) : M (Option Int) := fun env h => (m env h).bind fun d h1 => match d with
  | .int i => .ok (some i) h1
  | _ => .bad
theorem sd_noPart : Sd K (RQ (Option Int)) E tNoPart mNoPart := fun ρ P σ H env h s re Q p => Post.here p s rfl
theorem sd_part {t : TE} {m : M D} (ha : Sd K (RV K) E t m) : Sd K (RQ (Option Int)) E (tPart t) (mPart m) := fun ρ P σ H env h s re Q p =>
  ha ρ P σ H env h s re _ (Post.bind p fun a h1 ρ1 P1 H1 v t1 s1 w1 p1 => by
    cases w1 with
    | int i => exact ⟨i, rfl, Post.here p1 s1 rfl⟩
    | _ => exact p1.elim)
def mSlL (m : M D) (lo hi : M (Option Int)) : M (List D) := fun env h => (m env h).bind fun d h1 => (lo env h1).bind fun l h2 => (hi env h2).bind fun u h3 => match seqD d h3 with
  | some ds => .ok (cutL ds l u) h3
  | none => .bad
theorem sf_slL {te : TE} {tl th : TO} {m : M D} {lo hi : M (Option Int)} (ha : Sd K (RV K) E te m) (hl : Sd K (RQ (Option Int)) E tl lo) (hh : Sd K (RQ (Option Int)) E th hi) : SdF K E (tSl (rSlL K) te tl th) (mSlL m lo hi) := fun ρ P σ H env h s re Q p =>
  ha ρ P σ H env h s re _ (PostF.bind p fun a h1 ρ1 P1 H1 v t1 s1 w1 p1 => hl _ _ _ _ _ _ s1 (re.step t1) _ (PostF.bind p1 fun b h2 ρ2 P2 H2 u t2 s2 w2 p2 =>
    hh _ _ _ _ _ _ s2 ((re.step t1).step t2) _ (PostF.bind p2 fun c h3 ρ3 P3 H3 x t3 s3 w3 p3 => by
      cases w2; cases w3
      split at p3
      · rename_i ds e
        obtain ⟨q, us, rfl, sq, r⟩ := seqD_sq s3 ((w1.step t2).step t3) e
        exact ⟨q, us, rfl, sq, p3.newL s3 (r.cutL _ _)⟩
      · exact p3.elim)))
def mSlT (m : M D) (lo hi : M (Option Int)) : M D := fun env h => (m env h).bind fun d h1 => (lo env h1).bind fun l h2 => (hi env h2).bind fun u h3 => match d with
  | .tup ds => .ok (.tup (cutL ds l u)) h3
  | _ => .bad
/-! ### xs[i] = v, xs.append(v) .. -/
def mgSub (mo mi : M D) : MG := fun d env h => (mo env h).bind fun o h1 => (mi env h1).bind fun i h2 => match o, i with
  | .loc n, .int k => (match h2[n]? with
    | some (.lst ds) => (match ixN ds.length k with
      | some j => .ok env (h2.set n (.lst (ds.set j d)))
      | none => .bad)
    | _ => .bad)
  | _, _ => .bad
def mMeth (f : D → List D → AH → R D) (mo : M D) (ma : M (List D)) : M D := fun env h => (mo env h).bind fun o h1 => (ma env h1).bind fun ds h2 => f o ds h2
def MtS (K : PySem.W.Frag) (E : XK) (T : String) (r : V → List V → Hp → VK → Prop) (ok : D → AH → Bool) (f : D → List D → AH → R D) : Prop :=
  (∀ ρ P H h x d, SR K ρ P H h → Rep K ρ P d x → ok d h = true → tyV K T x H) ∧
  ∀ ρ P H h x vs d ds, SR K ρ P H h → Rep K ρ P d x → RepL K ρ P ds vs → ∀ Q, Post K (RV K) E ρ P H Q (f d ds h) → r x vs H Q
def mMethT (ok : D → AH → Bool) (f : D → List D → AH → R D) (mo : M D) (ma : M (List D)) : M D := fun env h => (mo env h).bind fun o h1 => if ok o h1 = true then (ma env h1).bind fun ds h2 => f o ds h2 else .bad
theorem sd_meth {T : String} {r : V → List V → Hp → VK → Prop} {ok : D → AH → Bool} {f : D → List D → AH → R D} {to : TE} {ta : TA} {mo : M D} {ma : M (List D)} (hm : MtS K E T r ok f) (ho : Sd K (RV K) E to mo) (ha : Sd K (RVs K) E ta ma) :
    Sd K (RV K) E (tBM K T r to ta) (mMethT ok f mo ma) := fun ρ P σ H env h s re Q p =>
  ho ρ P σ H env h s re _ (Post.bind p fun a h1 ρ1 P1 H1 x t1 s1 w1 p1 => by
    split at p1
    · rename_i hk
      exact ⟨hm.1 _ _ _ _ _ _ s1 w1 hk, ha _ _ _ _ _ _ s1 (re.step t1) _ (Post.bind p1 fun b h2 ρ2 P2 H2 y t2 s2 w2 p2 => hm.2 _ _ _ _ _ _ _ _ s2 (w1.step t2) w2 Q p2)⟩
    · exact p1.elim)
def mMethT0 (ok : D → AH → Bool) (f : D → List D → AH → R D) (mo : M D) : M D := fun env h => (mo env h).bind fun o h1 => if ok o h1 = true then f o [] h1 else .bad
def isLoc (d : D) (h : AH) : Bool := match d with
  | .loc n => (match h[n]? with
    | some (.lst _) => true
    | _ => false)
  | _ => false
theorem isLoc_ty : ∀ ρ P H h x d, SR K ρ P H h → Rep K ρ P d x → isLoc d h = true → tyV K "list" x H := fun ρ P H h x d s w e => by
  cases w with
  | loc e1 =>
    obtain ⟨o, eo, r⟩ := s.here e1
    cases o with
    | lst ds => obtain ⟨us, ev, _⟩ := r; exact .inl ⟨rfl, _, .of ev⟩
    | dct kvs => simp [isLoc, eo] at e
    | ins c fs => simp [isLoc, eo] at e
    | ndt kvs => simp [isLoc, eo] at e
  | _ => cases e
def appendD : D → List D → AH → R D
  | .loc n, [d], h => (match h[n]? with
    | some (.lst ds) => if ds.length < sizeLine then .ok .non (h.set n (.lst (ds ++ [d]))) else .bad
    | _ => .bad)
  | _, _, _ => .bad
def popD : D → List D → AH → R D
  | .loc n, [], h => (match h[n]? with
    | some (.lst ds) => (match ds[ds.length - 1]? with
      | some d => .ok d (h.set n (.lst ds.dropLast))
      | none => .bad)
    | _ => .bad)
  | _, _, _ => .bad
def popAtD : D → List D → AH → R D
  | .loc n, [.int i], h => if -(2 ^ 63) ≤ i ∧ i < 2 ^ 63 then (match h[n]? with
    | some (.lst ds) => (match seqIndex? i ds.length with
      | some k => (match ds[k]? with
        | some d => .ok d (h.set n (.lst (ds.eraseIdx k)))
        | none => .bad)
      | none => .bad)
    | _ => .bad) else .bad
  | _, _, _ => .bad
end
end Ab

namespace Ab
open PySem PySem.Spec L2
/-! ### the text, its reading, its computation -/
structure JE (K : PySem.W.Frag) (E : XK) (X : Cx) (e : Expr) (t : TE) (m : M D) : Prop where
  k : X.K = K
  p : PE X e t
  s : Sd K (RV K) E t m
structure JF (K : PySem.W.Frag) (E : XK) (X : Cx) (e : Expr) (t : TE) (m : M (List D)) : Prop where
  k : X.K = K
  p : PE X e t
  s : SdF K E t m
structure JT (K : PySem.W.Frag) (E : XK) (X : Cx) (e : Expr) (t : TT) (m : M Bool) : Prop where
  k : X.K = K
  p : PT X e t
  s : Sd K (RQ Bool) E t m
structure JTs (K : PySem.W.Frag) (E : XK) (X : Cx) (e : List Expr) (t : TT) (m : M Bool) : Prop where
  k : X.K = K
  p : PTs X e t
  s : Sd K (RQ Bool) E t m
structure JW (K : PySem.W.Frag) (E : XK) (X : Cx) (e : Expr) (t : TT) (m : M Bool) : Prop where
  k : X.K = K
  p : PW X e t
  s : Sd K (RQ Bool) E t m
structure JA (K : PySem.W.Frag) (E : XK) (X : Cx) (e : List Expr) (t : TA) (m : M (List D)) : Prop where
  k : X.K = K
  p : PA X e t
  s : Sd K (RVs K) E t m
structure JK (K : PySem.W.Frag) (E : XK) (X : Cx) (e : List Keyword) (t : TA) (m : M (List D)) : Prop where
  k : X.K = K
  p : PK X e t
  s : Sd K (RVs K) E t m
structure JO (K : PySem.W.Frag) (E : XK) (X : Cx) (e : Option Expr) (t : TO) (m : M (Option Int)) : Prop where
  k : X.K = K
  p : PO X e t
  s : Sd K (RQ (Option Int)) E t m
structure JI (K : PySem.W.Frag) (E : XK) (X : Cx) (tg e : Expr) (t : TI) (m : MI) : Prop where
  k : X.K = K
  p : PI X tg e t
  s : SdI K E t m
structure JG (K : PySem.W.Frag) (E : XK) (X : Cx) (e : Expr) (t : TG) (m : MG) : Prop where
  k : X.K = K
  p : PG X e t
  s : SdG K E t m
structure JGs (K : PySem.W.Frag) (E : XK) (X : Cx) (e : List Expr) (t : TGs) (m : List D → En → AH → R En) : Prop where
  k : X.K = K
  p : PGs X e t
  s : SdGs K E t m
structure JS (K : PySem.W.Frag) (E : XK) (X : Cx) (e : Stmt) (t : TS) (m : MS) : Prop where
  k : X.K = K
  p : PS X e t
  s : SdS K E t m
structure JSs (K : PySem.W.Frag) (E : XK) (X : Cx) (e : List Stmt) (t : TS) (m : MS) : Prop where
  k : X.K = K
  p : PSs X e t
  s : SdS K E t m
theorem JSs.b {K : PySem.W.Frag} {E : XK} {X : Cx} {e : List Stmt} {t : TS} {m : MS} (h : JSs K E X e t m) : JB X E e m := ⟨t, h.p, by rw [h.k]; exact h.s⟩
section
variable {K : PySem.W.Frag} {E : XK} {X : Cx} {e a b c : Expr} {es : List Expr} {ta tb tc : TE} {t : TA} {ma mb mc : M D} {m : M (List D)} {pos pos' : Pos}
/-! names, constants -/
theorem je_v (i : Nat) {x : Str} (hK : X.K = K := by rfl) (hN : X.N[i]? = some x := by rfl) (hv : Vis X.env.scope x := by first | exact Or.inl rfl | exact Or.inr (Or.inl rfl) | exact Or.inr (Or.inr rfl)) (hd : (x == ("__debug__" : Str)) = false := by decide)
    (hcd : (x == ("__classdict__" : Str)) = false := by decide) : JE K E X (.Name x pos) (tVar i) (mVar i) := ⟨hK, pe_var hN hv hd hcd, sd_var⟩
theorem je_int {i : Int} {j} (hK : X.K = K := by rfl) : JE K E X (.Constant (.int i) j pos) (tC (.int i)) (mC (.int i)) := ⟨hK, pe_int, sd_c fun _ _ => .int _⟩
theorem je_bl {i : Bool} {j} (hK : X.K = K := by rfl) : JE K E X (.Constant (.bool i) j pos) (tC (.bl i)) (mC (.bl i)) := ⟨hK, pe_bl, sd_c fun _ _ => .bl _⟩
theorem je_str {i : Str} {j} (hK : X.K = K := by rfl) : JE K E X (.Constant (.str i) j pos) (tC (.str i)) (mC (.str i)) := ⟨hK, pe_str, sd_c fun _ _ => .str _⟩
theorem je_non {j} (hK : X.K = K := by rfl) : JE K E X (.Constant .none j pos) (tC .non) (mC .non) := ⟨hK, pe_non, sd_c fun _ _ => .non⟩
/-- a module's int, text -/
theorem je_gint {x : Str} {i : Int} (hm : ∃ t, X.mg x = some (.int i t)) (hg : Gl X x := by rfl) (hd : (x == ("__debug__" : Str)) = false := by decide) (hK : X.K = K := by rfl) : JE K E X (.Name x pos) (tC (.int i)) (mC (.int i)) := by
  obtain ⟨t, hm⟩ := hm
  exact ⟨hK, pe_glob hg hm ⟨t, rfl⟩ hd, sd_c fun _ _ => .int _⟩
/-- a built-in type as a value -/
theorem je_ty {x : Str} {n : String} (hm : X.mg x = none) (hv : bootBuiltins x = some (.type n) := by decide +kernel) (hg : Gl X x := by rfl) (hn : x ≠ "__name__" := by decide) (hd : (x == ("__debug__" : Str)) = false := by decide) (hK : X.K = K := by rfl) :
    JE K E X (.Name x pos) (tC (.ty n)) (mC (.ty n)) := ⟨hK, pe_bltn hg hm hv rfl hn hd, sd_c fun _ _ => .ty _⟩
/-! operators -/
theorem je_bin {op : Operator} {r : R2} {f : D → D → AH → R D} (ho : OpR X (binaryOp op) r) (hs : OpS K E r f) (ha : JE K E X a ta ma) (hb : JE K E X b tb mb) : JE K E X (.BinOp a op b pos) (tOp r ta tb) (mBin f ma mb) := ⟨ha.k, pe_op ho ha.p hb.p, sd_op ha.s hb.s hs⟩
theorem je_div (ha : JE K E X a ta ma) (hb : JE K E X b tb mb) : JE K E X (.BinOp a .FloorDiv b pos) (tOp rDivU ta tb) (mBin divD ma mb) := je_bin op_divU os_div ha hb
theorem je_mod (ha : JE K E X a ta ma) (hb : JE K E X b tb mb) : JE K E X (.BinOp a .Mod b pos) (tOp (rI (fun _ j => 0 < j) fun i j => .int (i % j)) ta tb) (mBin modD ma mb) := je_bin op_mod os_mod ha hb
theorem je_pow (ha : JE K E X a ta ma) (hb : JE K E X b tb mb) : JE K E X (.BinOp a .Pow b pos) (tOp (rI CPow fun i j => .int (i ^ j.toNat)) ta tb) (mBin powD ma mb) := je_bin op_pow os_pow ha hb
theorem je_neg (ha : JE K E X a ta ma) : JE K E X (.UnaryOp .USub a pos) (tUn (rU fun i => .int (-i)) ta) (mUn negD ma) := ⟨ha.k, pe_un un_neg ha.p, sd_un ha.s us_neg⟩
/-- lists -/
theorem jf_cat (ha : JE K E X a ta ma) (hb : JE K E X b tb mb) : JF K E X (.BinOp a .Add b pos) (tOp rCat ta tb) (mBinF catD ma mb) := ⟨ha.k, pe_op op_cat ha.p hb.p, sf_cat ha.s hb.s⟩
/-! comparisons -/
/-- what a comparison does -/
structure JC (K : PySem.W.Frag) (E : XK) (X : Cx) (op : CmpOp) (r : R2) (f : D → D → AH → R D) : Prop where
  o : OpR X (compareOp op) r
  s : OpS K E r f
theorem jc_lt : JC K E X .Lt (rI0 fun i j => .bl (decide (i < j))) (cmpD fun i j => decide (i < j)) := ⟨op_lt, os_cmp⟩
theorem jc_gt : JC K E X .Gt (rI0 fun i j => .bl (decide (j < i))) (cmpD fun i j => decide (j < i)) := ⟨op_gt, os_cmp⟩
theorem jc_ge : JC K E X .GtE (rI0 fun i j => .bl (decide (j ≤ i))) (cmpD fun i j => decide (j ≤ i)) := ⟨op_ge, os_cmp⟩
theorem jc_eq {k : Nat} (hr : Room k X.A) (hK : X.K = K := by rfl) : JC K E X .Eq (rEqU K) eqD := by subst hK; exact ⟨op_eqU hr.units, os_eq⟩
theorem jc_ne {k : Nat} (hr : Room k X.A) (hK : X.K = K := by rfl) : JC K E X .NotEq (rNeU K) neD := by subst hK; exact ⟨op_neU hr.units, os_ne⟩
theorem je_cmp {op : CmpOp} {r : R2} {f : D → D → AH → R D} (hc : JC K E X op r f) (ha : JE K E X a ta ma) (hb : JE K E X b tb mb) (hm : behindInMarks op b = false := by first | exact nomark _ | rfl) : JE K E X (.Compare a [op] [b] pos) (tOp r ta tb) (mBin f ma mb) :=
  ⟨ha.k, pe_cmpR hc.o ha.p hb.p hm, sd_op ha.s hb.s hc.s⟩
theorem jt_cmp {op : CmpOp} {r : R2} {f : D → D → AH → R D} (hc : JC K E X op r f) (ha : JE K E X a ta ma) (hb : JE K E X b tb mb) (hm : behindInMarks op b = false := by first | exact nomark _ | rfl) : JT K E X (.Compare a [op] [b] pos) (tTest (tOp r ta tb)) (mBl (mBin f ma mb)) :=
  ⟨ha.k, pt_cmpR hc.o ha.p hb.p hm, sd_test (sd_op ha.s hb.s hc.s)⟩
def mChain (f g : D → D → AH → R D) (ma mb mc : M D) : M D := fun env h => (ma env h).bind fun a h1 => (mb env h1).bind fun b h2 => (f a b h2).bind fun k h3 => match k with
  | .bl true => (mc env h3).bind fun c h4 => g b c h4
  | .bl false => .ok (.bl false) h3
  | _ => .bad
theorem sd_chain {r r' : R2} {f g : D → D → AH → R D} (hf : OpS K E r f) (hg : OpS K E r' g) (ha : Sd K (RV K) E ta ma) (hb : Sd K (RV K) E tb mb) (hc : Sd K (RV K) E tc mc) : Sd K (RV K) E (tChain r r' ta tb tc) (mChain f g ma mb mc) := fun ρ P σ H env h s re Q p =>
  ha ρ P σ H env h s re _ (Post.bind p fun a h1 ρ1 P1 H1 v t1 s1 w1 p1 => hb _ _ _ _ _ _ s1 (re.step t1) _ (Post.bind p1 fun b h2 ρ2 P2 H2 u t2 s2 w2 p2 =>
    hf _ _ _ _ _ _ _ _ s2 (w1.step t2) w2 _ (Post.bind p2 fun k h3 ρ3 P3 H3 x t3 s3 w3 p3 => by
      cases w3 with
      | bl k =>
        refine ⟨k, rfl, ?_⟩
        cases k with
        | true => exact hc _ _ _ _ _ _ s3 (((re.step t1).step t2).step t3) _ (Post.bind p3 fun c h4 ρ4 P4 H4 y t4 s4 w4 p4 => hg _ _ _ _ _ _ _ _ s4 ((w2.step t3).step t4) w4 Q p4)
        | false => exact Post.here p3 s3 (.bl _)
      | _ => exact p3.elim)))
theorem je_chain {op op' : CmpOp} {r r' : R2} {f g : D → D → AH → R D} (h1 : JC K E X op r f) (h2 : JC K E X op' r' g) (ha : JE K E X a ta ma) (hb : JE K E X b tb mb) (hc : JE K E X c tc mc) (hm : lastMarks [op, op'] [b, c] = false := by with_unfolding_all rfl) :
    JE K E X (.Compare a [op, op'] [b, c] pos) (tChain r r' ta tb tc) (mChain f g ma mb mc) := ⟨ha.k, pe_chain h1.o h2.o ha.p hb.p hc.p hm, sd_chain h1.s h2.s ha.s hb.s hc.s⟩
/-! truth -/
def tTruU (K : PySem.W.Frag) (ta : TE) : TT := fun σ H Q => ta σ H fun x H' => ∃ k, TruV K x H' k ∧ Q k H'
variable {tt tu : TT} {mt mu : M Bool} {rest : List Expr}
theorem jw_or1 (ha : JT K E X a tt mt) : JW K E X (.BoolOp .Or [a] pos) tt mt := ⟨ha.k, pw_or1 ha.p, ha.s⟩
theorem jw_or (ha : JT K E X a tt mt) (hb : JW K E X (.BoolOp .Or (b :: rest) pos) tu mu) : JW K E X (.BoolOp .Or (a :: b :: rest) pos) (tOr tt tu) (mOrT mt mu) := ⟨ha.k, pw_or ha.p hb.p, sd_orT ha.s hb.s⟩
theorem JW.jt (h : JW K E X a tt mt) : JT K E X a tt mt := ⟨h.k, h.p.pt, h.s⟩
theorem je_if (hc : JT K E X c tt mt) (ha : JE K E X a ta ma) (hb : JE K E X b tb mb) : JE K E X (.IfExp c a b pos) (tIf tt ta tb) (mIf mt ma mb) := ⟨ha.k, pe_ifExp hc.p ha.p hb.p, sd_if hc.s ha.s hb.s⟩
/-! arguments, displays -/
theorem ja_nil (hK : X.K = K := by rfl) : JA K E X [] tNil mNil := ⟨hK, pa_nil, sd_nil⟩
theorem ja_cons (ha : JE K E X e ta ma) (hr : JA K E X es t m) (hs : starEach (e :: es) X.env = (false, eval e X.env) :: starEach es X.env := by rfl) : JA K E X (e :: es) (tCons ta t) (mCons ma m) := ⟨ha.k, pa_cons ha.p hr.p hs, sd_cons ha.s hr.s⟩
theorem je_tup {x1} (h : JA K E X es t m) : JE K E X (.Tuple es x1 pos) (tTup t) (mTup m) := ⟨h.k, pe_tup h.p, sd_tup h.s⟩
theorem jf_lst (h : JA K E X es t m) : JF K E X (.List es pos) (tLst t) (mLst m) := ⟨h.k, pe_lst h.p, sf_lst h.s⟩
theorem JF.f {mf : M (List D)} (h : JF K E X e ta mf) : JE K E X e ta (mFrz mf) := ⟨h.k, h.p, sd_frz h.s⟩
theorem JF.o {mf : M (List D)} (h : JF K E X e ta mf) : JE K E X e ta (mOwn mf) := ⟨h.k, h.p, sd_own h.s⟩
/-! subscripts -/
variable {lo hi : Option Expr} {tl th : TO} {ml mh : M (Option Int)} {p2 : Pos}
theorem jo_none (hK : X.K = K := by rfl) : JO K E X none tNoPart mNoPart := ⟨hK, po_none, sd_noPart⟩
theorem jo_some (ha : JE K E X a ta ma) : JO K E X (some a) (tPart ta) (mPart ma) := ⟨ha.k, po_some ha.p, sd_part ha.s⟩
theorem jf_sl (ha : JE K E X a ta ma) (hl : JO K E X lo tl ml) (hh : JO K E X hi th mh) : JF K E X (.Subscript a (.Slice lo hi none p2) pos) (tSl (rSlL K) ta tl th) (mSlL ma ml mh) := by
  obtain ⟨hK, hp, hq⟩ := ha
  subst hK
  exact ⟨rfl, pe_slice sl_list hp hl.p hh.p, sf_slL hq hl.s hh.s⟩
/-! built-ins -/
variable {x : Str} {pn : Pos}
theorem je_bf {id : String} {r : List V → Hp → VK → Prop} {f : List D → AH → R D} (hr : CallR X (.builtin id) r) (hs : CbS K E r f) (hm : X.mg x = none) (ha : JA K E X (e :: es) t m) (hv : bootBuiltins x = some (.builtin id) := by decide +kernel) (hg : Gl X x := by rfl)
    (hn : x ≠ "__name__" := by decide) (hd : (x == ("__debug__" : Str)) = false := by decide) (he : starEach (e :: es) X.env = (false, eval e X.env) :: starEach es X.env := by rfl) (hpl : (backTo pos (starEach es X.env)).any (·.1) = false := by rfl) :
    JE K E X (.Call (.Name x pn) (e :: es) [] pos) (tCB r t) (mCB f m) := ⟨ha.k, pe_callB hr hg hm hv ha.p hn hd he hpl, sd_cb hs ha.s⟩
theorem je_bt {id : String} {r : List V → Hp → VK → Prop} {f : List D → AH → R D} (hr : CallR X (.type id) r) (hs : CbS K E r f) (hm : X.mg x = none) (ha : JA K E X (e :: es) t m) (hv : bootBuiltins x = some (.type id) := by decide +kernel) (hg : Gl X x := by rfl)
    (hn : x ≠ "__name__" := by decide) (hd : (x == ("__debug__" : Str)) = false := by decide) (he : starEach (e :: es) X.env = (false, eval e X.env) :: starEach es X.env := by rfl) (hpl : (backTo pos (starEach es X.env)).any (·.1) = false := by rfl) :
    JE K E X (.Call (.Name x pn) (e :: es) [] pos) (tCB r t) (mCB f m) := ⟨ha.k, pe_callTy hr hg hm hv ha.p hn hd he hpl, sd_cb hs ha.s⟩
/-- what a built-in function does -/
structure JBf (K : PySem.W.Frag) (E : XK) (X : Cx) (v : Value) (r : List V → Hp → VK → Prop) (f : List D → AH → R D) : Prop where
  o : CallR X v r
  s : CbS K E r f
structure JBl (K : PySem.W.Frag) (E : XK) (X : Cx) (v : Value) (r : List V → Hp → VK → Prop) (f : List D → AH → R (List D)) : Prop where
  o : CallR X v r
  s : CbF K E r f
theorem jb_abs : JBf K E X (.builtin "abs") (fun xs H Q => ∃ i, xs = [.int i] ∧ Q (.int (if i < 0 then -i else i)) H) absD := ⟨call_abs, cb_abs⟩
theorem jb_max2 (hc : X.calm = true := by rfl) : JBf K E X (.builtin "max") (fun xs H Q => ∃ i j, xs = [.int i, .int j] ∧ Q (.int (if j > i then j else i)) H) max2D := ⟨call_max2 hc, cb_max2⟩
theorem jb_min2 (hc : X.calm = true := by rfl) : JBf K E X (.builtin "min") (fun xs H Q => ∃ i j, xs = [.int i, .int j] ∧ Q (.int (if j < i then j else i)) H) min2D := ⟨call_min2 hc, cb_min2⟩
theorem jb_divmod : JBf K E X (.builtin "divmod") (fun xs H Q => ∃ i j, xs = [.int i, .int j] ∧ CDiv i j ∧ ∀ p, H p = none → Q (.ref p) (upd H p (.tup [.int (i / j), .int (i % j)]))) divmodD := ⟨call_divmod, cb_divmod⟩
theorem jb_all (hc : X.calm = true := by rfl) (hK : X.K = K := by rfl) : JBf K E X (.builtin "all") (rAll K) (allD false) := by subst hK; exact ⟨cr_all hc, cb_all⟩
theorem je_b {id : String} {r : List V → Hp → VK → Prop} {f : List D → AH → R D} (h : JBf K E X (.builtin id) r f) (hm : X.mg x = none) (ha : JA K E X (e :: es) t m) (hv : bootBuiltins x = some (.builtin id) := by decide +kernel) (hg : Gl X x := by rfl)
    (hn : x ≠ "__name__" := by decide) (hd : (x == ("__debug__" : Str)) = false := by decide) (he : starEach (e :: es) X.env = (false, eval e X.env) :: starEach es X.env := by rfl) (hpl : (backTo pos (starEach es X.env)).any (·.1) = false := by rfl) :
    JE K E X (.Call (.Name x pn) (e :: es) [] pos) (tCB r t) (mCB f m) := je_bf h.o h.s hm ha hv hg hn hd he hpl
theorem je_t {id : String} {r : List V → Hp → VK → Prop} {f : List D → AH → R D} (h : JBf K E X (.type id) r f) (hm : X.mg x = none) (ha : JA K E X (e :: es) t m) (hv : bootBuiltins x = some (.type id) := by decide +kernel) (hg : Gl X x := by rfl)
    (hn : x ≠ "__name__" := by decide) (hd : (x == ("__debug__" : Str)) = false := by decide) (he : starEach (e :: es) X.env = (false, eval e X.env) :: starEach es X.env := by rfl) (hpl : (backTo pos (starEach es X.env)).any (·.1) = false := by rfl) :
    JE K E X (.Call (.Name x pn) (e :: es) [] pos) (tCB r t) (mCB f m) := je_bt h.o h.s hm ha hv hg hn hd he hpl
/-! methods of lists -/
variable {name : Str} {apos : Pos}
structure JM (K : PySem.W.Frag) (E : XK) (X : Cx) (T id : String) (r : V → List V → Hp → VK → Prop) (ok : D → AH → Bool) (f : D → List D → AH → R D) : Prop where
  o : MtR X id r
  s : MtS K E T r ok f
theorem je_m {T id : String} {r : V → List V → Hp → VK → Prop} {ok : D → AH → Bool} {f : D → List D → AH → R D} (pa : PlainAttrs T) (slot : Slot T name id) (hty : typeOf (.builtin id) = pure (.type "method_descriptor")) (h : JM K E X T id r ok f) (ho : JE K E X a ta ma) (hA : JA K E X (e :: es) t m)
    (hbase : attributeBase a name X.env (eval a X.env) = eval a X.env := by rfl)
    (hfew : ((backTo pos (starEach (e :: es) X.env)).all (fun x => !x.1) && (backToKw pos (keywordEach [] X.env)).all (fun x => x.1.isSome) && decide ((e :: es).length + ([] : List Keyword).length + (if ([] : List Keyword).isEmpty then 0 else 1) < 30)) = true := by rfl)
    (hline : (apos.endLine == pos.line) = true := by rfl) (hs : starEach (e :: es) X.env = (false, eval e X.env) :: starEach es X.env := by rfl) (hplain : (backTo pos (starEach es X.env)).any (·.1) = false := by rfl) :
    JE K E X (.Call (.Attribute a name apos) (e :: es) [] pos) (tBM K T r ta t) (mMethT ok f ma m) := by
  obtain ⟨hK, hp, hq⟩ := ho
  subst hK
  exact ⟨rfl, pe_bm pa slot hty h.o hp hA.p hbase hfew hline hs hplain, sd_meth h.s hq hA.s⟩
/-! own defs -/
/-- a def of the text as a caller wants it -/
structure Cal (P : Program) (w : World) (K : PySem.W.Frag) (mg : Str → Option Value) (base : Heap) (k : Nat) (x : Str) (ps : List Str) (F : Fn) (st : Stmt) : Prop where
  ex : ∃ f fd, FnG P w K mg base (L2.CX P w) k f fd ps (spD K ps.length F) ∧ mg x = some (.ref f) ∧ PySem.W.keepIn K (.ref f) = true ∧ Binds K fd ps [] ∧ ∃ q, FunD K q q (defArgs st) (defBody st) (defScope st) [] [] f fd
variable {k : Nat} {ps : List Str} {F : Fn} {st : Stmt}
theorem je_call {n : Nat} (G : Cal X.prog X.w K X.mg X.base k x ps F st) (hr : Room k X.A) (hgu : X.A.guards = some []) (ha : JA K E X (e :: es) t m) (hn : ps.length = n := by rfl) (hx : Passes (L2.CX X.prog X.w) X E := by first | exact passE | exact passX) (hg : Gl X x := by rfl)
    (hdb : (x == ("__debug__" : Str)) = false := by decide) (he : starEach (e :: es) X.env = (false, eval e X.env) :: starEach es X.env := by rfl) (hpl : (backTo pos (starEach es X.env)).any (·.1) = false := by rfl) :
    JE K E X (.Call (.Name x pn) (e :: es) [] pos) (tCall (spD K n F) [] E t) (mCall n F m) := by
  obtain ⟨hK, hp, hq⟩ := ha
  subst hK
  subst hn
  obtain ⟨f, fd, G, hm, hk, hb, _⟩ := G.ex
  exact ⟨rfl, pe_callG G hr hgu hg hm hk hb hx hp hdb he hpl, sd_call hq⟩
/-- keywords put into the parameters' order: the places among positional values, then keywords -/
def permL {α : Type} (n m : Nat) (ix : List Nat) (d : α) (us ws : List α) : List α := if us.length = n ∧ ws.length = m then ix.map (fun i => (us ++ ws).getD i d) else []
variable {kws : List Keyword} {tk : TA} {mk : M (List D)} {nm : Option Str} {kpos : Pos}
theorem jk_nil (hK : X.K = K := by rfl) : JK K E X [] tNil mNil := ⟨hK, pk_nil, sd_nil⟩
theorem jk_cons (ha : JE K E X e ta ma) (hr : JK K E X kws tk mk) : JK K E X (⟨nm, e, kpos⟩ :: kws) (tCons ta tk) (mCons ma mk) := ⟨ha.k, pk_cons ha.p hr.p, sd_cons ha.s hr.s⟩
/-! what is walked -/
variable {tg : Expr}
def miRng1 (m : M (List D)) : MI := fun env h => (m env h).bind fun ds h1 => match ds with
    | [.int j] => if InW j then .ok (.items (rngD 0 j)) h1 else .bad
    | _ => .bad
def miRng2 (m : M (List D)) : MI := fun env h => (m env h).bind fun ds h1 => match ds with
    | [.int i, .int j] => if InW i ∧ InW j then .ok (.items (rngD i j)) h1 else .bad
    | _ => .bad
theorem ji_rng1 (hm : X.mg "range" = none) (ha : JA K E X [a] t m) (hg : Gl X "range" := by rfl) (hs : starEach [a] X.env = [(false, eval a X.env)] := by rfl) : JI K E X tg (.Call (.Name "range" pn) [a] [] pos) (iRng1 t) (miRng1 m) := ⟨ha.k, pi_range1 hg hm ha.p hs, si_rng1 ha.s⟩
/-! targets -/
theorem jg_n (i : Nat) {x : Str} (hN : X.N.Nodup) (hi : X.N[i]? = some x := by rfl) (hx : Loc X.env.scope x := by first | exact Or.inl rfl | exact Or.inr rfl) (hf : X.fn x = true ∨ X.env.scope.names.lookup x = some .local := by first | exact .inl rfl | exact .inr rfl) (hK : X.K = K := by rfl) :
    JG K E X (.Name x pos) (gName i) (mgName i) := ⟨hK, pg_name hN hi hx hf, sg_name⟩
variable {g : TG} {gs : TGs} {mg : MG} {mgs : List D → En → AH → R En}
theorem jgs_nil (hK : X.K = K := by rfl) : JGs K E X [] gNil mgNil := ⟨hK, pgs_nil, sg_nil⟩
theorem jgs_cons (ha : JG K E X e g mg) (hr : JGs K E X es gs mgs) (hs : (assignEach (e :: es) X.env).map (·.2) = assign e X.env :: (assignEach es X.env).map (·.2) := by rfl) : JGs K E X (e :: es) (gCons g gs) (mgCons mg mgs) := ⟨ha.k, pgs_cons ha.p hr.p hs, sg_cons ha.s hr.s⟩
/-! statements -/
variable {sts sts2 : List Stmt} {s0 : Stmt} {ts tu2 : TS} {ms mu2 : MS}
theorem jss_nil (hK : X.K = K := by rfl) : JSs K E X [] tNext mNext := ⟨hK, pss_nil, ss_next⟩
theorem jss_one (h : JS K E X s0 ts ms) : JSs K E X [s0] ts ms := ⟨h.k, pss_one h.p, h.s⟩
theorem jss_cons (h : JS K E X s0 ts ms) (hr : JSs K E X sts tu2 mu2) : JSs K E X (s0 :: sts) (tSeq ts tu2) (mSeq ms mu2) := ⟨h.k, pss_cons h.p hr.p, ss_seq h.s hr.s⟩
theorem js_ret (h : JE K E X e ta ma) : JS K E X (.Return (some e) pos) (tRet ta) (mRet ma) := ⟨h.k, ps_ret h.p, ss_ret h.s⟩
theorem js_if (hc : JT K E X c tt mt) (ha : JSs K E X sts ts ms) (hb : JSs K E X sts2 tu2 mu2) : JS K E X (.If c sts sts2 pos) (tIfS tt ts tu2) (mIfS mt ms mu2) := ⟨hc.k, ps_if hc.p ha.p hb.p, ss_if hc.s ha.s hb.s⟩
theorem js_set (i : Nat) {x : Str} (hN : X.N.Nodup) (he : JE K E X e ta ma) (hi : X.N[i]? = some x := by rfl) (hx : Loc X.env.scope x := by first | exact Or.inl rfl | exact Or.inr rfl) (hs : swapsWith e (some (.Name x pos')) pos.line X.env = pure false := by rfl)
    (hf : X.fn x = true ∨ X.env.scope.names.lookup x = some .local := by first | exact .inl rfl | exact .inr rfl) : JS K E X (.Assign [.Name x pos'] e pos) (tAsg ta (gName i)) (mAsg ma (mgName i)) := ⟨he.k, ps_set hN hi hx he.p hs hf, ss_asg he.s sg_name⟩
theorem js_asg (he : JE K E X e ta ma) (hg : JG K E X tg g mg) (hs : swapsWithSole [tg] e pos.line X.env = pure false := by rfl) (hw : swappedStores [tg] e X.env = pure none := by rfl) (h1 : (assignEach [tg] X.env).map (·.2) = [assign tg X.env] := by rfl) :
    JS K E X (.Assign [tg] e pos) (tAsg ta g) (mAsg ma mg) := ⟨he.k, ps_asg he.p hg.p hs hw h1, ss_asg he.s hg.s⟩
theorem js_par (i j : Nat) {x y : Str} {px py pt pt2 : Pos} {kt k2 : Nat} (hN : X.N.Nodup) (ha : JA K E X [a, b] t m) (hi : X.N[i]? = some x := by rfl) (hj : X.N[j]? = some y := by rfl) (hij : i ≠ j := by decide) (hx : X.env.scope.names.lookup x = some .local := by rfl) (hy : X.env.scope.names.lookup y = some .local := by rfl)
    (hc : X.calm = true := by rfl) (hw : swappedStores [.Tuple [.Name x px, .Name y py] kt pt] (.Tuple [a, b] k2 pt2) X.env = pure (some [x, y]) := by rfl) (hs : swapsWithSole [.Tuple [.Name x px, .Name y py] kt pt] (.Tuple [a, b] k2 pt2) pos.line X.env = pure false := by rfl) :
    JS K E X (.Assign [.Tuple [.Name x px, .Name y py] kt pt] (.Tuple [a, b] k2 pt2) pos) (tPar i j t) (mPar i j m) := ⟨ha.k, ps_par hc hN hi hj hij hx hy ha.p hw hs, ss_par ha.s⟩
def addI : D → D → AH → R D
  | .int i, .int j, h => .ok (.int (i + j)) h
  | _, _, _ => .bad
variable {w : TI} {mi : MI}
theorem js_for (hi : JI K E X tg e w mi) (hg : JG K E X tg g mg) (hb : JSs K E X sts ts ms) (hc : X.calm = true := by rfl) (hp : PassesOwn (model X.prog X.w) X.A X.env X.xe := by first | exact PassesOwn.never | exact L2.passes_of rfl) (hs : ∀ x, foldedSetIterable e X.env x = pure x := by intro _; rfl) :
    JS K E X (.For tg e sts [] pos) (tFor w g ts) (mFor mi mg ms) := ⟨hi.k, ps_for hp hc hi.p hg.p hb.p hs, ss_for hi.s hg.s hb.s⟩
/-! comprehensions -/
theorem jts_nil (hK : X.K = K := by rfl) : JTs K E X [] tYes (fun _ h => .ok true h) := ⟨hK, pts_nil, sd_yes⟩
variable {elt iter : Expr} {ifs : List Expr} {scope : Scope} {own : List (Str × Nat)} {te : TE} {me : M D}
theorem jf_lc (hN : X.N.Nodup) (hi : JI K E X tg iter w mi) (ok : BlkOk X.N X.env.scope scope own) (hv : GW (own.map (·.2)) g)
    (hg : ∀ (s : Shared) (H : Hp) (C : Addr) (cl : List (Str × Addr)) (fp : List Addr), JG K E (X.blk s H scope (compEnvC scope cl C X.env) fp) tg g mg) (ht : ∀ (s : Shared) (H : Hp) (C : Addr) (cl : List (Str × Addr)) (fp : List Addr), JTs K E (X.blk s H scope (compEnvC scope cl C X.env) fp) ifs tt mt)
    (he : ∀ (s : Shared) (H : Hp) (C : Addr) (cl : List (Str × Addr)) (fp : List Addr), JE K E (X.blk s H scope (compEnvC scope cl C X.env) fp) elt te me) (hc : X.calm = true := by rfl) (hs : ∀ x, foldedSetIterable iter X.env x = pure x := by intro _; rfl) :
    JF K E X (.ListComp elt [⟨tg, iter, ifs, 0⟩] scope pos) (tLc w g tt te (own.map (·.2))) (mLc mi mg mt me (own.map (·.2))) := by
  have hg0 := hg X.s_0 X.H_0 default [] []
  have ht0 := ht X.s_0 X.H_0 default [] []
  have he0 := he X.s_0 X.H_0 default [] []
  exact ⟨hi.k, pe_lc hc hN hi.p ok (fun s H C cl fp => (hg s H C cl fp).p) (fun s H C cl fp => (ht s H C cl fp).p) (fun s H C cl fp => (he s H C cl fp).p) hs, sf_lc hi.s hg0.s hv ht0.s he0.s⟩
end
end Ab

/-! Calls whose values hold nothing mutable: computed over the empty heap, the caller's heap stays. -/
namespace Ab
open PySem PySem.Spec L2
section
variable {K : PySem.W.Frag} {E : XK} {ρ ρ' ρ1 : Ro} {P H P' H' P1 H1 : Hp}
/-- what a def computes over nothing, told over h -/
def overD (h : AH) : R D → R D
  | .ok d _ => if below 0 d = true then .ok d h else .bad
  | .exc x fs _ => if belowL 0 (fs.map (·.2)) = true then .exc x fs h else .bad
  | .bad => .bad
def callP (n : Nat) (F : Fn) (ds : List D) (h : AH) : R D := if ds.length = n ∧ belowL 0 ds = true then overD h (F ds []) else .bad
def mCallP (n : Nat) (F : Fn) (m : M (List D)) : M D := fun env h => (m env h).bind (callP n F)
def mCallKP (n : Nat) (F : Fn) (g : List D → List D → List D) (m mk : M (List D)) : M D := fun env h => (m env h).bind fun ds h1 => (mk env h1).bind fun es h2 => callP n F (g ds es) h2
theorem step_over {h h' : AH} (s : SR K ρ P H h) (t : Step (cutR 0 ρ) P H ρ' P' H') (s' : SR K ρ' P' H' h') : Step ρ P H ρ P' H' ∧ SR K ρ P' H' h := by
  have n0 : ∀ a, NoR (cutR 0 ρ) a := fun a n e => by
    have e : (if n < 0 then ρ n else none) = some a := e
    rw [if_neg (Nat.not_lt_zero n)] at e
    cases e
  have newp : ∀ a, P a = none → ((∃ n, ρ n = some a) ∨ ∃ u, H a = some u ∧ noTup u = true) → P' a = none := fun a e z => t.newp a e (.inr (by
    rcases z with ⟨n, en⟩ | z
    · obtain ⟨o, _, r⟩ := s.here en
      exact r.own
    · exact z))
  have st : Step ρ P H ρ P' H' := ⟨fun _ _ e => e, t.pure, fun n a e e' => (by rw [e] at e'; cases e'), newp, fun a o e _ w => t.keep a o e (n0 a) w, t.there⟩
  refine ⟨st, s'.sub, s'.subD, fun n a e => ?_, s.inj, fun n o e => ?_, s.dom, s'.tabs⟩
  · exact st.noP (s.apart n a e) (.inl ⟨n, e⟩)
  · obtain ⟨a, e1, r⟩ := s.obj n o e
    exact ⟨a, e1, r.up (fun _ _ e => e) t.pure fun o e => t.keep a o e (n0 a) ⟨noC_nT (r.noC o e), .inl (s.apart n a e1)⟩⟩
theorem none_up : ∀ n a, cutR 0 ρ' n = some a → ρ n = some a := fun n a e => by
  have e : (if n < 0 then ρ' n else none) = some a := e
  rw [if_neg (Nat.not_lt_zero n)] at e
  cases e
theorem post_over {h : AH} (s : SR K ρ P H h) {Q : VK} : ∀ {r : R D}, Post K (RV K) E ρ P H Q (overD h r) → Post K (RV K) E (cutR 0 ρ) P H Q r
  | .bad, p => p
  | .exc x fs h', p => by
    intro ρ' P' H' dd t s' rx
    have p : Post K (RV K) E ρ P H Q (if belowL 0 (fs.map (·.2)) = true then .exc x fs h else .bad) := p
    split at p
    · rename_i hb
      obtain ⟨st, sr⟩ := step_over s t s'
      refine p _ P' H' dd st sr ?_
      rcases rx with z | ⟨da, fvs, e1, e2, e3, r⟩
      · exact .inl z
      · exact .inr ⟨da, fvs, e1, e2, e3, (r.cut hb).up none_up (fun _ _ e => e)⟩
    · exact p.elim
  | .ok d h', p => by
    intro ρ' P' H' v t s' w
    have p : Post K (RV K) E ρ P H Q (if below 0 d = true then .ok d h else .bad) := p
    split at p
    · rename_i hd
      obtain ⟨st, sr⟩ := step_over s t s'
      exact p _ P' H' v st sr ((w.cut hd).up none_up (fun _ _ e => e))
    · exact p.elim
theorem sp_over {n : Nat} {F : Fn} {ds : List D} {vs : List V} {h : AH} (s : SR K ρ P H h) (w : RepL K ρ P ds vs) {Q : VK} (p : Post K (RV K) E ρ P H Q (callP n F ds h)) : spD K n F vs H Q E := by
  unfold callP at p
  split at p
  · rename_i hl
    have sc := s.cut (h' := h) (n := 0) (by simp)
    exact ⟨by rw [w.length]; exact hl.1, cutR 0 ρ, P, [], ds, sc, w.cut hl.2, post_over s p⟩
  · exact p.elim
theorem sd_callP {n : Nat} {F : Fn} {t : TA} {m : M (List D)} (ha : Sd K (RVs K) E t m) : Sd K (RV K) E (tCall (spD K n F) [] E t) (mCallP n F m) := fun ρ P σ H env h s re Q p =>
  ha ρ P σ H env h s re _ (Post.bind p fun a h1 ρ1 P1 H1 v t1 s1 w1 p1 => by
    show spD K n F (v ++ []) H1 Q E
    rw [List.append_nil]
    exact sp_over s1 w1 p1)
variable {X : Cx} {k : Nat} {x : Str} {ps ks : List Str} {F : Fn} {st : Stmt} {e : Expr} {es : List Expr} {t tk : TA} {m mk : M (List D)} {pn pos : Pos} {kws : List Keyword} {l n N : Nat}
theorem je_callP (G : Cal X.prog X.w K X.mg X.base k x ps F st) (hr : Room k X.A) (hgu : X.A.guards = some []) (ha : JA K E X (e :: es) t m) (hn : ps.length = n := by rfl) (hx : Passes (L2.CX X.prog X.w) X E := by first | exact passE | exact passX) (hg : Gl X x := by rfl)
    (hdb : (x == ("__debug__" : Str)) = false := by decide) (he : starEach (e :: es) X.env = (false, eval e X.env) :: starEach es X.env := by rfl) (hpl : (backTo pos (starEach es X.env)).any (·.1) = false := by rfl) :
    JE K E X (.Call (.Name x pn) (e :: es) [] pos) (tCall (spD K n F) [] E t) (mCallP n F m) := by
  obtain ⟨hK, hp, hq⟩ := ha
  subst hK
  subst hn
  obtain ⟨f, fd, G, hm, hk, hb, _⟩ := G.ex
  exact ⟨rfl, pe_callG G hr hgu hg hm hk hb hx hp hdb he hpl, sd_callP hq⟩
end
end Ab

/-! Dicts whose keys are flat tuples. -/
namespace Ab
open PySem PySem.Spec L2
section
variable {K : PySem.W.Frag} {E : XK} {ρ ρ' ρ1 : Ro} {P H P' H' P1 H1 : Hp}
def keyD : D → Option Key
  | .int i => some (.inl i)
  | .str x => some (.inr x)
  | _ => none
def keyL : List D → Option (List Key)
  | [] => some []
  | d :: ds => match keyD d, keyL ds with
    | some k, some ks => some (k :: ks)
    | _, _ => none
theorem keyD_ok {d : D} {v : V} {k : Key} (r : Rep K ρ P d v) (e : keyD d = some k) : v = kV k := by
  cases r <;> simp [keyD] at e
  · subst e; rfl
  · subst e; rfl
theorem keyL_ok : ∀ {ds : List D} {vs : List V} {ks : List Key}, RepL K ρ P ds vs → keyL ds = some ks → vs = ks.map kV
  | [], _, ks, r, e => by cases r; simp [keyL] at e; subst e; rfl
  | d :: ds, _, ks, r, e => by
    cases r with
    | cons a b =>
      unfold keyL at e
      cases q : keyD d with
      | none => rw [q] at e; cases e
      | some k =>
        cases q2 : keyL ds with
        | none => rw [q, q2] at e; cases e
        | some ks2 =>
          rw [q, q2] at e
          cases e
          rw [keyD_ok a q, keyL_ok b q2]; rfl
def keyT (d : D) : Option (List Key) := match d with
  | .tup ds => keyL ds
  | _ => none
theorem keyT_ok {h : AH} {d : D} {v : V} {ks : List Key} (s : SR K ρ P H h) (r : Rep K ρ P d v) (e : keyT d = some ks) : ∃ b, v = .ref b ∧ H b = some (.tup (ks.map kV)) := by
  cases r with
  | tup q w => exact ⟨_, rfl, by rw [← keyL_ok w e]; exact s.sub _ _ q rfl⟩
  | _ => cases e
def keyEq1 : Key → Key → Bool
  | .inl (.ofNat a), .inl (.ofNat b) => Nat.beq a b
  | .inl (.negSucc a), .inl (.negSucc b) => Nat.beq a b
  | .inr a, .inr b => decide (a = b)
  | _, _ => false
def keyEq : List Key → List Key → Bool
  | [], [] => true
  | a :: r, b :: s => match keyEq1 a b with
    | true => keyEq r s
    | false => false
  | _, _ => false
theorem keyEq1_is (a b : Key) : keyEq1 a b = decide (a = b) := by
  cases a with
  | inl a =>
    cases b with
    | inl b =>
      cases a with
      | ofNat a => cases b with
        | ofNat b => by_cases z : a = b
                     · subst z; simp [keyEq1]
                     · have : Nat.beq a b = false := by rw [Bool.eq_false_iff]; exact fun y => z (Nat.eq_of_beq_eq_true y)
                       simp only [keyEq1, this]
                       exact (decide_eq_false fun y => z (by cases y; rfl)).symm
        | negSucc b => simp [keyEq1]
      | negSucc a => cases b with
        | ofNat b => simp [keyEq1]
        | negSucc b => by_cases z : a = b
                       · subst z; simp [keyEq1]
                       · have : Nat.beq a b = false := by rw [Bool.eq_false_iff]; exact fun y => z (Nat.eq_of_beq_eq_true y)
                         simp only [keyEq1, this]
                         exact (decide_eq_false fun y => z (by cases y; rfl)).symm
    | inr b => cases a <;> simp [keyEq1]
  | inr a =>
    cases b with
    | inl b => cases b <;> simp [keyEq1]
    | inr b => simp [keyEq1]
theorem keyEq_is : ∀ a b : List Key, keyEq a b = decide (a = b)
  | [], [] => by simp [keyEq]
  | [], _ :: _ => by simp [keyEq]
  | _ :: _, [] => by simp [keyEq]
  | a :: r, b :: s => by
    have ih := keyEq_is r s
    simp only [keyEq, keyEq1_is]
    by_cases z : a = b
    · subst z; simp [ih]
    · simp [z]
def fGet (kvs : List (List Key × D)) (k : List Key) : Option D := (kvs.find? fun kv => keyEq kv.1 k).map (·.2)
def fPut (kvs : List (List Key × D)) (k : List Key) (v : D) : List (List Key × D) :=
  if (kvs.any fun kv => keyEq kv.1 k) = true then kvs.map (fun kv => match keyEq kv.1 k with
    | true => (kv.1, v)
    | false => kv) else kvs ++ [(k, v)]
theorem fGet_is {kvs : List (List Key × D)} {k : List Key} : fGet kvs k = (kvs.find? fun kv => decide (kv.1 = k)).map (·.2) := by
  unfold fGet
  simp only [keyEq_is]
theorem fPut_is {kvs : List (List Key × D)} {k : List Key} {v : D} : fPut kvs k v = if (kvs.any fun kv => decide (kv.1 = k)) = true then kvs.map (fun kv => if kv.1 = k then (kv.1, v) else kv) else kvs ++ [(k, v)] := by
  have e : (fun kv : List Key × D => match keyEq kv.1 k with
    | true => (kv.1, v)
    | false => kv) = (fun kv => if kv.1 = k then (kv.1, v) else kv) := by
    funext kv
    rw [keyEq_is]
    by_cases z : kv.1 = k
    · rw [decide_eq_true z, if_pos z]
    · rw [decide_eq_false z, if_neg z]
  unfold fPut
  rw [e]
  simp only [keyEq_is]
theorem get_rel {k : List Key} : ∀ {kvs : List (List Key × D)} {kws : List (List Key × V)}, kws.map (·.1) = kvs.map (·.1) → RepL K ρ P (kvs.map (·.2)) (kws.map (·.2)) →
    (fGet kvs k = none ∧ valV kws k = none) ∨ ∃ d v, fGet kvs k = some d ∧ valV kws k = some v ∧ Rep K ρ P d v
  | [], [], _, _ => .inl ⟨rfl, rfl⟩
  | [], _ :: _, e, _ => by cases e
  | _ :: _, [], e, _ => by cases e
  | p :: kvs, q :: kws, e, r => by
    simp only [List.map_cons, List.cons.injEq] at e
    simp only [List.map_cons] at r
    cases r with
    | cons a b =>
      by_cases z : p.1 = k
      · have z2 : q.1 = k := by rw [e.1]; exact z
        exact .inr ⟨p.2, q.2, by simp [fGet_is, z], by simp [valV, z2], a⟩
      · have z2 : ¬ q.1 = k := by rw [e.1]; exact z
        rcases get_rel (k := k) e.2 b with ⟨h1, h2⟩ | ⟨d, v, h1, h2, h3⟩
        · refine .inl ⟨?_, ?_⟩
          · simpa [fGet_is, z] using h1
          · simpa [valV, z2] using h2
        · refine .inr ⟨d, v, ?_, ?_, h3⟩
          · simpa [fGet_is, z] using h1
          · simpa [valV, z2] using h2
theorem any_rel {k : List Key} {kvs : List (List Key × D)} {kws : List (List Key × V)} (e : kws.map (·.1) = kvs.map (·.1)) : (kws.any fun kv => decide (kv.1 = k)) = (kvs.any fun kv => decide (kv.1 = k)) := by
  have h1 : (kws.any fun kv => decide (kv.1 = k)) = ((kws.map (·.1)).any fun x => decide (x = k)) := by rw [List.any_map]; rfl
  have h2 : (kvs.any fun kv => decide (kv.1 = k)) = ((kvs.map (·.1)).any fun x => decide (x = k)) := by rw [List.any_map]; rfl
  rw [h1, h2, e]
theorem repl_rel {k : List Key} {d : D} {v : V} (rd : Rep K ρ P d v) : ∀ {kvs : List (List Key × D)} {kws : List (List Key × V)}, kws.map (·.1) = kvs.map (·.1) → RepL K ρ P (kvs.map (·.2)) (kws.map (·.2)) →
    (kws.map fun kv => if kv.1 = k then (kv.1, v) else kv).map (·.1) = (kvs.map fun kv => if kv.1 = k then (kv.1, d) else kv).map (·.1) ∧ RepL K ρ P ((kvs.map fun kv => if kv.1 = k then (kv.1, d) else kv).map (·.2)) ((kws.map fun kv => if kv.1 = k then (kv.1, v) else kv).map (·.2))
  | [], [], _, _ => ⟨rfl, .nil⟩
  | [], _ :: _, e, _ => by cases e
  | _ :: _, [], e, _ => by cases e
  | p :: kvs, q :: kws, e, r => by
    simp only [List.map_cons, List.cons.injEq] at e
    simp only [List.map_cons] at r
    cases r with
    | cons a b =>
      obtain ⟨h1, h2⟩ := repl_rel (k := k) rd e.2 b
      by_cases z : p.1 = k
      · have z2 : q.1 = k := by rw [e.1]; exact z
        simp only [List.map_cons, z, z2, if_true]
        exact ⟨by rw [h1], .cons rd h2⟩
      · have z2 : ¬ q.1 = k := by rw [e.1]; exact z
        simp only [List.map_cons, z, z2, if_false]
        exact ⟨by rw [h1, e.1], .cons a h2⟩
theorem put_rel {k : List Key} {d : D} {v : V} (rd : Rep K ρ P d v) {kvs : List (List Key × D)} {kws : List (List Key × V)} (e : kws.map (·.1) = kvs.map (·.1)) (r : RepL K ρ P (kvs.map (·.2)) (kws.map (·.2))) :
    (putK kws k v).map (·.1) = (fPut kvs k d).map (·.1) ∧ RepL K ρ P ((fPut kvs k d).map (·.2)) ((putK kws k v).map (·.2)) := by
  rw [fPut_is]
  unfold putK
  rw [any_rel e]
  split
  · exact repl_rel rd e r
  · simp only [List.map_append, List.map_cons, List.map_nil]
    exact ⟨by rw [e], r.append (.cons rd .nil)⟩
/-! {} -/
def mDNew : M D := fun _ h => .ok (.loc h.length) (h ++ [.dct []])
/-! x in d, d[x] -/
def dctD (d : D) (h : AH) : Option (List (List Key × D)) := match d with
  | .loc n => (match h[n]? with
    | some (.dct kvs) => some kvs
    | _ => none)
  | .dic ks ds => some (ks.zip ds)
  | _ => none
theorem dctD_ok {h : AH} {d : D} {v : V} {kvs : List (List Key × D)} (s : SR K ρ P H h) (r : Rep K ρ P d v) (e : dctD d h = some kvs) : ∃ a kws, v = .ref a ∧ Rd H a (.dT kws) ∧ kws.map (·.1) = kvs.map (·.1) ∧ RepL K ρ P (kvs.map (·.2)) (kws.map (·.2)) := by
  cases r with
  | loc e1 =>
    obtain ⟨o, eo, x⟩ := s.here e1
    simp only [dctD, eo] at e
    cases o with
    | lst ds => cases e
    | dct kvs2 =>
      cases e
      obtain ⟨kws, e3, e4, q⟩ := x
      exact ⟨_, kws, rfl, .inl e3, e4, q⟩
    | ins c fs => cases e
    | ndt kvs => cases e
  | dic p ez l q =>
    cases e
    have l2 := q.length
    refine ⟨_, _, rfl, s.subD _ _ p, ?_, ?_⟩
    · rw [ez, List.map_fst_zip (by omega), List.map_fst_zip (by omega)]
    · rw [ez, List.map_snd_zip (by omega), List.map_snd_zip (by omega)]; exact q
  | _ => cases e
theorem dget_rd {H : Hp} {a b : Addr} {kvs : List (List Key × V)} {k : List Key} (e : Rd H a (.dT kvs)) (eb : H b = some (.tup (k.map kV))) : DGet H a (.ref b) (valV kvs k) := .inr ⟨kvs, k, b, e, rfl, eb, rfl⟩
def dInD (neg : Bool) (y d : D) (h : AH) : R D := match keyT y, dctD d h with
  | some k, some kvs => .ok (.bl (if neg then !(fGet kvs k).isSome else (fGet kvs k).isSome)) h
  | _, _ => .bad
def dGetD (d y : D) (h : AH) : R D := match keyT y, dctD d h with
  | some k, some kvs => (match fGet kvs k with
    | some v => .ok v h
    | none => .bad)
  | _, _ => .bad
/-! d[x] = v -/
def dPutD (v d y : D) (h : AH) : R Unit := match d, keyT y, dctD d h with
  | .loc n, some k, some kvs => if kvs.length < sizeLine then .ok () (h.set n (.dct (fPut kvs k v))) else .bad
  | _, _, _ => .bad
def mDPut (mv md my : M D) : MS := fun env h => (mv env h).then fun v h1 => (md env h1).then fun d h2 => (my env h2).then fun y h3 => (dPutD v d y h3).then fun _ h4 => .nx env h4
variable {X : Cx} {a b : Expr} {ta tb tc : TE} {ma mb mc : M D} {pos pos' : Pos} {c : Expr} {k : Nat}
/-! three at once -/
def mPar3 (i j l : Nat) (m : M (List D)) : MS := fun env h => (m env h).then fun ds h1 => match ds with
  | [a, b, c] => .nx (((env.set i (some a)).set j (some b)).set l (some c)) h1
  | _ => .bad
end
end Ab

/-! Texts taken apart, ranges as lists and tuples, two sequences side by side. -/
namespace Ab
open PySem PySem.Spec L2
section
variable {K : PySem.W.Frag} {E : XK} {ρ ρ' ρ1 : Ro} {P H P' H' P1 H1 : Hp}
/-! list(range(..)), tuple(range(..)) -/
structure JR (K : PySem.W.Frag) (E : XK) (X : Cx) (e : Expr) (t : L2.St → Hp → (Int → Int → Hp → Prop) → Prop) (m : M (Int × Int)) : Prop where
  k : X.K = K
  p : PRg X e t
  s : ∀ ρ P σ H env h, SR K ρ P H h → RE K ρ P env σ → ∀ Q : Int → Int → Hp → Prop, Post K (RQ (Int × Int)) E ρ P H (fun ab H => Q ab.1 ab.2 H) (m env h) → t σ H Q
def mRg1 (ma : M D) : M (Int × Int) := fun env h => (ma env h).bind fun a h1 => match a with
  | .int n => .ok (0, n) h1
  | _ => .bad
def mRg2 (ma mb : M D) : M (Int × Int) := fun env h => (ma env h).bind fun a h1 => (mb env h1).bind fun b h2 => match a, b with
  | .int i, .int j => .ok (i, j) h2
  | _, _ => .bad
variable {X : Cx} {a b : Expr} {ta tb : TE} {ma mb : M D} {pos pn : Pos} {tr : L2.St → Hp → (Int → Int → Hp → Prop) → Prop} {mr : M (Int × Int)} {e : Expr}
instance insRg (a b : Int) : Decidable (RgOk a b) := inferInstanceAs (Decidable (_ ∧ _))
def mLstRg (m : M (Int × Int)) : M (List D) := fun env h => (m env h).bind fun ab h1 => if InW ab.1 ∧ InW ab.2 ∧ (ab.2 - ab.1).toNat ≤ 2 ^ 24 then .ok (rngD ab.1 ab.2) h1 else .bad
def mTupRg (m : M (Int × Int)) : M D := fun env h => (m env h).bind fun ab h1 => if InW ab.1 ∧ InW ab.2 ∧ (ab.2 - ab.1).toNat ≤ 2 ^ 24 then .ok (.tup (rngD ab.1 ab.2)) h1 else .bad
/-! s.split(sep) -/
def mSplit (mo me : M D) : M (List D) := fun env h => (mo env h).bind fun a h1 => match a with
  | .str x => (me env h1).bind fun b h2 => (match b with
    | .str y => if (y.length == 0) = false ∧ x.length + 2 ≤ sizeLine then .ok ((Txt.split x y).map D.str) h2 else .bad
    | _ => .bad)
  | _ => .bad
/-! int(text) -/
def intSD : List D → AH → R D
  | [.str x], h => (match PySem.intText? x with
    | some n => if x.length ≤ 640 then .ok (.int n) h else .bad
    | none => .bad)
  | _, _ => .bad
theorem cb_intS : CbS K E (fun xs H Q => ∃ a n, xs = [.str a] ∧ PySem.intText? a = some n ∧ a.length ≤ 640 ∧ Q (.int n) H) intSD := fun ρ P H h vs ds s w Q p => by
  unfold intSD at p
  split at p
  · obtain ⟨v, rfl, r⟩ := w.one
    cases r
    split at p
    · rename_i n en
      split at p
      · rename_i hl; exact ⟨_, n, rfl, en, hl, Post.here p s (.int _)⟩
      · exact p.elim
    · exact p.elim
  · exact p.elim
end
end Ab

/-! Two sequences side by side. -/
namespace Ab
open PySem PySem.Spec L2
section
variable {K : PySem.W.Frag} {E : XK} {ρ ρ' ρ1 : Ro} {P H P' H' P1 H1 : Hp}
def zipD (xs ys : List D) : List D := List.zipWith (fun x y => D.tup [x, y]) xs ys
def zipA : List D → Option (List D)
  | [.lst xs, .lst ys] => some (zipD xs ys)
  | [.tup xs, .tup ys] => some (zipD xs ys)
  | _ => none
def miZip (m : M (List D)) : MI := fun env h => (m env h).bind fun ds h1 => match zipA ds with
  | some l => .ok (.items l) h1
  | none => .bad
variable {X : Cx} {e e2 : Expr} {t : TA} {m : M (List D)} {pos pn tpos : Pos} {elts : List Expr} {kk : Nat}
end
end Ab

/-! Objects that never change: their attributes. -/
namespace Ab
open PySem PySem.Spec L2
section
variable {K : PySem.W.Frag} {E : XK} {ρ ρ' ρ1 : Ro} {P H P' H' P1 H1 : Hp}
def fldD (c f : Str) (d : D) (h : AH) : R D := match d with
  | .obj c' ns ds => if c' = c then (match (ns.zip ds).lookup f with
    | some v => .ok v h
    | none => .bad) else .bad
  | _ => .bad
variable {X : Cx} {a : Expr} {ta : TE} {ma : M D} {pos : Pos} {f c : Str}
end
end Ab

/-! Comprehensions with two loops. -/
namespace Ab
open PySem PySem.Spec L2
section
variable {K : PySem.W.Frag} {E : XK} {ρ ρ' ρ1 : Ro} {P H P' H' P1 H1 : Hp}
def lc2Items (g : MG) (c : M Bool) (w1 : MI) (g1 : MG) (c1 : M Bool) (e : M D) (vs1 : List Nat) (env : En) : List D → AH → R (List D)
  | [], h => .ok [] h
  | d :: ds, h => (g d env h).bind fun env1 h1 => (c env1 h1).bind fun b h2 => if b = true then (w1 env1 h2).bind fun a h3 => (match a with
      | .items es => if es.length ≤ 1000 then (lcItems g1 c1 e (wipeE env1 vs1) es h3).bind fun ys h4 => (lc2Items g c w1 g1 c1 e vs1 env ds h4).bind fun r h5 => .ok (ys ++ r) h5 else .bad
      | .at_ _ => .bad) else lc2Items g c w1 g1 c1 e vs1 env ds h2
def mLc2 (w : MI) (g : MG) (c : M Bool) (w1 : MI) (g1 : MG) (c1 : M Bool) (e : M D) (vs vs1 : List Nat) : M (List D) := fun env h => (w env h).bind fun a h1 => match a with
  | .items ds => if ds.length ≤ 16000 then lc2Items g c w1 g1 c1 e vs1 (wipeE env vs) ds h1 else .bad
  | .at_ _ => .bad
variable {X : Cx} {tg tg1 elt iter iter1 : Expr} {ifs ifs1 : List Expr} {scope : Scope} {own : List (Str × Nat)} {te : TE} {me : M D} {w w1 : TI} {g g1 : TG} {tt tt1 : TT} {mi mi1 : MI} {mg mg1 : MG} {mt mt1 : M Bool} {pos spos : Pos} {vs1 : List Nat}
end
end Ab

/-! join; sorted whole numbers. -/
namespace Ab
open PySem PySem.Spec L2
section
variable {K : PySem.W.Frag} {E : XK} {ρ ρ' ρ1 : Ro} {P H P' H' P1 H1 : Hp}
def strsD : List D → Option (List Str)
  | [] => some []
  | .str x :: ds => (strsD ds).map (x :: ·)
  | _ => none
/-- a list or a tuple of texts -/
def textsD (d : D) (h : AH) : Option (List Str) := match d with
  | .tup ds => strsD ds
  | d => (seqD d h).bind strsD
def joinD (a b : D) (h : AH) : R D := match a, textsD b h with
  | .str x, some ys => if (ys.map (·.length)).sum + ys.length * x.length ≤ 16777216 then .ok (.str (Txt.join x ys)) h else .bad
  | _, _ => .bad
def mJoin (mo me : M D) : M D := fun env h => (mo env h).bind fun a h1 => match a with
  | .str x => (me env h1).bind fun b h2 => joinD (.str x) b h2
  | _ => .bad
variable {X : Cx} {a b : Expr} {ta tb : TE} {ma mb : M D} {pos apos : Pos}
/-! sorted(ints) -/
def insI (x : Int) : List Int → List Int
  | [] => [x]
  | y :: l => if x ≤ y then x :: y :: l else y :: insI x l
def sortI : List Int → List Int
  | [] => []
  | x :: l => insI x (sortI l)
def sortedD (ds : List D) (h : AH) : R (List D) := match ds with
  | [d] => (match (seqD d h).bind intsD with
    | some ns => .ok ((sortI ns).map D.int) h
    | none => .bad)
  | _ => .bad
variable {x : Str} {pn : Pos} {e : Expr} {es : List Expr} {t : TA} {m : M (List D)}
end
end Ab

/-! Starred parts of displays and of argument lists. -/
namespace Ab
open PySem PySem.Spec L2
section
variable {K : PySem.W.Frag} {E : XK} {ρ ρ' ρ1 : Ro} {P H P' H' P1 H1 : Hp}
/-- what a star spreads: a list or a tuple -/
def spreadD (d : D) (h : AH) : Option (List D) := match d with
  | .tup ds => some ds
  | d => seqD d h
theorem spreadD_ok {h : AH} {d : D} {v : V} {ds : List D} (s : SR K ρ P H h) (w : Rep K ρ P d v) (e : spreadD d h = some ds) : ∃ p vs, v = .ref p ∧ (SqL K H p vs ∨ SqT K H p vs) ∧ RepL K ρ P ds vs := by
  by_cases z : ∃ ds, d = .tup ds
  · obtain ⟨es, rfl⟩ := z
    cases w with
    | tup q r =>
      have e : some es = some ds := e
      cases e
      exact ⟨_, _, rfl, .inr (.of (s.sub _ _ q rfl)), r⟩
  · have e : seqD d h = some ds := by
      cases d with
      | tup ds => exact absurd ⟨ds, rfl⟩ z
      | _ => exact e
    obtain ⟨a, vs, rfl, sq, r⟩ := seqD_sq s w e
    exact ⟨a, vs, rfl, .inl sq, r⟩
def mStar (ma : M D) (mr : M (List D)) : M (List D) := fun env h => (ma env h).bind fun a h1 => match spreadD a h1 with
  | some ds => (mr env h1).bind fun r h2 => .ok (ds ++ r) h2
  | none => .bad
variable {X : Cx} {e : Expr} {es : List Expr} {te : TE} {t : TA} {me : M D} {m : M (List D)} {sp : Pos}
end
end Ab

/-! enumerate of a tuple: how the thing is made (the turns are still to be done). -/
namespace Ab
open PySem PySem.Spec PyProof.Rows L2
/-- the tuple's own iterator, then the enumerate over it -/
abbrev tupIt (l : Addr) : Obj := { cls := .type "tuple_iterator", data := .fields #[.ref l, .int 0 0] }
abbrev enumOver (it : Addr) : Obj := { cls := .type "enumerate", data := .fields #[.none, .bool false, .ref it, rawInt 0, .none, .none] }
/-- the tuple at a, each item in a new pair -/
def IteT (K : PySem.W.Frag) (a : Addr) : It :=
  ⟨fun i H => ∃ (xs : List V) (x : V), SqT K H a xs ∧ xs[i]? = some x, fun i H v H2 => ∃ T x, v = .ref T ∧ H T = none ∧ H2 = upd H T (.tup [.int (i : Nat), x]) ∧ ∀ xs, SqT K H a xs → xs[i]? = some x, fun i H => ∃ xs : List V, SqT K H a xs ∧ xs.length ≤ i⟩
def iEnumA (K : PySem.W.Frag) (ta : TA) : TI := fun σ H R => ta σ H fun vs H1 => ∃ a xs, vs = [.ref a] ∧ ((SqL K H1 a xs ∧ R (Ite K a) H1) ∨ (SqT K H1 a xs ∧ R (IteT K a) H1))
end Ab

/-! enumerate: the pairs. -/
namespace Ab
open PySem PySem.Spec L2
section
variable {K : PySem.W.Frag} {E : XK} {ρ ρ' ρ1 : Ro} {P H P' H' P1 H1 : Hp}
def enumD (ds : List D) : List D := ds.zipIdx.map fun p => D.tup [.int (p.2 : Nat), p.1]
def enumA (ds : List D) : Option (List D) := match ds with
  | [.lst xs] => some (enumD xs)
  | [.tup xs] => some (enumD xs)
  | _ => none
def miEnum (m : M (List D)) : MI := fun env h => (m env h).bind fun ds h1 => match enumA ds with
  | some l => .ok (.items l) h1
  | none => .bad
variable {X : Cx} {e : Expr} {t : TA} {m : M (List D)} {pos pn tpos : Pos} {elts : List Expr} {kk : Nat}
end
end Ab

/-! Dict comprehensions whose keys are flat tuples. -/
namespace Ab
open PySem PySem.Spec L2
end Ab

/-! One core for the comprehensions of every kind. -/
namespace Ab
open PySem PySem.Spec L2 PyProof.Rows
/-- what a turn does behind its tests: from a state to all states behind -/
abbrev Act := Addr → Env → (Shared → Prop) → Shared → Prop
abbrev TAct := Addr → L2.St → Hp → (Hp → Prop) → Prop
def ActOk (X : Cx) (act : Act) (vs : List Nat) (t : TAct) : Prop := ∀ (D : Addr) (pins : List (Addr × Obj)) (s : Shared) (σ : L2.St) (H : Hp) (Q : Hp → Prop), Inv X pins σ H s → t D σ H Q →
  act D X.env (fun z => ∃ σ2 H2, Inv X pins σ2 H2 z ∧ σ2.length = σ.length ∧ (∀ (j : Nat) v, j ∉ vs → σ[j]? = some (some v) → σ2[j]? = some (some v)) ∧ Q H2) s
def ActMono (act : Act) : Prop := ∀ (D : Addr) (e : Env) (Q R : Shared → Prop) (s : Shared), (∀ z, Q z → R z) → act D e Q s → act D e R s
/-- no error comes -/
abbrev Nox : Value → Shared → Prop := fun _ _ => False
def testing (ifs : List Expr) (e : Env) : Sem Bool := forIn ifs true fun c r => if r = true then do let b ← isTrue c e (eval c e); pure (ForInStep.yield b) else pure (ForInStep.yield r)
def LoopOk (P : Program) (w : World) (A : Around) (comp tg : Expr) (ifs : List Expr) (ix : Nat) (act : Act) : Prop := ∀ (R : Result → Shared → Prop) (it : Value) (D : Addr) (e : Env) (I : Nat → Shared → Prop),
  (∀ n s, I n s → wpAny (model P w) A (pyNext it) (fun r s1 => match r with
    | none => R (.ok .next) s1
    | some v => wpAny (model P w) A (letOwnedTupleGo tg it v) (fun _ s2 => wpAny (model P w) A (assign tg e v) (fun _ s3 => wpAny (model P w) A (testing ifs e) (fun b s4 =>
        if b = true then act D e (fun z => ∃ m, m < n ∧ I m z) s4 else ∃ m, m < n ∧ I m s4) Nox s3) Nox s2) Nox s1) Nox s) →
  ∀ (n : Nat) (s : Shared), I n s → codeAny (model P w) A (.compLoop comp ix it (.ref D) e) R s
/-- what a comprehension's frame asks; o0: what stands at its thing's place when it is made -/
def tCore (o0 : Addr → HO) (wi : TI) (g : TG) (tt : TT) (ta : TAct) (vs : List Nat) : TE := fun σ H Q => wi σ H fun J H1 => ∀ D, H1 D = none → ∃ W : Nat → Nat → Hp → Prop, (∃ m, W 0 m (upd H1 D (o0 D))) ∧ ∀ i m H, W i m H →
  (J.stop i H ∧ Q (.ref D) H) ∨ (J.go i H ∧ ∃ Nx : Hp → Prop, (∀ Z, Nx Z → ∃ k, k < m ∧ W (i + 1) k Z) ∧ ∀ x Z, J.yld i H x Z → g x (wipe σ vs) Z fun σ2 H2 => wipe σ2 vs = wipe σ vs ∧ tt σ2 H2 fun b H3 =>
    if b = true then ta D σ2 H3 Nx else Nx H3)
section
variable {X : Cx}
end
end Ab

/-! The core's parts: dict comprehensions. -/
namespace Ab
open PySem PySem.Spec L2 PyProof.Rows
def actD (P : Program) (w : World) (A : Around) (kx vx : Expr) : Act := fun D e Q s => wpAny (model P w) A (eval kx e) (fun k s1 => wpAny (model P w) A (eval vx e) (fun v s2 => wpAny (model P w) A (dictSet D k v) (fun _ z => Q z) Nox s2) Nox s1) Nox s
/-- a pair whose key is a tuple is put -/
def taDT (tk tv : TE) : TAct := fun D σ H Q => tk σ H fun y H1 => tv σ H1 fun z H2 => ∃ b kvs ks, y = .ref b ∧ H2 b = some (.tup (ks.map kV)) ∧ H2 D = some (.dT kvs) ∧ kvs.length < sizeLine ∧ Q (upd H2 D (.dT (putK kvs ks z)))
section
variable {X : Cx}
end
end Ab

/-! The core's parts: a second clause. -/
namespace Ab
open PySem PySem.Spec L2 PyProof.Rows
/-- a turn of a comprehension's clause, its inner part being emit -/
def TurnEq (comp : Expr) (ix : Nat) (tg : Expr) (ifs : List Expr) (p : Pos) (emit : Addr → Env → Sem PySem.Fin → Sem PySem.Fin) : Prop := ∀ (it : Value) (D : Addr) (env : Env),
  compTurn comp ix it (.ref D) env = (do
    standAt p
    match ← pyNext it with
    | none => pure (.done .next)
    | some v =>
      letOwnedTupleGo tg it v
      assign tg env v
      let mut ok := true
      for c in ifs do
        if ok then ok ← isTrue c env (eval c env)
      if ok then
        emit D env (again (.compLoop comp ix it (.ref D) env))
      else again (.compLoop comp ix it (.ref D) env))
def EmitOk (P : Program) (w : World) (A : Around) (emit : Addr → Env → Sem PySem.Fin → Sem PySem.Fin) (act : Act) : Prop := ∀ (D : Addr) (e : Env) (Q : Shared → Prop) (s : Shared) (k : Sem PySem.Fin) (R : PySem.Fin → Shared → Prop) (E : Value → Shared → Prop), act D e Q s → (∀ z, Q z → wpAny (model P w) A k R E z) → wpAny (model P w) A (emit D e k) R E s
/-- the second clause's source, start and loop -/
def act2 (P : Program) (w : World) (A : Around) (comp i1 : Expr) : Act := fun D e Q s => wpAny (model P w) A (eval i1 e) (fun x s4 => wpAny (model P w) A (pyIter x) (fun it1 s5 =>
  codeAny (model P w) A (.compStart comp 1 it1 (.ref D) e) (fun r s' => match r with
    | .ok _ => Q s'
    | .error _ => False) s5) Nox s4) Nox s
def emit2 (comp i1 : Expr) : Addr → Env → Sem PySem.Fin → Sem PySem.Fin := fun D env k => do
  let x ← eval i1 env
  standAt i1.pos
  let x ← foldedSetIterable i1 env x
  let _ ← runOwn (.compStart comp 1 (← holding [x] (pyIter x)) (.ref D) env) env
  k
def emitDU (kx vx : Expr) (D : Addr) (env : Env) : Sem Unit := do
  let kv ← eval kx env
  let vv ← holding [kv] (eval vx env)
  standAt { kx.pos with endLine := vx.pos.endLine, endCol := vx.pos.endCol }
  holding [kv, vv] (dictSet D kv vv)
def emitD (kx vx : Expr) : Addr → Env → Sem PySem.Fin → Sem PySem.Fin := fun D env k => do
  emitDU kx vx D env
  k
/-- the second clause's start -/
def StartOk (P : Program) (w : World) (A : Around) (comp : Expr) (ix : Nat) : Prop := ∀ (R : Result → Shared → Prop) (s : Shared) (it acc : Value) (e : Env), codeAny (model P w) A (.compLoop comp ix it acc e) R s →
  wpAny (model P w) A (pyIter it) (fun it2 z => codeAny (model P w) A (.compLoop comp ix it2 acc e) R z) Nox s → codeAny (model P w) A (.compStart comp ix it acc e) R s
/-- what the second clause asks -/
def taIn (wi : TI) (g : TG) (tt : TT) (ta : TAct) (vs : List Nat) : TAct := fun D σ H Q => wi σ H fun J H1 => ∃ W : Nat → Nat → Hp → Prop, (∃ m, W 0 m H1) ∧ ∀ i m H, W i m H →
  (J.stop i H ∧ Q H) ∨ (J.go i H ∧ ∃ Nx : Hp → Prop, (∀ Z, Nx Z → ∃ k, k < m ∧ W (i + 1) k Z) ∧ ∀ x Z, J.yld i H x Z → g x (wipe σ vs) Z fun σ2 H2 => wipe σ2 vs = wipe σ vs ∧ tt σ2 H2 fun b H3 =>
    if b = true then ta D σ2 H3 Nx else Nx H3)
section
variable {X : Cx}
end
end Ab

/-! Comprehensions of every kind in the layer: what gathers is told by how it stands. -/
namespace Ab
open PySem PySem.Spec L2
/-- how what was gathered stands: at the place of the new thing -/
structure Acc (K : PySem.W.Frag) (γ : Type) where
  R : γ → Ro → Hp → Addr → HO → Prop
  up : ∀ {a ρ P D o ρ' P'}, R a ρ P D o → (∀ n x, ρ n = some x → ρ' n = some x) → (∀ x u, P x = some u → P' x = some u) → R a ρ' P' D o
  noT : ∀ {a ρ P D o}, R a ρ P D o → noTup o = true ∧ noC o
structure Up (ρ : Ro) (P H : Hp) (ρ' : Ro) (P' H' : Hp) : Prop where
  m : ∀ n a, ρ n = some a → ρ' n = some a
  p : ∀ a o, P a = some o → P' a = some o
  f : Frz H H'
section
variable {K : PySem.W.Frag} {E : XK} {ρ ρ' ρ1 ρ0 : Ro} {P H P' H' P1 H1 P0 H0 : Hp} {γ : Type} {A : Acc K γ} {D0 : Addr}
theorem Up.refl (ρ : Ro) (P H : Hp) : Up ρ P H ρ P H := ⟨fun _ _ e => e, fun _ _ e => e, Frz.refl _⟩
theorem Up.trans (a : Up ρ P H ρ1 P1 H1) (b : Up ρ1 P1 H1 ρ' P' H') : Up ρ P H ρ' P' H' := ⟨fun n x e => b.m n x (a.m n x e), fun x o e => b.p x o (a.p x o e), a.f.trans b.f⟩
theorem Step.up {h : AH} (t : Step ρ P H ρ' P' H') (s : SR K ρ P H h) : Up ρ P H ρ' P' H' := ⟨t.mono, t.pure, t.frz s⟩
structure CmS (A : Acc K γ) (ρ0 : Ro) (P0 H0 : Hp) (D0 : Addr) (ρ : Ro) (P H : Hp) (h : AH) (acc : γ) : Prop where
  t : Step ρ0 P0 H0 ρ P H
  s : SR K ρ P H h
  np : P D0 = none
  nr : NoR ρ D0
  at_ : ∃ o, H D0 = some o ∧ A.R acc ρ P D0 o
theorem CmS.step {h h' : AH} {acc : γ} (x : CmS A ρ0 P0 H0 D0 ρ P H h acc) (t : Step ρ P H ρ' P' H') (s : SR K ρ' P' H' h') : CmS A ρ0 P0 H0 D0 ρ' P' H' h' acc := by
  obtain ⟨o, e, r⟩ := x.at_
  have ne : H D0 ≠ none := by rw [e]; simp
  exact ⟨x.t.trans t, s, t.noP x.np (.inr ⟨_, e, (A.noT r).1⟩), t.noR ne x.nr, o, t.keep _ _ e x.nr ⟨noT_nT (A.noT r).1, .inl x.np⟩, A.up r t.mono t.pure⟩
/-- what was gathered changes -/
theorem CmS.put {h : AH} {acc acc' : γ} {o : HO} (x : CmS A ρ0 P0 H0 D0 ρ P H h acc) (h0 : H0 D0 = none) (r : A.R acc' ρ P D0 o) (nf : ∀ q u, H D0 ≠ some (.frz q u)) : CmS A ρ0 P0 H0 D0 ρ P (upd H D0 o) h acc' ∧ Up ρ P H ρ P (upd H D0 o) :=
  ⟨⟨x.t.loose h0, x.s.loose x.np x.nr (fun u q => by obtain ⟨o', e', r'⟩ := x.at_; rw [e'] at q; cases q; exact (A.noT r').2) (noT_nT (A.noT r).1), x.np, x.nr, o, upd_same, r⟩, fun _ _ e => e, fun _ _ e => e, fun a q u e => by
    have z : a ≠ D0 := fun z => nf q u (z ▸ e)
    rw [upd_ne z]; exact e⟩
/-- what is wanted behind a part of the gathering -/
def PostA (A : Acc K γ) (E : XK) (ρ0 : Ro) (P0 H0 : Hp) (D0 : Addr) (ρ : Ro) (P H : Hp) (Q : Hp → Prop) : R γ → Prop
  | .ok acc h' => ∀ ρ' P' H', CmS A ρ0 P0 H0 D0 ρ' P' H' h' acc → Up ρ P H ρ' P' H' → Q H'
  | .exc x fs h' => ∀ ρ' P' H' dd, Step ρ0 P0 H0 ρ' P' H' → SR K ρ' P' H' h' → RX K ρ' P' fs dd → E (.ref (He.ga K x)) dd H'
  | .bad => False
theorem PostA.up {Q : Hp → Prop} {r : R γ} (p : PostA A E ρ0 P0 H0 D0 ρ P H Q r) (u : Up ρ P H ρ1 P1 H1) : PostA A E ρ0 P0 H0 D0 ρ1 P1 H1 Q r := by
  cases r with
  | ok a h' => exact fun ρ' P' H' x u2 => p ρ' P' H' x (u.trans u2)
  | exc x fs h => exact p
  | bad => exact p
def AcOk (A : Acc K γ) (E : XK) (ta : TAct) (ac : γ → En → AH → R γ) : Prop := ∀ ρ0 P0 H0 D0, H0 D0 = none → ∀ ρ P H h σ env acc, CmS A ρ0 P0 H0 D0 ρ P H h acc → RE K ρ P env σ → ∀ Q, PostA A E ρ0 P0 H0 D0 ρ P H Q (ac acc env h) → ta D0 σ H Q
def cmItems (g : MG) (c : M Bool) (ac : γ → En → AH → R γ) (env : En) : List D → γ → AH → R γ
  | [], acc, h => .ok acc h
  | d :: ds, acc, h => (g d env h).bind fun env1 h1 => (c env1 h1).bind fun b h2 => if b = true then (ac acc env1 h2).bind fun acc' h3 => cmItems g c ac env ds acc' h3 else cmItems g c ac env ds acc h2
/-- the second clause as an action -/
def ac2 (w : MI) (g : MG) (c : M Bool) (ac : γ → En → AH → R γ) (vs : List Nat) : γ → En → AH → R γ := fun acc env h => (w env h).bind fun a h1 => match a with
  | .items es => cmItems g c ac (wipeE env vs) es acc h1
  | .at_ _ => .bad
/-- the whole comprehension: a new thing -/
def PostX (A : Acc K γ) (E : XK) (ρ : Ro) (P H : Hp) (Q : VK) : R γ → Prop
  | .ok acc h' => ∀ ρ' P' H' p o, Step ρ P H ρ' P' H' → SR K ρ' P' H' h' → H p = none → P' p = none → NoR ρ' p → H' p = some o → A.R acc ρ' P' p o → Q (.ref p) H'
  | .exc x fs h' => ∀ ρ' P' H' dd, Step ρ P H ρ' P' H' → SR K ρ' P' H' h' → RX K ρ' P' fs dd → E (.ref (He.ga K x)) dd H'
  | .bad => False
def SdX (A : Acc K γ) (E : XK) (t : TE) (m : M γ) : Prop := ∀ ρ P σ H env h, SR K ρ P H h → RE K ρ P env σ → ∀ Q, PostX A E ρ P H Q (m env h) → t σ H Q
def mCm (w : MI) (g : MG) (c : M Bool) (ac : γ → En → AH → R γ) (a0 : γ) (vs : List Nat) : M γ := fun env h => (w env h).bind fun a h1 => match a with
  | .items ds => cmItems g c ac (wipeE env vs) ds a0 h1
  | .at_ _ => .bad
end
end Ab

/-! sorted({..}): sets of tuples of whole numbers, gathered by a comprehension and sorted. -/
namespace Ab
open PySem PySem.Spec L2 PyProof.Rows PpSet
section
variable {X : Cx}
def actS (P : Program) (w : World) (A : Around) (ex : Expr) : Act := fun D e Q s => wpAny (model P w) A (eval ex e) (fun v s1 => wpAny (model P w) A (call (.builtin "set.add") [.ref D, v]) (fun _ z => Q z) Nox s1) Nox s
/-- a tuple is put into a set -/
def taST (K : PySem.W.Frag) (P : Program) (w : World) (te : TE) : TAct := fun D σ H Q => te σ H fun y H1 => ∃ b k L, y = .ref b ∧ H1 b = some (.tup (k.map V.int)) ∧ H1 D = some (SetTO P w D L) ∧ (∀ p ∈ L, SqT K H1 p.1 (p.2.map V.int)) ∧ L.length + 1 < 64 ∧
  ∀ L', (k ∈ L.map (·.2) → L' = L) → (k ∉ L.map (·.2) → L'.Perm ((b, k) :: L)) → Q (upd H1 D (SetTO P w D L'))
def emitSU (ex : Expr) (D : Addr) (env : Env) : Sem Unit := do
  let v ← eval ex env
  standAt ex.pos
  let _ ← call (.builtin "set.add") [.ref D, v]
def emitS (ex : Expr) : Addr → Env → Sem PySem.Fin → Sem PySem.Fin := fun D env k => do
  emitSU ex D env
  k
end
end Ab

/-! sorted({..}) in the layer; dict comprehensions in the layer. -/
namespace Ab
open PySem PySem.Spec L2
/-! the order of tuples of whole numbers -/
def lexI : List Int → List Int → Bool
  | [], [] => false
  | [], _ :: _ => true
  | _ :: _, [] => false
  | a :: r, b :: s => if a = b then lexI r s else decide (a < b)
def insT (x : List Int) : List (List Int) → List (List Int)
  | [] => [x]
  | y :: l => if lexI y x = true then y :: insT x l else x :: y :: l
def sortT : List (List Int) → List (List Int)
  | [] => []
  | x :: l => insT x (sortT l)
abbrev UpT (l : List (List Int)) : Prop := l.Pairwise fun a b => lexI b a = false
/-! sets of tuples -/
def intsT (d : D) : Option (List Int) := match d with
  | .tup ds => intsD ds
  | _ => none
def tupI (k : List Int) : D := .tup (k.map D.int)
theorem noC_setTO {Pg : Program} {w : World} {a : Addr} {L : List (Addr × List Int)} : noC (SetTO Pg w a L) := noC_ext fun h y => by
  obtain ⟨es, ep, t, ⟨o, ho, _, hd⟩, _⟩ := (show SetT0 Pg w h a L from y).ex
  exact ⟨_, o, ho, fun vs z => by rw [hd] at z; cases z⟩
def accS (K : PySem.W.Frag) (Pg : Program) (w : World) : Acc K (List (List Int)) where
  R ks ρ P D o := ∃ L : List (Addr × List Int), o = SetTO Pg w D L ∧ (L.map (·.2)).Perm ks ∧ ∀ p ∈ L, P p.1 = some (.tup (p.2.map V.int))
  up := by
    rintro a ρ P D o ρ' P' ⟨L, e, pm, h⟩ _ hp
    exact ⟨L, e, pm, fun p q => hp _ _ (h p q)⟩
  noT := fun ⟨L, e, _, _⟩ => by subst e; exact ⟨rfl, noC_setTO⟩
def memT (k : List Int) : List (List Int) → Bool
  | [] => false
  | x :: l => if k = x then true else memT k l
def acS (me : M D) : List (List Int) → En → AH → R (List (List Int)) := fun acc env h => (me env h).bind fun d h1 => match intsT d with
  | some k => if acc.length < 60 then .ok (if memT k acc = true then acc else acc ++ [k]) h1 else .bad
  | none => .bad
section
variable {K : PySem.W.Frag} {E : XK} {ρ ρ' ρ1 ρ0 : Ro} {P H P' H' P1 H1 P0 H0 : Hp}
def okT (ks : List (List Int)) : Bool := ks.all fun k => decide (k.length = (ks.headD []).length) && (decide (0 < k.length) && k.all fun m => decide (0 ≤ m) && decide (m < 1000))
def mSortS (m : M (List (List Int))) : M (List D) := fun env h => (m env h).bind fun ks h1 => if okT ks = true then .ok ((sortT ks).map tupI) h1 else .bad
/-! dicts with tuple keys -/
def accD (K : PySem.W.Frag) : Acc K (List (List Key × D)) where
  R kvs ρ P D o := ∃ kws : List (List Key × V), o = .dT kws ∧ kws.map (·.1) = kvs.map (·.1) ∧ RepL K ρ P (kvs.map (·.2)) (kws.map (·.2))
  up := by
    rintro a ρ P D o ρ' P' ⟨kws, e, ek, r⟩ hm hp
    exact ⟨kws, e, ek, r.up hm hp⟩
  noT := fun ⟨kws, e, _, _⟩ => by subst e; exact ⟨rfl, noC_of rfl⟩
def acD (mk mv : M D) : List (List Key × D) → En → AH → R (List (List Key × D)) := fun acc env h => (mk env h).bind fun k h1 => (mv env h1).bind fun v h2 => match keyT k with
  | some ks => if acc.length < sizeLine then .ok (fPut acc ks v) h2 else .bad
  | none => .bad
def mDicF (m : M (List (List Key × D))) : M D := fun env h => (m env h).bind fun kvs h1 => .ok (.dic (kvs.map (·.1)) (kvs.map (·.2))) h1
def mDicO (m : M (List (List Key × D))) : M D := fun env h => (m env h).bind fun kvs h1 => .ok (.loc h1.length) (h1 ++ [.dct kvs])
end
end Ab

/-! sorted(list or dict of tuples of whole numbers), of any length. -/
namespace Ab
open PySem PySem.Spec L2 PyProof.Rows
section
variable {prog : Program} {w : World} {A : Around} {E : Value → Shared → Prop} {s : Shared}
abbrev ltT (k : Value → List Int) : Value → Value → Bool := fun v u => lexI (k v) (k u)
end
/-- what is sorted comes out as the one ascending arrangement -/
def rSortTO (K : PySem.W.Frag) : List V → Hp → VK → Prop := fun vs H Q => ∃ (a : Addr) (ks : List (List Int)) (k : Addr → List Int), vs = [V.ref a] ∧ ((∃ bs : List Addr, SqL K H a (bs.map V.ref) ∧ bs.map k = ks ∧ ∀ b ∈ bs, H b = some (.tup ((k b).map V.int))) ∨
    ∃ kvs, Rd H a (.dT kvs) ∧ kvs.length ≤ sizeLine ∧ ∀ cs : List Addr, IsKeys H kvs cs → cs.map k = ks ∧ ∀ b ∈ cs, H b = some (.tup ((k b).map V.int))) ∧ (∀ x ∈ ks, x ≠ []) ∧
  ∀ (cs : List Addr) (p : Addr), (cs.map k).Perm ks → UpT (cs.map k) → (∀ b ∈ cs, H b = some (.tup ((k b).map V.int))) → H p = none → Q (.ref p) (upd H p (.lst (cs.map V.ref)))
section
variable {X : Cx}
def adr : Value → Addr
  | .ref a => a
  | _ => 0
end
end Ab

/-! Dicts walked, listed, sorted, made by comprehensions and displays; reversed slices. -/
namespace Ab
open PySem PySem.Spec L2
section
variable {K : PySem.W.Frag} {E : XK} {ρ ρ' ρ1 : Ro} {P H P' H' P1 H1 : Hp}
/-! a dict is walked -/
def keyDv : Key → D
  | .inl i => .int i
  | .inr x => .str x
def keyTD (k : List Key) : D := .tup (k.map keyDv)
theorem repL_keys : ∀ k : List Key, RepL K ρ P (k.map keyDv) (k.map kV)
  | [] => .nil
  | .inl i :: k => .cons (.int i) (repL_keys k)
  | .inr x :: k => .cons (.str x) (repL_keys k)
/-- a dict that stands is locked -/
theorem SR.lock {h : AH} (s : SR K ρ P H h) {d : Addr} {kws : List (List Key × V)} (hp : P d = some (.dT kws)) (hd : H d = some (.dT kws)) (o : Obj) : SR K ρ P (upd H d (.frz o (.dT kws))) h ∧ Step ρ P H ρ P (upd H d (.frz o (.dT kws))) := by
  have nr : NoR ρ d := fun n e => by rw [s.apart n d e] at hp; cases hp
  refine ⟨⟨fun a u e n => ?_, fun a u e => ?_, s.apart, s.inj, fun n u e => ?_, s.dom, s.tabs.upd K (fun u e => by rw [hd] at e; cases e; exact noC_of rfl) rfl⟩, ⟨fun _ _ e => e, fun _ _ e => e, fun n a e e' => (by rw [e] at e'; cases e'), fun _ e _ => e, fun a u e _ w => ?_, fun a e => ?_⟩⟩
  · have z : a ≠ d := fun z => by rw [z, hp] at e; cases e; cases n
    rw [upd_ne z]; exact s.sub a u e n
  · by_cases z : a = d
    · subst z; rw [hp] at e; cases e; exact .inr ⟨o, upd_same⟩
    · exact rd_keep (fun o e => by rw [upd_ne z]; exact e) (s.subD a u e)
  · obtain ⟨a, e1, r⟩ := s.obj n u e
    have z : a ≠ d := fun z => nr n (z ▸ e1)
    exact ⟨a, e1, r.up (fun _ _ e => e) (fun _ _ e => e) fun o e => by rw [upd_ne z]; exact e⟩
  · have z : a ≠ d := fun z => by
      subst z
      rw [hd] at e
      cases e
      rcases w.2 with w | w
      · rw [hp] at w; cases w
      · cases w
    rw [upd_ne z]; exact e
  · by_cases z : a = d
    · rw [z, upd_same]; simp
    · rw [upd_ne z]; exact e
def iKeysL (td : TE) : TI := fun σ H R => td σ H fun x H1 => ∃ d kvs, x = .ref d ∧ ((∃ o, H1 d = some (.frz o (.dT kvs)) ∧ R (Itkt d o kvs) H1) ∨ (H1 d = some (.dT kvs) ∧ ∀ o, R (Itkt d o kvs) (upd H1 d (.frz o (.dT kvs)))))
def miDic (m : M D) : MI := fun env h => (m env h).bind fun d h1 => match d with
  | .dic ks ds => if ks.length = ds.length then .ok (.items (ks.map keyTD)) h1 else .bad
  | _ => .bad
theorem itOk_K {h : AH} {d : Addr} {o : Obj} {kws : List (List Key × V)} (hd : H d = some (.frz o (.dT kws))) : ItOk K ρ P H (.items ((kws.map (·.1)).map keyTD)) (Itkt d o kws) := fun ρ' P' H' tm tp tf h' s i => by
  have hd' : H' d = some (.frz o (.dT kws)) := tf _ _ _ hd
  refine ⟨fun x e => ?_, fun e => ⟨hd', by simpa using e⟩⟩
  rw [List.getElem?_map, List.getElem?_map] at e
  cases q : kws[i]? with
  | none => rw [q] at e; cases e
  | some kv =>
    rw [q] at e
    cases e
    refine ⟨⟨hd', (List.getElem?_eq_some_iff.mp q).1⟩, fun y H2 yy => ?_⟩
    obtain ⟨rfl, k, v, a, e1, rfl, ha⟩ := yy
    rw [q] at e1
    cases e1
    obtain ⟨P2, t2, s2, e2⟩ := s.adopt ha
    exact ⟨P2, t2, s2, .tup e2 (repL_keys k)⟩
variable {X : Cx} {e : Expr} {tg : Expr} {t : TE} {m : M D}
/-! list(d), sorted(d), sorted(list of tuples) -/
def listDD : List D → AH → R (List D) := fun ds h => match ds with
  | [d] => (match dctD d h with
    | some kvs => .ok ((kvs.map (·.1)).map keyTD) h
    | none => .bad)
  | _ => .bad
def intsTs : List D → Option (List (List Int))
  | [] => some []
  | d :: ds => match intsT d, intsTs ds with
    | some k, some ks => some (k :: ks)
    | _, _ => none
def intV : V → Int
  | .int i => i
  | _ => 0
/-- the ints of the tuple that stands at b -/
def kAt (H : Hp) (b : Addr) : List Int := match H b with
  | some (.tup vs) => vs.map intV
  | _ => []
/-- the keys of a dict as rows of whole numbers -/
def keyI : List Key → Option (List Int)
  | [] => some []
  | .inl i :: k => (keyI k).map (i :: ·)
  | .inr _ :: _ => none
def keyIs' : List (List Key) → Option (List (List Int))
  | [] => some []
  | k :: l => match keyI k, keyIs' l with
    | some a, some b => some (a :: b)
    | _, _ => none
/-- what is sorted: a list or a dict -/
def rowsD (d : D) (h : AH) : Option (List (List Int)) := match dctD d h with
  | some kvs => if kvs.length ≤ sizeLine then keyIs' (kvs.map (·.1)) else none
  | none => (seqD d h).bind intsTs
def sortedTD (ds : List D) (h : AH) : R (List D) := match ds with
  | [d] => (match rowsD d h with
    | some ks => if (ks.all fun k => !k.isEmpty) = true then .ok ((sortT ks).map tupI) h else .bad
    | none => .bad)
  | _ => .bad
end
end Ab

/-! Rules for the printer: comprehensions of dicts and sets, {t: v}, x[::-1], len(d). -/
namespace Ab
open PySem PySem.Spec L2 PyProof.Rows
section
variable {K : PySem.W.Frag} {E : XK} {ρ ρ' ρ1 : Ro} {P H P' H' P1 H1 : Hp} {X : Cx}
/-! len(d) -/
theorem call_len_rd : CallR X (.builtin "len") (fun xs H Q => ∃ (p : Addr) (kvs : List (List Key × V)), xs = [.ref p] ∧ Rd H p (.dT kvs) ∧ Q (.int ((kvs.length : Nat) : Int)) H) := by
  intro pins s σ H xs us Q I r h
  obtain ⟨p, kvs, rfl, hp, q⟩ := h
  obtain ⟨u, rfl, rx⟩ := vals1 r
  obtain rfl : u = .ref p := rx
  obtain ⟨z, hd, ys, rel, dd⟩ := dt_rd I.hok hp
  have hl : kvs.length = ys.length := Paired.length rel
  refine call_len_dictH hd dd (by rw [← hl]; rw [sizeLine_eq] at z; omega) ?_
  rw [← hl]
  exact ⟨.int ((kvs.length : Nat) : Int), H, I.tok _, ⟨_, rfl⟩, q⟩
def lenDD : List D → AH → R D := fun ds h => match ds with
  | [d] => (match dctD d h with
    | some kvs => .ok (.int ((kvs.length : Nat) : Int)) h
    | none => .bad)
  | _ => .bad
theorem cb_lenD : CbS K E (fun xs H Q => ∃ (p : Addr) (kvs : List (List Key × V)), xs = [.ref p] ∧ Rd H p (.dT kvs) ∧ Q (.int ((kvs.length : Nat) : Int)) H) lenDD := fun ρ P H h vs ds s w Q p => by
  unfold lenDD at p
  split at p
  · obtain ⟨v, rfl, r⟩ := w.one
    split at p
    · rename_i kvs e
      obtain ⟨a, kws, rfl, hd, ek, _⟩ := dctD_ok s r e
      have hl : kws.length = kvs.length := by have := congrArg List.length ek; simpa using this
      exact ⟨a, kws, rfl, hd, by rw [hl]; exact Post.here p s (.int _)⟩
    · exact p.elim
  · exact p.elim
end
section
variable {K : PySem.W.Frag} {E : XK} {X : Cx} {kx vx tg iter tg1 iter1 ex : Expr} {ifs ifs1 : List Expr} {scope : Scope} {own : List (PySem.Str × Nat)} {vs1 : List Nat} {pos pn : Pos} {wi wi1 : TI} {g g1 : TG} {tt tt1 : TT} {tk tv te : TE} {mi mi1 : MI} {mg mg1 : MG} {mt mt1 : M Bool} {mk mv me : M D} {k : Nat}
/-- a dict's comprehension, one clause -/
structure JX {γ : Type} (K : PySem.W.Frag) (E : XK) (X : Cx) (A : Acc K γ) (e : Expr) (t : TE) (m : M γ) : Prop where
  k : X.K = K
  p : PE X e t
  s : SdX A E t m
end
end Ab

/-! {t: v}; x[::-1]. -/
namespace Ab
open PySem PySem.Spec L2 PyProof.Rows HT
section
variable {K : PySem.W.Frag} {E : XK} {ρ ρ' ρ1 : Ro} {P H P' H' P1 H1 : Hp} {X : Cx} {kx vx e : Expr} {pos : Pos} {tk tv te : TE} {mk mv me : M D} {k : Nat}
def tDisp1 (tk tv : TE) : TE := fun σ H Q => ∀ p, H p = none → tk σ (upd H p (.dT [])) fun y H1 => tv σ H1 fun z H2 => ∃ b ks, y = .ref b ∧ H2 b = some (.tup (ks.map kV)) ∧ H2 p = some (.dT []) ∧ Q (.ref p) (upd H2 p (.dT [(ks, z)]))
/-! t[::-1] -/
def tRevT (K : PySem.W.Frag) (te : TE) : TE := fun σ H Q => te σ H fun x H1 => ∃ a xs, x = .ref a ∧ SqT K H1 a xs ∧ ∀ p, H1 p = none → Q (.ref p) (upd H1 p (.tup xs.reverse))
/-! the layer -/
def mDisp1 (mk mv : M D) : M D := fun env h => (mk env h).bind fun y h1 => (mv env h1).bind fun z h2 => match keyT y with
  | some ks => .ok (.loc h2.length) (h2 ++ [.dct [(ks, z)]])
  | none => .bad
def mRevT (m : M D) : M D := fun env h => (m env h).bind fun d h1 => match d with
  | .tup ds => .ok (.tup ds.reverse) h1
  | _ => .bad
def mRevL (m : M D) : M (List D) := fun env h => (m env h).bind fun d h1 => match seqD d h1 with
  | some ds => .ok ds.reverse h1
  | none => .bad
end
end Ab

/-! Instances: attributes read and stored, made, properties. -/
namespace Ab
open PySem PySem.Spec L2 PyProof.Rows
section
variable {K : PySem.W.Frag} {E : XK} {ρ ρ' ρ1 : Ro} {P H P' H' P1 H1 : Hp}
def putD (f : Str) (d : D) : List (Str × D) → List (Str × D)
  | [] => [(f, d)]
  | (g, x) :: r => if g = f then (g, d) :: r else (g, x) :: putD f d r
/-- a field: of an object, of an instance in the heap -/
def attrD (c f : Str) (d : D) (h : AH) : R D := match d with
  | .obj c' ns ds => if c' = c then (match (ns.zip ds).lookup f with
    | some v => .ok v h
    | none => .bad) else .bad
  | .loc n => (match h[n]? with
    | some (.ins c' fs) => if c' = c then (match fs.lookup f with
      | some v => .ok v h
      | none => .bad) else .bad
    | _ => .bad)
  | _ => .bad
variable {X : Cx} {a : Expr} {ta : TE} {ma : M D} {pos : Pos} {f c : Str}
/-- e.f as a target -/
def gFld (K : PySem.W.Frag) (to : TE) (f : Str) : TG := fun v σ H Q => to σ H fun x H1 => ∃ a C dx fs, x = .ref a ∧ H1 a = some (.ins C dx fs) ∧ Cls K C ∧ NoAttr K C f ∧ fs.length < 1000 ∧ Q σ (upd H1 a (.ins C dx (putF f v fs)))
def mgFld (c f : Str) (mo : M D) : MG := fun d env h => (mo env h).bind fun o h1 => match o with
  | .loc n => (match h1[n]? with
    | some (.ins c' fs) => if c' = c ∧ fs.length < 1000 then .ok env (h1.set n (.ins c' (putD f d fs))) else .bad
    | _ => .bad)
  | _ => .bad
end
/-! ### a def by its positional promise, no repr under way around -/
def FnQ (P : Program) (w : World) (K : PySem.W.Frag) (mg : Str → Option Value) (base : Heap) (CX : CXT) (k : Nat) (f : Addr) (sp : Sp) : Prop :=
  ∀ (A : Around) (outer : List PySem.Env) (s : Shared) (H : Hp) (us : List Value) (vs : List V) (Q : VK) (E : XK), Room k A → A.guards = some [] → Env0 P w K mg base A outer s H → Vals vs us → sp vs H Q E →
    codeAny (model P w) A (.call (.ref f) ⟨us, []⟩) (CR CX outer P w H s Q E) s
theorem FnQ.up {CX : CXT} {P : Program} {w : World} {K : PySem.W.Frag} {mg : Str → Option Value} {base : Heap} {k : Nat} {f : Addr} {sp : Sp} (F : FnQ P w K mg base CX0 k f sp) : FnQ P w K mg base CX k f sp :=
  fun A o s H us vs Q E hr hg e0 r h => codeAny_mono (F A o s H us vs Q E hr hg e0 r h) fun _ _ z => cr_up z
/-- def f(a, .., *v) -/
def spStar (K : PySem.W.Frag) (n : Nat) (F : Fn) : Sp := fun vs H Q E => ∃ ws rest, vs = ws ++ rest ∧ ws.length = n ∧ rest.length ≤ sizeLine ∧ ∀ p, H p = none → spD K (n + 1) F (ws ++ [V.ref p]) (upd H p (.tup rest)) Q E
section
variable {P : Program} {w : World} {K : PySem.W.Frag} {mg : Str → Option Value} {base : Heap} {x qual : Str} {params : Arguments} {body : List Stmt} {scope : Scope} {f : Addr} {fd : FuncData} {N ps : List Str} {pv : Str} {k : Nat} {m : MS}
theorem FnG.q {CX : CXT} {sp : Sp} (F : FnG P w K mg base CX k f fd ps sp) (hb : Binds K fd ps []) : FnQ P w K mg base CX k f sp := fun A outer s H us vs Q E hr hg e0 r hsp => by
  have hl : us.length = ps.length := by rw [← r.length]; exact F.len _ _ _ _ hsp
  have KX : K.In s.heap := e0.mod.kin.keeps fun b o e => (e0.bs b o e).1
  have hb1 := hb s us KX (by rw [List.append_nil]; exact hl)
  rw [List.append_nil] at hb1
  exact F.go A outer s H ⟨us, []⟩ us vs Q E ⟨hr, hg⟩ e0 hb1 r hsp
theorem FnQ.mono {CX : CXT} {sp : Sp} {j : Nat} (F : FnQ P w K mg base CX j f sp) (h : j ≤ k) : FnQ P w K mg base CX k f sp := fun A outer s H us vs Q E hr => F A outer s H us vs Q E (hr.mono h)
end
/-! ### an instance is made -/
/-- what C(..) computes: its __init__ over the new instance alone; the instance does not change any more -/
def makeP (c : Str) (F : Fn) (ds : List D) (h : AH) : R D := if belowL 0 ds = true then (match F [.loc 0, .tup ds] [.ins c []] with
  | .ok .non [.ins c' fs] => if c' = c ∧ belowL 0 (fs.map (·.2)) = true then .ok (.obj c (fs.map (·.1)) (fs.map (·.2))) h else .bad
  | .exc x fs _ => if belowL 0 (fs.map (·.2)) = true then .exc x fs h else .bad
  | _ => .bad) else .bad
section
variable {K : PySem.W.Frag} {E : XK} {ρ ρ' ρ1 : Ro} {P H P' H' P1 H1 : Hp}
/-- a new thing of no one's will not change any more -/
theorem frz_new {h' : AH} {a : Addr} {u : HO} (t : Step ρ P H ρ' P' H') (s1 : SR K ρ' P' H' h') (hp : H a = none) (np : P' a = none) (nr : NoR ρ' a) (e : H' a = some u) (hu : nT u = true := by rfl) :
    Step ρ P H ρ' (upd P' a u) H' ∧ SR K ρ' (upd P' a u) H' h' ∧ ∀ b o, P' b = some o → upd P' a u b = some o := by
  have kp : ∀ b o, P' b = some o → upd P' a u b = some o := upd_keep np
  refine ⟨⟨t.mono, fun b o eb => kp b o (t.pure b o eb), t.newr, fun b eb hb => ?_, t.keep, t.there⟩, ⟨fun b o eb nd => ?_, fun b o eb => ?_, fun n b eb => ?_, s1.inj, fun n o eo => ?_, s1.dom, s1.tabs.updP K hu⟩, kp⟩
  · have z : b ≠ a := fun z => by
      subst z
      rcases hb with ⟨n, e1⟩ | ⟨u, e1, _⟩
      · exact nr n (t.mono n b e1)
      · rw [hp] at e1; cases e1
    rw [upd_ne z]; exact t.newp b eb hb
  · by_cases z : b = a
    · subst z; rw [upd_same] at eb; cases eb; exact e
    · rw [upd_ne z] at eb; exact s1.sub b o eb nd
  · by_cases z : b = a
    · subst z; rw [upd_same] at eb; cases eb; exact .inl e
    · rw [upd_ne z] at eb; exact s1.subD b o eb
  · have z : b ≠ a := fun z => nr n (z ▸ eb)
    rw [upd_ne z]; exact s1.apart n b eb
  · obtain ⟨b, e1, r⟩ := s1.obj n o eo
    exact ⟨b, e1, r.up (fun _ _ e => e) kp fun _ e => e⟩
end
/-- what the printer knows of a class with __init__(self, *rows) -/
structure MkS (P : Program) (w : World) (K : PySem.W.Frag) (mg : Str → Option Value) (base : Heap) (k : Nat) (c : Str) (F : Fn) : Prop where
  ex : ∃ g, Mk K (He.ga K c) g ∧ FnQ P w K mg base (L2.CX P w) k g (spStar K 1 F) ∧ mg c = some (.ref (He.ga K c))
section
variable {X : Cx} {K : PySem.W.Frag} {E : XK} {k : Nat} {c : Str} {F : Fn} {e : Expr} {es : List Expr} {t : TA} {te : TE} {m : M (List D)} {me : M D} {p sp_ pos : Pos}
def mMake (c : Str) (F : Fn) (m : M (List D)) : M D := fun env h => (m env h).bind fun ds h1 => if ds.length ≤ sizeLine then makeP c F ds h1 else .bad
/-- C(*xs) -/
def mMakeS (c : Str) (F : Fn) (me : M D) : M D := fun env h => (me env h).bind fun d h1 => match spreadD d h1 with
  | some ds => if ds.length ≤ sizeLine then makeP c F ds h1 else .bad
  | none => .bad
def tMakeS (K : PySem.W.Frag) (C : Addr) (sp : Sp) (E : XK) (te : TE) : TE := fun σ H Q => te σ H fun y H1 => ∃ a vs, y = V.ref a ∧ (SqT K H1 a vs ∨ SqL K H1 a vs) ∧ ∀ x dx, H1 x = Option.none → H1 dx = Option.none → dx ≠ x →
  sp (V.ref x :: vs) (upd (upd H1 dx (.own x)) x (.ins C dx [])) (fun v H2 => v = .non ∧ Q (.ref x) H2) E
end
end Ab

/-! Properties, classmethods, methods of objects that never change. -/
namespace Ab
open PySem PySem.Spec L2 PyProof.Rows
section
variable {X : Cx} {pins : List (Addr × Obj)} {σ : L2.St} {H : Hp} {s : Shared} {K : PySem.W.Frag} {E : XK} {k : Nat} {c m x : Str} {F : Fn} {e o : Expr} {es : List Expr} {t ts : TA} {ta te : TE} {ma : M D} {md : M (List D)} {p pos apos : Pos} {sp : Sp}
/-! properties -/
def noExc (r : R D) : R D := match r with
  | .ok d h => .ok d h
  | _ => .bad
structure PrC (P : Program) (w : World) (K : PySem.W.Frag) (mg : Str → Option Value) (base : Heap) (k : Nat) (c m : Str) (F : Fn) : Prop where
  ex : ∃ p g, Cls K (He.ga K c) ∧ PropOf K (He.ga K c) m p g ∧ FnQ P w K mg base (L2.CX P w) k g (spD K 1 F)
def mProp (c : Str) (F : Fn) (ma : M D) : M D := fun env h => (ma env h).bind fun d h1 => match d with
  | .obj c' ns ds => if c' = c then noExc (callP 1 F [.obj c' ns ds] h1) else .bad
  | _ => .bad
/-! classmethods, called on the class -/
structure CmC (P : Program) (w : World) (K : PySem.W.Frag) (mg : Str → Option Value) (base : Heap) (k : Nat) (c m : Str) (n : Nat) (F : Fn) : Prop where
  ex : ∃ p g, ClX.CRead K (He.ga K c) (.type "type") ∧ ClX.CMet K (He.ga K c) (.type "type") m p g ∧ FnQ P w K mg base (L2.CX P w) k g (spD K (n + 1) F) ∧ mg c = some (.ref (He.ga K c))
def mCm2 (c : Str) (n : Nat) (F : Fn) (md : M (List D)) : M D := fun env h => (md env h).bind fun ds h1 => callP (n + 1) F (.glo c :: ds) h1
/-! a class as a value -/
theorem je_glo {pn : Pos} (hm : X.mg c = some (.ref (He.ga K c))) (hK : X.K = K := by rfl) (hg : Gl X c := by rfl) (hdb : (c == ("__debug__" : Str)) = false := by decide) : JE K E X (.Name c pn) (tC (.ref (He.ga K c))) (mC (.glo c)) := ⟨hK, pe_glob hg hm rfl hdb, sd_c fun _ _ => .glo c⟩
/-! methods of objects that never change -/
structure MtC (P : Program) (w : World) (K : PySem.W.Frag) (mg : Str → Option Value) (base : Heap) (k : Nat) (c m : Str) (n : Nat) (F : Fn) : Prop where
  ex : ∃ g, Cls K (He.ga K c) ∧ Meth K (He.ga K c) m g ∧ FnQ P w K mg base (L2.CX P w) k g (spD K (n + 1) F)
end
/-! ### the head's facts, of any kind -/
namespace Hd
open PySem.W
abbrev Fb := Frag → Bool
def propB (c m : Str) : Fb := fun K => decide (findIn K (.ref (He.ga K c)) m = some (some (.ref (He.ma K (He.ga K c) m)))) && (decide (specialIn K (.ref (He.ma K (He.ga K c) m)) "__get__" = some (some (.builtin "property.__get__"))) &&
  (decide (takesIn K (.ref (He.ma K (He.ga K c) m)) = some true) && (match recIn K (He.ma K (He.ga K c) m) "property" with
    | some (.ref _ :: _) => true
    | _ => false)))
def creadB (c : Str) : Fb := fun K => readsIn K (He.ga K c) (.type "type") && decide (specialIn K (.ref (He.ga K c)) "__getattribute__" = some (some (.builtin "type.__getattribute__")))
def cmetB (c m : Str) : Fb := fun K => He5.wrapB K (He.ga K c) "classmethod" "classmethod.__get__" m && fnIn K (He5.wf K (He.ga K c) "classmethod" m)
/-- where defs stand -/
abbrev AtF := Frag → Addr
def atG (x : Str) : AtF := fun K => He.ga K x
def atM (c m : Str) : AtF := fun K => He.ma K (He.ga K c) m
def atP (c m : Str) : AtF := fun K => He5.wf K (He.ga K c) "property" m
def atC (c m : Str) : AtF := fun K => He5.wf K (He.ga K c) "classmethod" m
def obsB (fb : List Fb) (fn : List He5.DefA) (K : Frag) : He.AlD := ((fb.all fun f => f K) && fn.all fun d => d.ok K, fn.map fun d => He5.fnA K (d.at_ K))
def SaysB (fb : List Fb) (fn : List He5.DefA) (K : Frag) : Prop := obsB fb fn K = He5.valA fn
def obsBG (n : Nat) (fb : List Fb) (fn : List He5.DefA) (g : Addr → Option Obj) : He.AlD := obsB fb fn (He.frG g (He5.asA g n))
def hookB (n : Nat) (fb : List Fb) (fn : List He5.DefA) : PySem.W.Hook where
  α := He.AlD
  obs := fun s => obsBG n fb fn s.heap.get?
  val := fun _ => He5.valA fn
  says := fun _ h => ∃ K : Frag, K.In h ∧ SaysB fb fn K
  of := fun _ _ e => ⟨_, He.frG_in, e⟩
  keeps := fun _ _ _ ⟨K, hK, c⟩ k => ⟨K, Frag.In.keeps hK k, c⟩
theorem SaysB.fact {fb : List Fb} {fn : List He5.DefA} {K : Frag} (c : SaysB fb fn K) (i : Nat) {f : Fb} (h : fb[i]? = some f := by rfl) : f K = true := by
  have c1 := (He.ba (show ((fb.all fun f => f K) && fn.all fun d => d.ok K) = true from congrArg (fun z : He.AlD => z.1) c)).1
  exact List.all_eq_true.mp c1 f (List.mem_of_getElem? h)
theorem SaysB.def_ {fb : List Fb} {fn : List He5.DefA} {K : Frag} (c : SaysB fb fn K) (i : Nat) {d : He5.DefA} (h : fn[i]? = some d := by rfl) : ∃ fd, FunD K d.name d.qual d.params d.body d.scope (d.dvs K) (d.kws K) (d.at_ K) fd := by
  have c2 := (He.ba (show ((fb.all fun f => f K) && fn.all fun d => d.ok K) = true from congrArg (fun z : He.AlD => z.1) c)).2
  have e : fn.map (fun d => He5.fnA K (d.at_ K)) = fn.map He5.DefA.val := congrArg (fun z : He.AlD => z.2) c
  have e2 : (fn.map fun d => He5.fnA K (d.at_ K))[i]? = (fn.map He5.DefA.val)[i]? := by rw [e]
  rw [List.getElem?_map, List.getElem?_map, h] at e2
  exact He5.DefA.funD (Option.some.inj e2) (List.all_eq_true.mp c2 d (List.mem_of_getElem? h))
end Hd
end Ab

/-! One rule for lists, tuples, texts and dicts: x[i], x in y, x[i] = v, for, list(x), len(x), sorted(x). -/
namespace Ab
open PySem PySem.Spec L2 PyProof.Rows
section
variable {K : PySem.W.Frag} {E : XK} {ρ ρ' ρ1 : Ro} {P H P' H' P1 H1 : Hp} {X : Cx} {a b e : Expr} {ta tb : TE} {ma mb : M D} {pos : Pos} {k : Nat}
/-! x[i] -/
theorem ix_dict (hu : X.A.units + 1 < cLine) : IxR X (fun x y H Q => ∃ a v, x = .ref a ∧ DGet H a y (some v) ∧ Q v H) := by
  intro value slice pins s σ H x y v u Q I rx ry h hs
  obtain ⟨a, w, rfl, g, q⟩ := h
  cases rx
  exact tail_any (dict_typeIs I g) PySem.F.slot_dict_getitem.lookup (d_getItem hu I g ry fun w' s3 I3 rw' => ⟨w, H, I3, rw', q⟩) hs
def ixUD (a b : D) (h : AH) : R D := match dctD a h with
  | some kvs => (match keyT b with
    | some k => (match fGet kvs k with
      | some v => .ok v h
      | none => .bad)
    | none => .bad)
  | none => ixD a b h
abbrev rIxU (K : PySem.W.Frag) : R2 := fun x y H Q => rIx K x y H Q ∨ ∃ a v, x = .ref a ∧ DGet H a y (some v) ∧ Q v H
theorem os_ixU : OpS K E (rIxU K) ixUD := fun ρ P H h x y dx dy s wx wy Q p => by
  unfold ixUD at p
  cases ed : dctD dx h with
  | none => simp only [ed] at p; exact .inl (os_ix ρ P H h x y dx dy s wx wy Q p)
  | some kvs =>
    simp only [ed] at p
    cases ek : keyT dy with
    | none => simp only [ek] at p; exact p.elim
    | some ks =>
      simp only [ek] at p
      obtain ⟨q, eq, hq⟩ := keyT_ok s wy ek
      obtain ⟨d, kws, eu, hd, e4, r⟩ := dctD_ok s wx ed
      subst eq eu
      cases ey : fGet kvs ks with
      | none => simp only [ey] at p; exact p.elim
      | some z =>
        simp only [ey] at p
        rcases get_rel (k := ks) e4 r with ⟨h1, _⟩ | ⟨d', v', h1, h2, h3⟩
        · rw [h1] at ey; cases ey
        · rw [h1] at ey
          cases ey
          have g := dget_rd hd hq
          rw [h2] at g
          exact .inr ⟨d, v', rfl, g, Post.here p s h3⟩
theorem je_ixU (hr : Room k X.A) (ha : JE K E X a ta ma) (hb : JE K E X b tb mb) (hs : PlainIx b := by exact fun _ _ => rfl) : JE K E X (.Subscript a b pos) (tOp (rIxU K) ta tb) (mBin ixUD ma mb) := by
  obtain ⟨hK, hp, hq⟩ := ha
  subst hK
  exact ⟨rfl, pe_ix (ix_seq.or (ix_dict (hu_of hr))) hp hb.p hs, sd_op hq hb.s os_ixU⟩
/-! x in y -/
def rDin (neg : Bool) : R2 := fun y x H Q => ∃ a o, x = .ref a ∧ DGet H a y o ∧ Q (.bl (if neg then !o.isSome else o.isSome)) H
theorem op_dIn (hu : X.A.units + 1 < cLine) : OpR X (compareOp .In) (rDin false) := by
  intro pins s σ H y x u v Q I ry rx h
  obtain ⟨a, o, rfl, g, q⟩ := h
  cases rx
  exact d_in hu I g ry fun s3 I3 => ⟨.bl o.isSome, H, I3, rfl, q⟩
def inUD (neg : Bool) (a b : D) (h : AH) : R D := match dctD b h with
  | some kvs => (match keyT a with
    | some k => .ok (.bl (if neg then !(fGet kvs k).isSome else (fGet kvs k).isSome)) h
    | none => .bad)
  | none => inD neg a b h
theorem os_inUU {neg : Bool} : OpS K E (fun x y H Q => rInU K neg x y H Q ∨ rDin neg x y H Q) (inUD neg) := fun ρ P H h x y dx dy s wx wy Q p => by
  unfold inUD at p
  cases ed : dctD dy h with
  | none => simp only [ed] at p; exact .inl (os_in ρ P H h x y dx dy s wx wy Q p)
  | some kvs =>
    simp only [ed] at p
    cases ek : keyT dx with
    | none => simp only [ek] at p; exact p.elim
    | some ks =>
      simp only [ek] at p
      obtain ⟨q, eq, hq⟩ := keyT_ok s wx ek
      obtain ⟨d, kws, eu, hd, e4, r⟩ := dctD_ok s wy ed
      subst eq eu
      refine .inr ⟨d, valV kws ks, rfl, dget_rd hd hq, ?_⟩
      have : (valV kws ks).isSome = (fGet kvs ks).isSome := by
        rcases get_rel (k := ks) e4 r with ⟨h1, h2⟩ | ⟨d, v, h1, h2, _⟩ <;> rw [h1, h2] <;> rfl
      rw [this]
      exact Post.here p s (.bl _)
theorem jc_inU (hr : Room k X.A) (hK : X.K = K := by rfl) : JC K E X .In (fun x y H Q => rInU K false x y H Q ∨ rDin false x y H Q) (inUD false) := by
  subst hK
  exact ⟨(op_inU (by have := hr.un; omega)).or (op_dIn (hu_of hr)), os_inUU⟩
/-! x[i] = v -/
def rSetD : TSet := fun o i v H Q => ∃ a H4, o = .ref a ∧ DPut H a i v H4 ∧ Q H4
theorem set_dict (hu : X.A.units + 1 < cLine) : PSet X rSetD := by
  intro pins s σ H o i v ov iv u Q I ro ri rv h
  obtain ⟨a, H4, rfl, g, q⟩ := h
  cases ro
  exact d_setItem hu I g ri rv fun s4 I4 => ⟨H4, I4, q⟩
theorem PSet.or {t u : TSet} (h : PSet X t) (g : PSet X u) : PSet X (fun o i v H Q => t o i v H Q ∨ u o i v H Q) := by
  intro pins s σ H o i v ov iv w Q I ro ri rv q
  rcases q with q | q
  · exact h pins s σ H o i v ov iv w Q I ro ri rv q
  · exact g pins s σ H o i v ov iv w Q I ro ri rv q
def mgSubU (mo mi : M D) : MG := fun d env h => (mo env h).bind fun o h1 => (mi env h1).bind fun i h2 => match o with
  | .loc n => (match h2[n]? with
    | some (.lst ds) => (match i with
      | .int k => (match ixN ds.length k with
        | some j => .ok env (h2.set n (.lst (ds.set j d)))
        | none => .bad)
      | _ => .bad)
    | some (.dct kvs) => (match keyT i with
      | some k => if kvs.length < sizeLine then .ok env (h2.set n (.dct (fPut kvs k d))) else .bad
      | none => .bad)
    | _ => .bad)
  | _ => .bad
theorem sg_subU {to ti : TE} {mo mi : M D} (ho : Sd K (RV K) E to mo) (hi : Sd K (RV K) E ti mi) : SdG K E (gSub to ti (fun o i v H Q => rSetL o i v H Q ∨ rSetD o i v H Q)) (mgSubU mo mi) := fun ρ P σ H env h d v s re w Q p =>
  ho ρ P σ H env h s re _ (Post.bind p fun a h1 ρ1 P1 H1 x t1 s1 w1 p1 => hi _ _ _ _ _ _ s1 (re.step t1) _ (Post.bind p1 fun b h2 ρ2 P2 H2 y t2 s2 w2 p2 => by
    have w1 := w1.step t2
    have re2 := (re.step t1).step t2
    have w := (w.step t1).step t2
    cases w1 with
    | loc e =>
      rename_i n q
      obtain ⟨o, eo, r⟩ := s2.here e
      simp only [eo] at p2
      cases o with
      | lst ds =>
        obtain ⟨us, ev, rv⟩ := r
        cases w2 with
        | int k =>
          dsimp only at p2
          cases ej : ixN ds.length k with
          | none => simp only [ej] at p2; exact p2.elim
          | some j =>
            simp only [ej] at p2
            refine .inl ⟨q, us, k, j, rfl, rfl, ev, by rw [rv.length]; exact ej, ?_⟩
            obtain ⟨s3, t3⟩ := s2.put (u := .lst (us.set j v)) (o := .lst (ds.set j d)) e ⟨_, upd_same, rv.set w j⟩
            exact p2 _ _ _ _ t3 s3 (re2.step t3)
        | _ => exact p2.elim
      | dct kvs =>
        dsimp only at p2
        cases ek : keyT b with
        | none => simp only [ek] at p2; exact p2.elim
        | some ks =>
          simp only [ek] at p2
          by_cases hl : kvs.length < sizeLine
          · rw [if_pos hl] at p2
            obtain ⟨qb, eq, hq⟩ := keyT_ok s2 w2 ek
            obtain ⟨kws, e3, e4, r⟩ := r
            subst eq
            have hl2 : kws.length < sizeLine := by
              have := congrArg List.length e4
              simp only [List.length_map] at this
              omega
            obtain ⟨r1, r2⟩ := put_rel (k := ks) w e4 r
            obtain ⟨s4, t4⟩ := s2.put (u := .dT (putK kws ks v)) (o := .dct (fPut kvs ks d)) e ⟨_, upd_same, r1, r2⟩
            exact .inr ⟨q, _, rfl, DPut.t e3 hq hl2, p2 _ _ _ _ t4 s4 (re2.step t4)⟩
          · rw [if_neg hl] at p2; exact p2.elim
      | ins c fs => exact p2.elim
      | ndt kvs => exact p2.elim
    | _ => exact p2.elim))
theorem jg_subU (hr : Room k X.A) (ha : JE K E X a ta ma) (hb : JE K E X b tb mb) (has : ∀ v, assign (.Subscript a b pos) X.env v = (do
      let ov ← holding [v] (eval a X.env)
      let iv ← holding [v, ov] (eval b X.env)
      standAt pos
      holding [v, ov, iv] (setItem ov iv v)
      release [v, ov, iv] []) := by intro _; rfl) : JG K E X (.Subscript a b pos) (gSub ta tb (fun o i v H Q => rSetL o i v H Q ∨ rSetD o i v H Q)) (mgSubU ma mb) := ⟨ha.k, pg_sub ha.p hb.p (Ab.PSet.or set_list (set_dict (hu_of hr))) has, sg_subU ha.s hb.s⟩
/-! for -/
def iU (K : PySem.W.Frag) (ta : TE) : TI := fun σ H W => ta σ H fun x H1 => ((∃ a, x = .ref a ∧ (((∃ xs, SqL K H1 a xs) ∧ W (Itl K a) H1) ∨ ((∃ xs, SqT K H1 a xs) ∧ W (Itt K a) H1))) ∨ ∃ z, x = .str z ∧ W (Its z) H1) ∨
  ∃ d kvs, x = .ref d ∧ ((∃ o, H1 d = some (.frz o (.dT kvs)) ∧ W (Itkt d o kvs) H1) ∨ (H1 d = some (.dT kvs) ∧ ∀ o, W (Itkt d o kvs) (upd H1 d (.frz o (.dT kvs)))))
theorem pi_U {tg : Expr} (ha : PE X a ta) : PI X tg a (iU X.K ta) := by
  refine ⟨fun pins s σ H W I h => thn (ha.run pins s σ H _ I h) fun v s1 z => ?_⟩
  obtain ⟨y, H1, I1, r1, dd⟩ := z
  rcases dd with (⟨q, rfl, d⟩ | ⟨z, rfl, go⟩) | ⟨d, kvs, rfl, q⟩
  · obtain rfl : v = Value.ref q := r1
    rcases d with ⟨⟨xs, hq⟩, go⟩ | ⟨⟨xs, hq⟩, go⟩
    · obtain ⟨its, _, pl, _⟩ := I1.list hq
      refine wpAny_pyIter_list pl.isList ⟨_, [_], _, _, H1, rfl, I1.kept (t' := s1.toks) fun b o e => Heap.get?_push_of_some _ e, turn_list q _, ⟨_, Heap.get?_push_size _ rfl, rfl, rfl⟩, fun b hb => ?_, go⟩
      cases (List.mem_singleton.mp hb)
      exact I1.fpOk (Nat.le_refl _) I1.fresh
    · obtain ⟨its, _, pl, _⟩ := I1.tuple hq
      refine wpAny_pyIter_tuple (show s1.heap.IsTuple q its.toArray from pl) ⟨_, [_], _, _, H1, rfl, I1.kept (t' := s1.toks) fun b o e => Heap.get?_push_of_some _ e, turn_tuple q _, ⟨_, Heap.get?_push_size _ rfl, rfl, rfl⟩, fun b hb => ?_, go⟩
      cases (List.mem_singleton.mp hb)
      exact I1.fpOk (Nat.le_refl _) I1.fresh
  · obtain ⟨t, rfl⟩ := r1
    cases hz : z.cps.all (· < 128)
    · exact wpAny_pyIter_wide hz (pi_one (tk := s1.toks) I1 _ (turn_str _ z t "str_iterator" (.inr rfl)) ⟨_, Heap.get?_push_size _ rfl, rfl, rfl⟩ go)
    · exact wpAny_pyIter_ascii hz (pi_one (tk := s1.toks) I1 _ (turn_str _ z t "str_ascii_iterator" (.inl rfl)) ⟨_, Heap.get?_push_size _ rfl, rfl, rfl⟩ go)
  · obtain rfl : v = Value.ref d := r1
    have go : ∀ {H2 : Hp} {o : Obj}, Inv X pins σ H2 s1 → H2 d = some (.frz o (.dT kvs)) → W (Itkt d o kvs) H2 → wpAny (model X.prog X.w) X.A (pyIter (.ref d)) (PIE X pins σ tg W) X.xe s1 := fun {H2 o} I2 hd q => by
      obtain ⟨hs, hgd, hx, es, ep, hdt, hsz, ent⟩ := I2.frzT hd
      refine iter_keys hs hgd hx hdt (pi_one (tk := s1.toks) I2 _ (turn_keysT _ hdt) ⟨_, Heap.get?_push_size _ rfl, rfl, ?_⟩ q)
      rw [hsz] <;> rfl
    rcases q with ⟨o, hd, q⟩ | ⟨hd, q⟩
    · exact go I1 hd q
    · obtain ⟨od, I2⟩ := I1.lock hd True.intro
      exact go I2 upd_same (q od)
def miU (m : M D) : MI := fun env h => (m env h).bind fun d h1 => match d with
  | .str z => .ok (.items (signsD z)) h1
  | .lst ds => .ok (.items ds) h1
  | .scr ds => .ok (.items ds) h1
  | .tup ds => .ok (.items ds) h1
  | .dic ks ds => if ks.length = ds.length then .ok (.items (ks.map keyTD)) h1 else .bad
  | .loc n => (match h1[n]? with
    | some (.lst _) => .ok (.at_ n) h1
    | _ => .bad)
  | _ => .bad
theorem si_U (ha : Sd K (RV K) E ta ma) : SdI K E (iU K ta) (miU ma) := fun ρ P σ H env h s re Q p =>
  ha ρ P σ H env h s re _ (Post.bindI p fun a h1 ρ1 P1 H1 v t1 s1 w1 p1 => by
    cases w1 with
    | str z => exact .inl (.inr ⟨z, rfl, p1 ρ1 P1 H1 _ (Step.refl ..) s1 itOk_S⟩)
    | lst q r => exact .inl (.inl ⟨_, rfl, .inl ⟨⟨_, .of (s1.sub _ _ q rfl)⟩, p1 ρ1 P1 H1 _ (Step.refl ..) s1 (itOk_L (h := h1) (.of q) r)⟩⟩)
    | scr q r => exact .inl (.inl ⟨_, rfl, .inl ⟨⟨_, sqL_s s1.sub q⟩, p1 ρ1 P1 H1 _ (Step.refl ..) s1 (itOk_L (h := h1) q r)⟩⟩)
    | tup q r => exact .inl (.inl ⟨_, rfl, .inr ⟨⟨_, sqT_tk s1.sub q⟩, p1 ρ1 P1 H1 _ (Step.refl ..) s1 (itOk_T (h := h1) (.of q) r)⟩⟩)
    | loc e =>
      obtain ⟨o, eo, r⟩ := s1.here e
      cases o with
      | lst ds =>
        obtain ⟨vs, ev, rv⟩ := r
        simp only [eo] at p1
        exact .inl (.inl ⟨_, rfl, .inl ⟨⟨_, .of ev⟩, p1 ρ1 P1 H1 _ (Step.refl ..) s1 ⟨_, e, rfl⟩⟩⟩)
      | dct kvs =>
        simp only [eo] at p1
      | ins c fs =>
        simp only [eo] at p1
      | ndt kvs =>
        simp only [eo] at p1
    | dic q ez l r =>
      rename_i a ks ds kws vs
      by_cases hl : ks.length = ds.length
      · simp only [if_pos hl] at p1
        have ek : kws.map (·.1) = ks := by rw [ez, List.map_fst_zip (by omega)]
        refine .inr ⟨a, kws, rfl, ?_⟩
        rcases s1.subD _ _ q with hd | ⟨o, hd⟩
        · refine .inr ⟨hd, fun o => ?_⟩
          obtain ⟨s2, t2⟩ := s1.lock q hd o
          have j := itOk_K (K := K) (ρ := ρ1) (P := P1) (h := h1) (upd_same (H := H1) (a := a) (o := .frz o (.dT kws)))
          rw [ek] at j
          exact p1 ρ1 P1 _ _ t2 s2 j
        · refine .inl ⟨o, hd, ?_⟩
          have j := itOk_K (K := K) (ρ := ρ1) (P := P1) (h := h1) hd
          rw [ek] at j
          exact p1 ρ1 P1 H1 _ (Step.refl ..) s1 j
      · simp only [if_neg hl] at p1
    | _ => exact p1.elim)
theorem ji_U {tg : Expr} (ha : JE K E X a ta ma) : JI K E X tg a (iU K ta) (miU ma) := by
  obtain ⟨hK, hp, hq⟩ := ha
  subst hK
  exact ⟨rfl, pi_U hp, si_U hq⟩
/-! list(x), len(x), sorted(x) -/
theorem CallR.or {f : Value} {r r' : List V → Hp → VK → Prop} (h : CallR X f r) (g : CallR X f r') : CallR X f (fun xs H Q => r xs H Q ∨ r' xs H Q) := by
  intro pins s σ H xs us Q I rr q
  rcases q with q | q
  · exact h pins s σ H xs us Q I rr q
  · exact g pins s σ H xs us Q I rr q
def isDct (ds : List D) (h : AH) : Bool := match ds with
  | [d] => (dctD d h).isSome
  | _ => false
def listUD (ds : List D) (h : AH) : R (List D) := if isDct ds h = true then listDD ds h else listD ds h
def lenUD (ds : List D) (h : AH) : R D := if isDct ds h = true then lenDD ds h else lenD ds h
theorem jb_lenU (hK : X.K = K := by rfl) : JBf K E X (.builtin "len") (fun xs H Q => (∃ x n, xs = [x] ∧ LenV K x H n ∧ Q (.int n) H) ∨ ∃ (p : Addr) (kvs : List (List Key × V)), xs = [.ref p] ∧ Rd H p (.dT kvs) ∧ Q (.int ((kvs.length : Nat) : Int)) H) lenUD := by
  subst hK
  refine ⟨CallR.or call_len call_len_rd, fun ρ P H h vs ds s w Q p => ?_⟩
  unfold lenUD at p
  split at p
  · exact .inr (cb_lenD ρ P H h vs ds s w Q p)
  · exact .inl (cb_len ρ P H h vs ds s w Q p)
def isRows (ds : List D) (h : AH) : Bool := match ds with
  | [d] => (rowsD d h).isSome
  | _ => false
def sortedUD (ds : List D) (h : AH) : R (List D) := if isRows ds h = true then sortedTD ds h else sortedD ds h
end
end Ab

/-! isinstance(x, C); min(list of tuples); keyword calls as pure calls. -/
namespace Ab
open PySem PySem.Spec L2 PyProof.Rows
section
variable {K : PySem.W.Frag} {E : XK} {ρ ρ' ρ1 : Ro} {P H P' H' P1 H1 : Hp} {X : Cx} {k : Nat} {c : Str}
/-- an own class, asked for by isinstance -/
structure IsiC (K : PySem.W.Frag) (c : Str) : Prop where
  cl : Cls K (He.ga K c)
  ha : PySem.W.findIn K (.ref (He.ga K c)) "__class__" = some (some (.builtin "object.__class__"))
  hn : PySem.W.specialIn K (.builtin "object.__class__") "__get__" = some (some (.builtin "getset_descriptor.__get__"))
  htk : PySem.W.takesIn K (.builtin "object.__class__") = some true
  hm : PySem.W.mroIn K (He.ga K c) (.type "object") = some true
  no : ∀ t ∈ ["NoneType", "bool", "int", "str", "list", "tuple", "dict"], PySem.W.kitOne K (.type t) (.ref (He.ga K c)) = some false
def Hd.isiB (c : Str) : Hd.Fb := fun K => (He.Fa.cls c).ok K && (He.eqO (PySem.W.findIn K (.ref (He.ga K c)) "__class__") (some (some (.builtin "object.__class__"))) && (He.eqO (PySem.W.specialIn K (.builtin "object.__class__") "__get__") (some (some (.builtin "getset_descriptor.__get__"))) &&
  (decide (PySem.W.takesIn K (.builtin "object.__class__") = some true) && (decide (PySem.W.mroIn K (He.ga K c) (.type "object") = some true) && ["NoneType", "bool", "int", "str", "list", "tuple", "dict"].all fun t => decide (PySem.W.kitOne K (.type t) (.ref (He.ga K c)) = some false)))))
def isiCD (c : Str) : List D → AH → R D
  | [.obj c' ns ds, .glo x], h => if c' = c ∧ x = c then .ok (.bl true) h else .bad
  | [.non, .glo x], h => if x = c then .ok (.bl false) h else .bad
  | [.bl _, .glo x], h => if x = c then .ok (.bl false) h else .bad
  | [.int _, .glo x], h => if x = c then .ok (.bl false) h else .bad
  | [.str _, .glo x], h => if x = c then .ok (.bl false) h else .bad
  | [.tup _, .glo x], h => if x = c then .ok (.bl false) h else .bad
  | [.lst _, .glo x], h => if x = c then .ok (.bl false) h else .bad
  | [.dk _, .glo x], h => if x = c then .ok (.bl false) h else .bad
  | _, _ => .bad
end
/-! min of a list of tuples of whole numbers -/
section
open PySem.W PySem.SeqAt
def tupP (ns : List Int) : PyData := .tuple (ns.map PyData.int)
end
section
open PySem.W (AlikeAll iter_listW cmpIn_lt moved_old)
variable {X : Cx}
abbrev minAt (ks : List (List Int)) : Nat := argBest (fun i j => lexI (ks.getD i []) (ks.getD j [])) (ks.length - 1)
def rMinT (K : PySem.W.Frag) : List V → Hp → VK → Prop := fun vs H Q => ∃ (a : Addr) (bs : List Addr) (k : Addr → List Int), vs = [V.ref a] ∧ SqL K H a (bs.map V.ref) ∧ bs ≠ [] ∧ (∀ b ∈ bs, H b = some (.tup ((k b).map V.int))) ∧
  ∀ b, bs[minAt (bs.map k)]? = some b → Q (.ref b) H
variable {K : PySem.W.Frag} {E : XK} {ρ ρ' ρ1 : Ro} {P H P' H' P1 H1 : Hp} {k : Nat}
def minTD (ds : List D) (h : AH) : R D := match ds with
  | [d] => (match seqD d h with
    | some es => (match intsTs es with
      | some ks => (match es[minAt ks]? with
        | some e => .ok e h
        | none => .bad)
      | none => .bad)
    | none => .bad)
  | _ => .bad
end
section
variable {X : Cx} {K : PySem.W.Frag} {E : XK} {k : Nat} {ps : List Str} {F : Fn} {st : Stmt} {x : Str} {pn pos : Pos} {e : Expr} {es : List Expr} {kws : List Keyword} {t tk : TA} {m mk : M (List D)}
end
end Ab

/-! (a, b, ..) = a list. -/
namespace Ab
open PySem PySem.Spec L2 PyProof.Rows
section
variable {prog : Program} {w : World} {A : Around} {E : Value → Shared → Prop} {I : Addr} {fp wr : List Addr} {n : Nat} {P : Nat → Value → Prop} {St : Nat → Heap → Prop}
theorem draw_walk (W : Walks prog w A I fp wr n P St) : ∀ (k i : Nat) (s : Shared) (Q : List Value → Shared → Prop), St i s.heap → i + k ≤ n →
    (∀ us h' tk, us.length = k → (∀ j u, us[j]? = some u → P (i + j) u) → St (i + k) h' → (∀ b o, b ∉ wr → s.heap.get? b = some o → h'.get? b = some o) → Q us { s with heap := h', toks := tk }) → wpAny (model prog w) A (draw (.ref I) k) Q E s
  | 0, i, s, Q, st, _, hQ => by
    show wpAny _ _ (pure []) Q E s
    exact wpAny_pure (hQ [] s.heap s.toks rfl (fun j u e => by cases e) st fun b o _ e => e)
  | k + 1, i, s, Q, st, hle, hQ => by
    show wpAny _ _ (pyNext (.ref I) >>= _) Q E s
    refine wpAny_bind (W.item i s _ _ (by omega) st fun v h₁ tk hP st₁ hk₁ => ?_)
    refine wpAny_bind (wpAny_holding (draw_walk W k (i + 1) _ _ st₁ (by omega) fun us h₂ tk₂ hl hp st₂ hk₂ => wpAny_pure ?_))
    refine hQ (v :: us) h₂ tk₂ (by simp [hl]) (fun j u e => ?_) (by rw [show i + (k + 1) = i + 1 + k by omega]; exact st₂) fun b o hb e => hk₂ b o hb (hk₁ b o hb e)
    cases j with
    | zero => cases e; exact hP
    | succ j => rw [show i + (j + 1) = i + 1 + j by omega]; exact hp j u e
theorem unpackItems_list {s : Shared} {l : Addr} {items : Array Value} {Q : List Value → Shared → Prop} (hh : A.handled = none) (hl : s.heap.IsList l items)
    (hQ : ∀ h' tk, (∀ b o, s.heap.get? b = some o → h'.get? b = some o) → Q items.toList { s with heap := h', toks := tk }) : wpAny (model prog w) A (unpackItems (.ref l) items.size none) Q E s := by
  have hlt : l ≠ s.heap.objs.size := by obtain ⟨o, ho, _⟩ := hl; exact Nat.ne_of_lt (Heap.lt_size ho)
  have W := Walks.list (prog := prog) (w := w) (A := A) hh s.heap.objs.size l hlt items
  unfold unpackItems
  refine wpAny_bind ?_
  · unfold notIterableAtAll
    refine wpAny_bind (wpAny_specialOf hl.typeIs PySem.F.slot_list_iter.lookup ?_)
    refine wpAny_pure ?_
    simp only [Bool.false_eq_true, if_false]
    refine wpAny_bind (wpAny_holding (wpAny_pyIter_list hl ?_))
    refine wpAny_bind (wpAny_holding (draw_walk W items.size 0 _ _ ⟨⟨_, Heap.get?_push_size _ rfl, rfl, rfl⟩, hl.push _⟩ (by omega) fun us h₁ tk₁ hlen hp st₁ hk₁ => ?_))
    have eu : us = items.toList := by
      apply List.ext_getElem?
      intro j
      cases e : us[j]? with
      | none =>
        have := List.getElem?_eq_none_iff.mp e
        rw [List.getElem?_eq_none (by rw [Array.length_toList]; omega)]
      | some u =>
        have := hp j u e
        rw [Nat.zero_add] at this
        rw [Array.getElem?_toList]; exact this.symm
    subst eu
    rw [if_neg (by simp)]
    rw [Nat.zero_add] at st₁
    refine wpAny_bind (wpAny_holding (W.done _ _ _ st₁ fun h₂ tk₂ hk₂ => ?_))
    simp only [Option.isSome_none, Bool.false_eq_true, if_false]
    refine wpAny_pure (hQ h₂ tk₂ fun b o e => ?_)
    have hb : b ∉ [s.heap.objs.size] := fun z => by
      have := Heap.lt_size e
      rw [List.mem_singleton.mp z] at this
      exact Nat.lt_irrefl _ this
    exact hk₂ b o hb (hk₁ b o hb (Heap.get?_push_of_some _ e))
theorem assign_Tuple_list {env : PySem.Env} {elts : List Expr} {x1} {pos : Pos} {s : Shared} {l : Addr} {items : Array Value} {Q : Unit → Shared → Prop} (hh : A.handled = none) (hl : s.heap.IsList l items)
    (hn : (assignEach elts env).length = items.size) (hstar : (assignEach elts env).findIdx? (·.1) = none)
    (h : ∀ h' tk, (∀ b o, s.heap.get? b = some o → h'.get? b = some o) → wpAny (model prog w) A (assignInOrder ((assignEach elts env).map (·.2)) items.toList) Q E { s with heap := h', toks := tk }) :
    wpAny (model prog w) A (assign (.Tuple elts x1 pos) env (.ref l)) Q E s := by
  rw [assign_Tuple]
  refine wpAny_bind (wpAny_standAt ?_)
  unfold unpack
  rw [hn, hstar]
  exact wpAny_bind (wpAny_holding (unpackItems_list hh hl h))
end
section
variable {K : PySem.W.Frag} {E : XK} {X : Cx} {pos : Pos} {es : List Expr} {gs : TGs} {mgs : List D → En → AH → R En}
/-- (a, b, ..) = a tuple or a list of that length -/
def gSeqT (K : PySem.W.Frag) (n : Nat) (t : TGs) : TG := fun v σ H Q => ∃ a xs, v = .ref a ∧ (SqL K H a xs ∨ SqT K H a xs) ∧ xs.length = n ∧ t xs σ H Q
theorem pg_seqT {k : Nat} {t : TGs} {n : Nat} (hc : X.calm = true) (h : PGs X es t)
    (hn : (assignEach es X.env).length = n := by rfl) (hst : (assignEach es X.env).findIdx? (·.1) = none := by rfl) : PG X (.Tuple es k pos) (gSeqT X.K n t) := by
  refine ⟨fun pins s σ H v u Q I r hw => ?_⟩
  obtain ⟨a, xs, e1, hq, hl, hw⟩ := hw
  rcases hq with hq | hq
  · subst e1
    cases r
    obtain ⟨its, rv, ht, hz⟩ := I.list hq
    refine assign_Tuple_list (I.ok.hd hc) ht.isList (by simp [hn, ← hl, rv.length]) hst fun h' tk hx => ?_
    have I1 : Inv X pins σ H { s with heap := h', toks := tk } := I.kept (t' := tk) hx
    exact h.run pins _ σ H xs _ Q I1 (by simpa using rv) hw
  · exact (pg_tup hc h hn hst).run pins s σ H v u Q I r ⟨a, xs, e1, hq, hl, hw⟩
def mgSeq (n : Nat) (m : List D → En → AH → R En) : MG := fun d env h => match spreadD d h with
  | some ds => if ds.length = n then m ds env h else .bad
  | none => .bad
theorem sg_seqT {n : Nat} (ha : SdGs K E gs mgs) : SdG K E (gSeqT K n gs) (mgSeq n mgs) := fun ρ P σ H env h d v s re w Q p => by
  unfold mgSeq at p
  split at p
  · rename_i ds e
    split at p
    · rename_i hl
      obtain ⟨a, vs, rfl, hsq, r⟩ := spreadD_ok s w e
      exact ⟨_, _, rfl, hsq, by rw [r.length]; exact hl, ha _ _ _ _ _ _ _ _ s re r Q p⟩
    · exact p.elim
  · exact p.elim
theorem jg_seqT {kk : Nat} {n : Nat} (h : JGs K E X es gs mgs) (hc : X.calm = true := by rfl) (hn : (assignEach es X.env).length = n := by rfl) (hst : (assignEach es X.env).findIdx? (·.1) = none := by rfl) : JG K E X (.Tuple es kk pos) (gSeqT K n gs) (mgSeq n mgs) := by
  obtain ⟨hK, hp, hq⟩ := h
  subst hK
  exact ⟨rfl, pg_seqT hc hp hn hst, sg_seqT hq⟩
end
end Ab

/-! One rule for texts and numbers, lists and tuples: int(x), x[a:b], x + y; a tuple once. -/
namespace Ab
open PySem PySem.Spec L2 PyProof.Rows
theorem tuple_mul1 (l : Addr) (items : Array Value) (n : Nat) (dd : Option Addr) (sl : Array (Option Value)) (u : Tok) :
    Meets (Builtin.«tuple.__mul__» ⟨[.ref l, .int 1 u], []⟩) (fun _ R s => s.heap.get? l = some { cls := .type "tuple", dict := dd, data := .seq items n, slots := sl } ∧
      R (.ok (.ret (Value.ref l))) s) :=
  .of_wp fun prog w A R s h => by
    obtain ⟨hp, g, d, tk, os⟩ := s
    obtain ⟨hl, h⟩ := h
    have f1 := AutoSeq1.idx_int
    wp_walk using wpAny_loadPart' hl
    repeat (first
      | (refine wpAny_ite_false (by decide) ?_; wp_walk using wpAny_loadPart' hl)
      | (refine wpAny_ite_true (by simp) ?_; wp_walk using wpAny_loadPart' hl))
    exact ⟨_, rfl, h⟩
section
variable {K : PySem.W.Frag} {E : XK} {ρ ρ' ρ1 : Ro} {P H P' H' P1 H1 : Hp} {X : Cx} {k : Nat}
/-- tuple * 1 -/
def rRep1 (K : PySem.W.Frag) : R2 := fun x y H Q => ∃ l xs, x = .ref l ∧ y = .int 1 ∧ SqT K H l xs ∧ xs.length ≤ 1000 ∧ Q (.ref l) H
theorem op_rep1 : OpR X (binaryOp .Mult) (rRep1 X.K) := by
  intro pins s σ H x y v u Q I rx ry h
  obtain ⟨l, xs, rfl, rfl, hT, hz, q⟩ := h
  cases rx
  obtain ⟨t, rfl⟩ := ry
  obtain ⟨its, r, ⟨⟨cls, dd, data, sl⟩, ho, hc, n, hd⟩, hs⟩ := I.tuple hT
  simp only at hc hd
  subst hc hd
  refine wpAny_binaryOp_repeat_ref (T := "tuple") (U := "int") (by decide) ⟨_, ho, rfl⟩ (fun s' => typeIs_int s' 1 t) noFill_tuple_mul F.fills_int_mul F.slot_int_rmul repeat_tuple F.slot_int_index.lookup
    (call_meets F.slot_int_rmul (typeIs_int s 1 t) F.entry_int_rmul (F.args_int_rmul_2 _ _) (int_rmul_tuple 1 t l its.toArray n dd sl)
      ⟨ho, rfl, ⟨_, ho, rfl⟩, call_meets F.slot_tuple_mul ⟨_, ho, rfl⟩ F.entry_tuple_mul (F.args_tuple_mul_2 _ _) (tuple_mul1 l its.toArray n dd sl t) ⟨ho, ?_⟩⟩)
  exact ⟨.ref l, H, I, rfl, q⟩
def mulUD : D → D → AH → R D
  | .tup xs, .int 1, h => if xs.length ≤ 1000 then .ok (.tup xs) h else .bad
  | a, b, h => mulD a b h
theorem os_mulU : OpS K E (fun x y H Q => rMulU K x y H Q ∨ rRep1 K x y H Q) mulUD := fun ρ P H h x y dx dy s wx wy Q p => by
  unfold mulUD at p
  split at p
  · split at p
    · rename_i hl
      cases wx with
      | tup q r =>
        cases wy
        exact .inr ⟨_, _, rfl, rfl, sqT_tk s.sub q, by rw [r.length]; exact hl, Post.here p s (.tup q r)⟩
    · exact p.elim
  · exact .inl (os_mul ρ P H h x y _ _ s wx wy Q p)
variable {a b e : Expr} {ta tb te : TE} {ma mb : M D} {pos p2 : Pos} {lo hi : Option Expr} {tl th : TO} {ml mh : M (Option Int)}
theorem je_mulU (ha : JE K E X a ta ma) (hb : JE K E X b tb mb) : JE K E X (.BinOp a .Mult b pos) (tOp (fun x y H Q => rMulU K x y H Q ∨ rRep1 K x y H Q) ta tb) (mBin mulUD ma mb) := je_bin (by have := ha.k; subst this; exact op_mulU.or op_rep1) os_mulU ha hb
/-! int(x) -/
def intUD : List D → AH → R D
  | [.str x], h => intSD [.str x] h
  | ds, h => intD ds h
theorem jb_intU : JBf K E X (.type "int") (fun xs H Q => (∃ a n, xs = [.str a] ∧ PySem.intText? a = some n ∧ a.length ≤ 640 ∧ Q (.int n) H) ∨ ((∃ i, xs = [.int i] ∧ Q (.int i) H) ∨ ∃ k, xs = [.bl k] ∧ Q (.int (if k then 1 else 0)) H)) intUD := by
  refine ⟨CallR.or call_int_str call_int1, fun ρ P H h vs ds s w Q p => ?_⟩
  unfold intUD at p
  split at p
  · exact .inl (cb_intS ρ P H h vs _ s w Q p)
  · exact .inr (cb_int ρ P H h vs _ s w Q p)
/-! x[a:b] -/
theorem Post.newLst {h : AH} {ds : List D} {vs : List V} {Q : VK} (p : Post K (RV K) E ρ P H Q (.ok (.lst ds) h)) (s : SR K ρ P H h) (w : RepL K ρ P ds vs) : ∀ q, H q = none → Q (.ref q) (upd H q (.lst vs)) := fun q hq => by
  obtain ⟨s', t⟩ := s.pure hq (.lst vs)
  exact p _ _ _ _ t s' (.lst upd_same (w.step t))
def mSlU (m : M D) (lo hi : M (Option Int)) : M D := fun env h => (m env h).bind fun d h1 => (lo env h1).bind fun l h2 => (hi env h2).bind fun u h3 => match d with
  | .tup ds => .ok (.tup (cutL ds l u)) h3
  | d => (match seqD d h3 with
    | some ds => .ok (.lst (cutL ds l u)) h3
    | none => .bad)
/-! x + y -/
def addUD (a b : D) (h : AH) : R D := match lstD a h, lstD b h with
  | some xs, some ys => if xs.length + ys.length ≤ sizeLine then .ok (.lst (xs ++ ys)) h else .bad
  | _, _ => addD a b h
theorem os_addU : OpS K E (fun x y H Q => rAddU K x y H Q ∨ rCat x y H Q) addUD := fun ρ P H h x y dx dy s wx wy Q p => by
  unfold addUD at p
  split at p
  · rename_i xs ys ea eb
    split at p
    · rename_i hl
      obtain ⟨a1, vs, rfl, q1, r1⟩ := lstD_ok s wx ea
      obtain ⟨b1, us, rfl, q2, r2⟩ := lstD_ok s wy eb
      exact .inr ⟨a1, b1, vs, us, rfl, rfl, q1, q2, by rw [r1.length, r2.length]; exact hl, Post.newLst p s (r1.append r2)⟩
    · exact p.elim
  · exact .inl (os_add ρ P H h x y _ _ s wx wy Q p)
theorem je_addU (ha : JE K E X a ta ma) (hb : JE K E X b tb mb) : JE K E X (.BinOp a .Add b pos) (tOp (fun x y H Q => rAddU K x y H Q ∨ rCat x y H Q) ta tb) (mBin addUD ma mb) := je_bin (by have := ha.k; subst this; exact op_addU.or op_cat) os_addU ha hb
end
end Ab

/-! xs.count(x), xs.index(x) of data. -/
namespace Ab
open PySem PySem.Spec L2 PyProof.Rows
section
variable {X : Cx}
/-- l.count(x) -/
def rCountD (K : PySem.W.Frag) : V → List V → Hp → VK → Prop := fun x xs H Q => ∃ (a : Addr) (y : V) (d : PyData) (ds : List PyData), x = V.ref a ∧ xs = [y] ∧ Dp K H (V.ref a) (.list ds) ∧ Dp K H y d ∧
  SeqAt.shaped (.list ds) = true ∧ SeqAt.shaped d = true ∧ Q (.int ((ds.countP fun z => PyData.eqv z d : Nat) : Int)) H
theorem mt_countD (hu : X.A.units + 65 < cLine) : MtR X "list.count" (rCountD X.K) := by
  intro pins s σ H x xs v us Q I rx rxs h
  obtain ⟨a, y, d, ds, rfl, rfl, hl, hy, sl, sd, q⟩ := h
  cases rx
  cases rxs with
  | cons ry rt =>
    rename_i uy ut
    cases rt
    obtain ⟨bs, r1⟩ := Dp.reads I d y uy hy ry
    have hxs : PyData.canLayAll0 ds = true := SeqAt.canLay_of_shaped sl
    have hroom : X.A.units + 1 + min (PyData.depthAll ds) d.depth < cLine := room_in_shaped sd hu
    cases hl with
    | lst hs ha =>
      obtain ⟨its, rv, ⟨⟨cls, dd, data, sls⟩, n, ho, hc, hdn, hdt⟩, hlen⟩ := I.list hs
      simp only at hc hdt
      subst hc hdt
      obtain ⟨as, h4⟩ := Dp.readsAll I ds _ its ha rv
      have hmap : its.map (SeqAt.readOf s.heap) = ds := SeqAt.readsAll_map ds its as hxs h4
      refine call_meets PySem.F.slot_list_count ⟨_, ho, rfl⟩ PySem.F.entry_list_count (PySem.F.args_list_count_2 _ _)
        (SeqAt.list_countAt a its.toArray n dd sls uy (fun u => PyData.eqv (SeqAt.readOf s.heap u) d)) ⟨ho, SeqAt.items_eqAt (vs := its.toArray) (show ReadsAll s.heap its.toArray.toList ds as from h4) r1 hxs (SeqAt.canLay_of_shaped sd) hroom, ?_⟩
      have e : its.toArray.toList.countP (fun u => PyData.eqv (SeqAt.readOf s.heap u) d) = ds.countP fun z => PyData.eqv z d := by
        rw [← hmap, List.countP_map]; rfl
      rw [e]
      exact ⟨.int _, H, I.tok _, ⟨_, rfl⟩, q⟩
end
section
variable {K : PySem.W.Frag} {E : XK} {ρ : Ro} {P H : Hp} {X : Cx} {k : Nat}
def isLst (d : D) (h : AH) : Bool := match d with
  | .lst _ => true
  | .scr _ => true
  | .loc n => (match h[n]? with
    | some (.lst _) => true
    | _ => false)
  | _ => false
theorem isLst_ty : ∀ ρ P H h x d, SR K ρ P H h → Rep K ρ P d x → isLst d h = true → tyV K "list" x H := fun ρ P H h x d s w e => by
  cases w with
  | lst q r => exact .inl ⟨rfl, _, .of (s.sub _ _ q rfl)⟩
  | scr q r => exact .inl ⟨rfl, _, sqL_s s.sub q⟩
  | loc e1 => exact isLoc_ty _ _ _ _ _ _ s (.loc e1) e
  | _ => cases e
def pyOk (d : D) (h : AH) : Option PyData := match toPy h d with
  | some p => if SeqAt.shaped p = true then some p else none
  | none => none
theorem pyOk_ok {h : AH} {d : D} {v : V} {p : PyData} (s : SR K ρ P H h) (w : Rep K ρ P d v) (e : pyOk d h = some p) : Dp K H v p ∧ SeqAt.shaped p = true := by
  unfold pyOk at e
  split at e
  · rename_i q eq
    split at e
    · rename_i hs
      cases e
      exact ⟨dp_of s w eq, hs⟩
    · cases e
  · cases e
def countD : D → List D → AH → R D := fun o ds h => match ds with
  | [d] => (match pyOk o h, pyOk d h with
    | some (.list ps), some p => .ok (.int ((ps.countP fun z => PyData.eqv z p : Nat) : Int)) h
    | _, _ => .bad)
  | _ => .bad
theorem dp_ref {v : V} {ps : List PyData} (h : Dp K H v (.list ps)) : ∃ a, v = .ref a := by cases h; exact ⟨_, rfl⟩
theorem mt_countU : MtS K E "list" (rCountD K) isLst countD := by
  refine ⟨isLst_ty, fun ρ P H h x vs d ds s w ws Q p => ?_⟩
  unfold countD at p
  split at p
  · obtain ⟨v, rfl, r⟩ := ws.one
    split at p
    · rename_i ps q eo ed
      obtain ⟨h1, h2⟩ := pyOk_ok s w eo
      obtain ⟨h3, h4⟩ := pyOk_ok s r ed
      obtain ⟨a, rfl⟩ := dp_ref h1
      exact ⟨a, v, q, ps, rfl, rfl, h1, h3, h2, h4, Post.here p s (.int _)⟩
    · exact p.elim
  · exact p.elim
theorem jm_count (hr : Room k X.A) (hK : X.K = K := by rfl) : JM K E X "list" "list.count" (rCountD K) isLst countD := by subst hK; exact ⟨mt_countD (by have := hr.un; omega), mt_countU⟩
def firstAt (q : PyData) : Nat → List PyData → Option Nat
  | _, [] => none
  | i, z :: ps => if PyData.eqv z q = true then some i else firstAt q (i + 1) ps
theorem firstAt_ok {q : PyData} : ∀ {ps : List PyData} {i j : Nat}, firstAt q i ps = some j → ∃ l z, j = i + l ∧ ps[l]? = some z ∧ PyData.eqv z q = true ∧ ∀ m z', m < l → ps[m]? = some z' → PyData.eqv z' q = false
  | [], _, _, e => by cases e
  | z :: ps, i, j, e => by
    unfold firstAt at e
    split at e
    · rename_i hz
      cases e
      exact ⟨0, z, rfl, rfl, hz, fun m z' hm => absurd hm (Nat.not_lt_zero m)⟩
    · rename_i hz
      obtain ⟨l, y, e1, e2, e3, e4⟩ := firstAt_ok e
      refine ⟨l + 1, y, by omega, e2, e3, fun m z' hm hz' => ?_⟩
      cases m with
      | zero => cases hz'; simpa using hz
      | succ m => exact e4 m z' (by omega) hz'
def indexD : D → List D → AH → R D := fun o ds h => match ds with
  | [d] => (match pyOk o h, pyOk d h with
    | some (.list ps), some p => (match firstAt p 0 ps with
      | some j => .ok (.int (j : Nat)) h
      | none => .bad)
    | _, _ => .bad)
  | _ => .bad
theorem mt_indexU : MtS K E "list" (rIndexD K) isLst indexD := by
  refine ⟨isLst_ty, fun ρ P H h x vs d ds s w ws Q p => ?_⟩
  unfold indexD at p
  split at p
  · obtain ⟨v, rfl, r⟩ := ws.one
    split at p
    · rename_i ps q eo ed
      split at p
      · rename_i j ej
        obtain ⟨h1, h2⟩ := pyOk_ok s w eo
        obtain ⟨h3, h4⟩ := pyOk_ok s r ed
        obtain ⟨a, rfl⟩ := dp_ref h1
        obtain ⟨l, z, e1, e2, e3, e4⟩ := firstAt_ok ej
        have : j = l := by omega
        subst this
        exact ⟨a, v, q, ps, j, z, rfl, rfl, h1, h3, h2, h4, e2, e3, e4, Post.here p s (.int _)⟩
      · exact p.elim
    · exact p.elim
  · exact p.elim
theorem jm_index (hr : Room k X.A) (hK : X.K = K := by rfl) : JM K E X "list" "list.index" (rIndexD K) isLst indexD := by subst hK; exact ⟨mt_indexD (by have := hr.un; omega), mt_indexU⟩
end
end Ab

/-! x < y of whole numbers and of tuples of them. -/
namespace Ab
open PySem PySem.Spec L2
section
variable {K : PySem.W.Frag} {E : XK} {ρ : Ro} {P H : Hp} {X : Cx} {k : Nat}
def ltUD : D → D → AH → R D := fun a b h => match intsT a, intsT b with
  | some ns, some ms => .ok (.bl (lexI ns ms)) h
  | _, _ => cmpD (fun i j => decide (i < j)) a b h
end
end Ab

/-! dict(d): a copy of a dict whose keys are tuples (their hashes all unlike). -/
namespace PySem
section
variable {prog : Program} {w : World} {K : Type} [DecidableEq K] {knd : HeapKind prog w K} {A : Around} {E : Value → Shared → Prop} {s : Shared}
end
end PySem
namespace Ab
open PySem PySem.Spec L2 PyProof.Rows
section
variable {X : Cx}
/-- the hash of a tuple of whole numbers -/
def hashI (ns : List Int) : Int := reduceHash (Builtin.Tuple.tupleHashOf (ns.map hashInt))
def rDictT : List V → Hp → VK → Prop := fun xs H Q => ∃ (a : Addr) (kvs : List (List Key × V)) (ks : List (List Int)), xs = [.ref a] ∧ Rd H a (.dT kvs) ∧ kvs.map (·.1) = ks.map (fun ns => ns.map Sum.inl) ∧ (ks.map hashI).Nodup ∧ ∀ p, H p = none → Q (.ref p) (upd H p (.dT kvs))
end
section
variable {K : PySem.W.Frag} {E : XK} {ρ : Ro} {P H : Hp} {X : Cx} {k : Nat}
/-- keys of whole numbers -/
def keyZ : List Key → Option (List Int)
  | [] => some []
  | .inl i :: r => (keyZ r).map (i :: ·)
  | .inr _ :: _ => none
def keysZ : List (List Key) → Option (List (List Int))
  | [] => some []
  | k :: r => match keyZ k, keysZ r with
    | some a, some b => some (a :: b)
    | _, _ => none
def nodI : List Int → Bool
  | [] => true
  | x :: l => (l.all fun y => !decide (y = x)) && nodI l
/-- dict(d) of tuples of whole numbers, all of other hashes -/
def dictD : List D → AH → R D := fun ds h => match ds with
  | [d] => (match dctD d h with
    | some kvs => (match keysZ (kvs.map (·.1)) with
      | some ks => if nodI (ks.map hashI) = true then .ok (.loc h.length) (h ++ [.dct kvs]) else .bad
      | none => .bad)
    | none => .bad)
  | _ => .bad
end
end Ab

/-! The head's facts, looked at in a part of the heap whose addresses are told. -/
namespace Ab
namespace Hd
open PySem PySem.W
def obsL (as : List Addr) (fb : List Fb) (fn : List He5.DefA) (g : Addr → Option Obj) : He.AlD := obsB fb fn (He.frG g as)
def hookL (as : List Addr) (fb : List Fb) (fn : List He5.DefA) : PySem.W.Hook where
  α := He.AlD
  obs := fun s => obsL as fb fn s.heap.get?
  val := fun _ => He5.valA fn
  says := fun _ h => ∃ K : Frag, K.In h ∧ SaysB fb fn K
  of := fun _ _ e => ⟨_, He.frG_in, e⟩
  keeps := fun _ _ _ ⟨K, hK, c⟩ k => ⟨K, Frag.In.keeps hK k, c⟩
end Hd
end Ab

/-! {**a, **b}: dicts put together. -/
namespace PySem
section
variable {prog : Program} {w : World} {K : Type} [DecidableEq K] {knd : HeapKind prog w K} {A : Around} {E : Value → Shared → Prop} {s : Shared}
end
end PySem

/-! {**a, **b}: the layer. -/
namespace Ab
open PySem PySem.Spec L2 PyProof.Rows HT
section
variable {K : PySem.W.Frag} {E : XK} {ρ ρ' ρ1 : Ro} {P H P' H' P1 H1 : Hp} {X : Cx} {ax bx e : Expr} {pos : Pos} {ta tb te : TE} {ma mb me : M D} {k : Nat}
def tMrg (ta tb : TE) : TE := fun σ H Q => ∀ p, H p = none → ta σ (upd H p (.dT [])) fun x H1 => ∃ (a : Addr) (kvs : List (List Key × V)) (ks : List (List Int)), x = .ref a ∧ a ≠ p ∧ Rd H1 a (.dT kvs) ∧ kvs.map (·.1) = ks.map (fun ns => ns.map Sum.inl) ∧ (ks.map hashI).Nodup ∧ kvs ≠ [] ∧ H1 p = some (.dT []) ∧
  tb σ (upd H1 p (.dT kvs)) fun y H2 => ∃ (b : Addr) (kws : List (List Key × V)), y = .ref b ∧ b ≠ p ∧ Rd H2 b (.dT kws) ∧ ((kvs ++ kws).map (·.1)).Nodup ∧ kvs.length + kws.length ≤ sizeLine ∧ H2 p = some (.dT kvs) ∧ Q (.ref p) (upd H2 p (.dT (kvs ++ kws)))
/-- {**a, **b} of dicts whose keys are unlike; nobody changes it -/
def mMrgF (ma mb : M D) : M D := fun env h => (ma env h).bind fun d h1 => match dctD d h1 with
  | some kvs => (match keysZ (kvs.map (·.1)) with
    | some ks => if kvs ≠ [] ∧ nodI (ks.map hashI) = true then (mb env h1).bind fun e h2 => (match dctD e h2 with
      | some kws => if ((kvs ++ kws).map (·.1)).Nodup ∧ kvs.length + kws.length ≤ sizeLine then .ok (.dic ((kvs ++ kws).map (·.1)) ((kvs ++ kws).map (·.2))) h2 else .bad
      | none => .bad) else .bad
    | none => .bad)
  | none => .bad
end
end Ab

/-! len(x) of an object whose class has __len__. -/
namespace Ab
open PySem PySem.Spec L2 PyProof.Rows PySem.Calls
section
variable {X : Cx} {c : Str} {k : Nat} {F : Fn}
def rLenO (C : Addr) (sp : Sp) : List V → Hp → VK → Prop := fun xs H Q => ∃ a dx fs, xs = [.ref a] ∧ H a = some (.ins C dx fs) ∧ sp [.ref a] H (fun v H' => ∃ i : Int, v = .int i ∧ 0 ≤ i ∧ i < 2 ^ 63 ∧ Q (.int i) H') E0
end
section
variable {K : PySem.W.Frag} {E : XK} {X : Cx} {c : Str} {k : Nat} {F : Fn}
def lenOD (c : Str) (F : Fn) : List D → AH → R D := fun ds h => match ds with
  | [.obj c' ns fs] => if c' = c then (match callP 1 F [.obj c' ns fs] h with
    | .ok (.int i) h1 => if 0 ≤ i ∧ i < 2 ^ 63 then .ok (.int i) h1 else .bad
    | _ => .bad) else .bad
  | _ => .bad
end
end Ab

/-! `[x for x in d]` over a dict that may change later: it is locked meanwhile. -/
namespace Ab
open PySem PySem.Spec L2 PyProof.Rows PySem.Calls
section
variable {K : PySem.W.Frag} {E : XK} {X : Cx}
/-- the keys of an owned dict -/
def mKeysV (i j : Nat) : M (List D) := fun env h => match env[i]? with
  | some (some (.loc n)) => (match h[n]? with
    | some (.dct kvs) => if kvs.length ≤ sizeLine ∧ j < env.length then .ok ((kvs.map (·.1)).map keyTD) h else .bad
    | _ => .bad)
  | _ => .bad
abbrev tKy (K : PySem.W.Frag) (i j : Nat) : TE := tLc (iU K (tVar i)) (gName j) tYes (tVar j) [j]
end
end Ab

/-! `range(i, j, -1)`. -/
namespace Ab
open PySem PySem.Spec L2 PyProof.Rows PySem.Calls
section
variable {K : PySem.W.Frag} {E : XK} {X : Cx} {ρ : Ro} {P H : Hp}
def dwnD (i j : Int) : List D := (List.range (i - j).toNat).map fun q => D.int (i + (q : Nat) * (-1))
def kR3 (ds : List D) (h : AH) : R AI := match ds with
  | [.int i, .int j, .int c] => if (InW i ∧ InW j) ∧ c = -1 then .ok (.items (dwnD i j)) h else .bad
  | _ => .bad
def miRng3 (m : M (List D)) : MI := fun env h => (m env h).bind kR3
end
end Ab

/-! A tuple and a list side by side. -/
namespace Ab
open PySem PySem.Spec L2 PyProof.Rows PySem.Calls
/-- the tuple at a with n1 items, the list at b with n2 -/
def ItzM (K : PySem.W.Frag) (a b : Addr) (n1 n2 : Nat) : It where
  go := fun i H => ∃ (xs ys : List V) (x y : V), (SqT K H a xs ∧ xs.length = n1 ∧ xs[i]? = some x) ∧ SqL K H b ys ∧ ys.length = n2 ∧ ys[i]? = some y
  yld := fun i H v H' => ∃ T x y, (v = .ref T ∧ H T = none ∧ H' = upd H T (.tup [x, y])) ∧ (∀ xs, SqT K H a xs → xs[i]? = some x) ∧ ∀ ys, SqL K H b ys → ys[i]? = some y
  stop := fun i H => (∃ xs : List V, SqT K H a xs ∧ xs.length = n1) ∧ (∃ ys : List V, SqL K H b ys ∧ ys.length = n2) ∧ (n1 ≤ i ∨ n2 ≤ i)
def iZipM (K : PySem.W.Frag) (ta : TA) : TI := fun σ H R => ta σ H fun vs H1 => ∃ a b xs ys, (vs = [.ref a, .ref b] ∧ SqT K H1 a xs ∧ SqL K H1 b ys) ∧ R (ItzM K a b xs.length ys.length) H1
section
variable {K : PySem.W.Frag} {E : XK} {ρ ρ' ρ1 : Ro} {P H P' H' P1 H1 : Hp}
def zipMA : List D → Option (List D)
  | [.tup xs, .lst ys] => some (zipD xs ys)
  | _ => none
def kZipM (ds : List D) (h : AH) : R AI := match zipMA ds with
  | some l => .ok (.items l) h
  | none => .bad
def miZipM (m : M (List D)) : MI := fun env h => (m env h).bind kZipM
variable {X : Cx} {e e2 : Expr} {t : TA} {m : M (List D)} {pos pn tpos : Pos} {elts : List Expr} {kk : Nat}
end
end Ab

/-! A dict of the module with text keys and whole numbers; a try whose body raises nothing. -/
namespace Ab
namespace Hd
open PySem PySem.W
abbrev AlM : Type := He.AlD × List (Option (List (Option (Str × Int))))
def obsM (as : List Addr) (fb : List Fb) (fn : List He5.DefA) (ts : List He.Tab) (g : Addr → Option Obj) : AlM := (obsB fb fn (He.frG g as), ts.map fun t : He.Tab => He.dicW (He.frG g as) (t.1 (He.frG g as)))
def SaysM (fb : List Fb) (fn : List He5.DefA) (ts : List He.Tab) (w : World) (K : Frag) : Prop := SaysB fb fn K ∧ (ts.map fun t : He.Tab => He.dicW K (t.1 K)) = ts.map fun t : He.Tab => some (He.keysIn w.params t.2)
def valM (fn : List He5.DefA) (ts : List He.Tab) (w : World) : AlM := (He5.valA fn, ts.map fun t : He.Tab => some (He.keysIn w.params t.2))
def hookM (as : List Addr) (fb : List Fb) (fn : List He5.DefA) (ts : List He.Tab) : PySem.W.Hook where
  α := AlM
  obs := fun s => obsM as fb fn ts s.heap.get?
  val := fun w => valM fn ts w
  says := fun w h => ∃ K : Frag, K.In h ∧ SaysM fb fn ts w K
  of := fun w s e => ⟨He.frG s.heap.get? as, He.frG_in, (congrArg Prod.fst e : _), (congrArg Prod.snd e : _)⟩
  keeps := fun _ _ _ ⟨K, hK, c⟩ k => ⟨K, Frag.In.keeps hK k, c⟩
def tabB (c : Str) (kv : List (Str × Int)) : Fb := fun K => kv.all fun p => match nsIn K (He.ga K c) p.1 with
  | some (some (.int i _)) => decide (i = p.2)
  | _ => false
end Hd
open PySem PySem.Spec L2 PyProof.Rows PySem.Calls
/-- the module's table c has these keys and numbers (some of them) -/
structure Kd (K : PySem.W.Frag) (w : World) (c : Str) (kv : List (Str × Int)) : Prop where
  d : ∃ es n, KDict K w (He.ga K c) es n
  v : ∀ p ∈ kv, ∃ t, PySem.W.nsIn K (He.ga K c) p.1 = some (some (.int p.2 t))
section
variable {K : PySem.W.Frag} {E : XK} {X : Cx} {c : Str} {kv : List (Str × Int)}
def getS (kv : List (Str × Int)) (z : Str) : Option Int := (kv.find? fun p => decide (p.1 = z)).map (·.2)
def inGD (neg : Bool) (c : Str) (kv : List (Str × Int)) : D → D → AH → R D
  | .str z, .glo g, h => if g = c ∧ (getS kv z).isSome = true then .ok (.bl (!neg)) h else .bad
  | _, _, _ => .bad
def ixGD (c : Str) (kv : List (Str × Int)) : D → D → AH → R D
  | .glo g, .str z, h => if g = c then (match getS kv z with
    | some i => .ok (.int i) h
    | none => .bad) else .bad
  | _, _, _ => .bad
abbrev rIxG (K : PySem.W.Frag) (c : Str) : R2 := fun x y H Q => ∃ (z : Str) (u0 : Value) (v0 : V), x = .ref (He.ga K c) ∧ y = .str z ∧ PySem.W.nsIn K (He.ga K c) z = some (some u0) ∧ RelV v0 u0 ∧ Q v0 H
/-! a try whose body raises nothing -/
def mTry (m : MS) : MS := fun env h => match m env h with
  | .exc _ _ _ => .bad
  | r => r
end
end Ab

/-! len(set(t)) of a tuple of whole numbers. -/
namespace Ab
open PySem PySem.Spec L2 PyProof.Rows PySem.Calls
section
variable {K : PySem.W.Frag} {E : XK} {X : Cx}
/-- each once -/
def onceI (ns : List Int) : List Int := ns.foldl (fun a x => if x ∈ a then a else a ++ [x]) []
def tLenSetT (K : PySem.W.Frag) (ta : TE) : TE := fun σ H Q => ta σ H fun x H1 => ∃ (l : Addr) (ns : List Int), (x = .ref l ∧ ns.length ≤ 1000) ∧ SqT K H1 l (ns.map V.int) ∧ Q (.int ((onceI ns).length : Nat)) H1
def kLenSet (d : D) (h : AH) : R D := match d with
  | .tup ds => (match intsD ds with
    | some ns => if ns.length ≤ 1000 then .ok (.int ((onceI ns).length : Nat)) h else .bad
    | none => .bad)
  | _ => .bad
def mLenSet (m : M D) : M D := fun env h => (m env h).bind kLenSet
end
end Ab

/-! `x is True` of truths. -/
namespace Ab
open PySem PySem.Spec L2 PyProof.Rows PySem.Calls
section
variable {K : PySem.W.Frag} {E : XK} {X : Cx}
def isBD (neg : Bool) : D → D → AH → R D
  | .bl a, .bl b, h => .ok (.bl (if neg then !decide (a = b) else decide (a = b))) h
  | _, _, _ => .bad
end
end Ab

/-! `[x for x in d if x != y]` over a dict that may change later. -/
namespace Ab
open PySem PySem.Spec L2 PyProof.Rows PySem.Calls
section
variable {K : PySem.W.Frag} {E : XK} {X : Cx}
def keyPy : Key → PyData
  | .inl i => .int i
  | .inr x => .str x
def keyDy (k : List Key) : PyData := .tuple (k.map keyPy)
abbrev keepK (q : PyData) (kv : List Key × D) : Bool := !PyData.eqv (keyDy kv.1) q
def mKeysNe (i j k : Nat) : M (List D) := fun env h => match env[i]?, env[k]? with
  | some (some (.loc n)), some (some dk) => (match h[n]?, toPy0 dk with
    | some (.dct kvs), some q => if (kvs.length ≤ sizeLine ∧ j < env.length ∧ j ≠ k) ∧ SeqAt.shaped q = true ∧ (kvs.all fun kv => SeqAt.shaped (keyDy kv.1)) = true then .ok (((kvs.filter (keepK q)).map (·.1)).map keyTD) h else .bad
    | _, _ => .bad)
  | _, _ => .bad
abbrev tKyNe (K : PySem.W.Frag) (i j k : Nat) : TE := tLc (iU K (tVar i)) (gName j) (tTest (tOp (rNeU K) (tVar j) (tVar k))) (tVar j) [j]
end
end Ab

/-! Methods of objects that never change; f-strings of a text and a number. -/
namespace Ab
open PySem PySem.Spec L2 PyProof.Rows
section
variable {K : PySem.W.Frag} {E : XK} {ρ ρ' ρ1 : Ro} {P H P' H' P1 H1 : Hp} {X : Cx} {o e : Expr} {es : List Expr} {ta : TE} {t tk : TA} {mo ma : M D} {md mk : M (List D)} {pos apos : Pos} {k : Nat} {c m : Str} {ps : List Str} {F : Fn} {st : Stmt} {kws : List Keyword}
structure MtH (P : Program) (w : World) (K : PySem.W.Frag) (mg : Str → Option Value) (base : Heap) (k : Nat) (c m : Str) (ps : List Str) (F : Fn) (st : Stmt) : Prop where
  ex : ∃ g fd, Cls K (He.ga K c) ∧ Meth K (He.ga K c) m g ∧ FnG P w K mg base (L2.CX P w) k g fd ps (spD K ps.length F) ∧ Binds K fd ps [] ∧ ∃ q q', FunD K q q' (defArgs st) (defBody st) (defScope st) [] [] g fd
def tMethO (C : Addr) (m : Str) (sp : Sp) (E : XK) (ta : TE) (t : TA) : TE := fun σ H Q => ta σ H fun x H1 => ∃ a dx fs, x = .ref a ∧ H1 a = some (.ins C dx fs) ∧ fs.lookup m = none ∧ t σ H1 fun vs H2 => sp (.ref a :: vs) H2 Q E
/-- o.m(k = v, ..) -/
def tMethOK (C : Addr) (m : Str) (sp : Sp) (g : List V → List V → List V) (E : XK) (ta : TE) (tk : TA) : TE := fun σ H Q => ta σ H fun x H1 => ∃ a dx fs, x = .ref a ∧ H1 a = some (.ins C dx fs) ∧ fs.lookup m = none ∧ tk σ H1 fun ws H2 => sp (g [.ref a] ws) H2 Q E
/-! over the abstract layer -/
def methOk (c m : Str) (o : D) : Bool := match o with
  | .obj c' ns _ => decide (c' = c) && !decide (m ∈ ns)
  | _ => false
def mMethO (c m : Str) (n : Nat) (F : Fn) (mo : M D) (md : M (List D)) : M D := fun env h => (mo env h).bind fun o h1 => match methOk c m o with
  | true => (md env h1).bind fun ds h2 => callP n F (o :: ds) h2
  | false => .bad
def mMethOK (c m : Str) (n : Nat) (F : Fn) (g : List D → List D → List D) (mo : M D) (md : M (List D)) : M D := fun env h => (mo env h).bind fun o h1 => match methOk c m o with
  | true => (md env h1).bind fun ds h2 => callP n F (g [o] ds) h2
  | false => .bad
/-! f"text{number}" -/
def fmtD (pre : Str) (d : D) (h : AH) : R D := match d with
  | .int i => if i.natAbs.log2 < 1920 ∧ (Str.empty ++ pre).length ≤ sizeLine ∧ ((Str.empty ++ pre) ++ (toString i : Str)).length ≤ sizeLine then .ok (.str ((Str.empty ++ pre) ++ (toString i : Str))) h else .bad
  | _ => .bad
def mFmt (pre : Str) (m : M D) : M D := fun env h => if (Str.empty ++ pre).length ≤ sizeLine then (m env h).bind (fmtD pre) else .bad
end
end Ab

/-! C(a, ..) with a plain __init__; the instance does not change any more. -/
namespace Ab
open PySem PySem.Spec L2 PyProof.Rows
def instOf (hh : AH) : Option (Str × List (Str × D)) := match hh with
  | [.ins c fs] => some (c, fs)
  | _ => none
def makeQ (c : Str) (F : Fn) (ds : List D) (h : AH) : R D := if belowL 0 ds = true then (match F (.loc 0 :: ds) [.ins c []] with
  | .ok .non hh => (match instOf hh with
    | some cf => if cf.1 = c ∧ belowL 0 (cf.2.map (·.2)) = true then .ok (.obj c (cf.2.map (·.1)) (cf.2.map (·.2))) h else .bad
    | none => .bad)
  | _ => .bad) else .bad
section
variable {K : PySem.W.Frag} {E : XK} {ρ ρ' ρ1 : Ro} {P H P' H' P1 H1 : Hp}
end
structure MkP (P : Program) (w : World) (K : PySem.W.Frag) (mg : Str → Option Value) (base : Heap) (k : Nat) (c : Str) (n : Nat) (F : Fn) : Prop where
  ex : ∃ g, Mk K (He.ga K c) g ∧ FnQ P w K mg base (L2.CX P w) k g (spD K n F) ∧ mg c = some (.ref (He.ga K c))
section
variable {X : Cx} {K : PySem.W.Frag} {E : XK} {k n : Nat} {c : Str} {F : Fn} {e : Expr} {es : List Expr} {t : TA} {m : M (List D)} {p pos : Pos}
def mMakeQ (c : Str) (n : Nat) (F : Fn) (m : M (List D)) : M D := fun env h => (m env h).bind fun ds h1 => if ds.length + 1 = n then makeQ c F ds h1 else .bad
end
end Ab

/-! Instances that change: made, their methods, their properties. -/
namespace Ab
open PySem PySem.Spec L2 PyProof.Rows
/-- C(a, ..): the instance gets a number -/
def makeL (c : Str) (F : Fn) (ds : List D) (h : AH) : R D := match F (.loc h.length :: ds) (h ++ [.ins c []]) with
  | .ok .non h' => .ok (.loc h.length) h'
  | .exc x fs h' => .exc x fs h'
  | _ => .bad
section
variable {K : PySem.W.Frag} {E : XK} {ρ ρ' ρ1 : Ro} {P H P' H' P1 H1 : Hp}
def mMakeL (c : Str) (n : Nat) (F : Fn) (m : M (List D)) : M D := fun env h => (m env h).bind fun ds h1 => if ds.length + 1 = n then makeL c F ds h1 else .bad
variable {X : Cx} {k n : Nat} {c m : Str} {F : Fn} {e o : Expr} {es : List Expr} {t tk : TA} {ta : TE} {mo ma : M D} {md mk : M (List D)} {p pos apos : Pos} {ps : List Str} {st : Stmt} {kws : List Keyword}
/-! methods -/
/-- an instance of c at a number, without m of its own -/
def instL (c m : Str) (o : D) (h : AH) : Bool := match o with
  | .loc q => (match h[q]? with
    | some (.ins c' fs) => decide (c' = c) && !decide (m ∈ fs.map (·.1))
    | _ => false)
  | _ => false
def mMethL (c m : Str) (n : Nat) (F : Fn) (mo : M D) (md : M (List D)) : M D := fun env h => (mo env h).bind fun o h1 => match instL c m o h1 with
  | true => (md env h1).bind fun ds h2 => if (o :: ds).length = n then F (o :: ds) h2 else .bad
  | false => .bad
def mMethLK (c m : Str) (n : Nat) (F : Fn) (g : List D → List D → List D) (mo : M D) (md : M (List D)) : M D := fun env h => (mo env h).bind fun o h1 => match instL c m o h1 with
  | true => (md env h1).bind fun ds h2 => if (g [o] ds).length = n then F (g [o] ds) h2 else .bad
  | false => .bad
/-! properties -/
def propL (c : Str) (F : Fn) (o : D) (h : AH) : R D := match o with
  | .loc q => (match h[q]? with
    | some (.ins c' _) => if c' = c then noExc (F [.loc q] h) else .bad
    | _ => .bad)
  | _ => .bad
def mPropL (c : Str) (F : Fn) (ma : M D) : M D := fun env h => (ma env h).bind (propL c F)
end
end Ab

/-! An own exception's __init__: super().__init__(); self.f = f. -/
namespace Ab
namespace Ex
open PySem PySem.Spec PySem.Calls PyProof.Rows PySem.W
/-- what the written part says of the class C over ValueError and of its __init__ -/
structure Ini (K : PySem.W.Frag) (prog : Program) (C fI : Addr) (f : Str) : Prop where
  cls : ∃ nm q N bs bm sn sub ab col dd k0 k1 k2 k3 k5, K.lookup C = some (excClassObj nm q C N bs bm true sn sub ab col dd k0 k1 k2 k3 k5 "ValueError.__new__") ∧ PySem.HandSPX.refsVE bm = true
  fn : ∃ oc od qual params scope dV kV doc pm an cda ct cc osl p0 p1 p2 p3 p4 p5 p6 p7 p8, K.lookup fI = some ⟨oc, od, .func (ksFn "__init__" qual params [.Expr (.Call (.Attribute (.Call (.Name "super" p0) [] [] p1) "__init__" p2) [] [] p3) p4, .Assign [.Attribute (.Name "self" p5) f p6] (.Name f p7) p8] scope dV kV doc pm an (.ref cda) ct cc), osl⟩ ∧
    codeIn K (.ref cda) qual = true ∧ (∃ ccl cdd vs ccs file tf, K.lookup cda = some ⟨ccl, cdd, .fields vs, ccs⟩ ∧ vs[2]? = some (.str file tf) ∧ ((prog.main.file : Str) == file) = true) ∧ (∃ cl cld csl, K.lookup cc = some ⟨cl, cld, .cell (some (.ref C)), csl⟩) ∧
    (∃ ar, (params.posonlyargs ++ params.args).head? = some ar ∧ ar.arg = ("self" : Str)) ∧ (∀ a b : Value, bindArgs (ksFn "__init__" qual params [.Expr (.Call (.Attribute (.Call (.Name "super" p0) [] [] p1) "__init__" p2) [] [] p3) p4, .Assign [.Attribute (.Name "self" p5) f p6] (.Name f p7) p8] scope dV kV doc pm an (.ref cda) ct cc) ⟨[a, b], []⟩ = pure [(("self" : Str), a), (f, b)]) ∧
    scope.names.lookup ("super" : Str) = some .globalImplicit ∧ scope.names.lookup ("__class__" : Str) = some .free ∧ scope.names.lookup ("self" : Str) = some .local ∧ scope.names.lookup f = some .local ∧ scope.kind = .function ∧ (∀ x ∈ scope.names, x.2 ≠ .cell) ∧ scope.isCoroutine = false ∧ scope.isGenerator = false ∧
    (∀ L : Addr, swapsWith (.Name f p7) (some (.Attribute (.Name "self" p5) f p6)) p8.line (ksEnv qual scope L fI (.ref cda) cc) = pure false) ∧
    (∀ L : Addr, swapsWith (.Call (.Attribute (.Call (.Name "super" p0) [] [] p1) "__init__" p2) [] [] p3) none p4.line (ksEnv qual scope L fI (.ref cda) cc) = pure false) ∧
    ∀ L : Addr, ∃ pl : Sem Bool, eval (.Call (.Attribute (.Call (.Name "super" p0) [] [] p1) "__init__" p2) [] [] p3) (ksEnv qual scope L fI (.ref cda) cc) = (do
      let ov ← attributeBase (.Call (.Name "super" p0) [] [] p1) "__init__" (ksEnv qual scope L fI (.ref cda) cc) (eval (.Call (.Name "super" p0) [] [] p1) (ksEnv qual scope L fI (.ref cda) cc))
      standAt p2.atName
      let (f, first) ← holding [ov] (getMethod ov "__init__" pl)
      callWith p3 f first (backTo p3 (starEach [] (ksEnv qual scope L fI (.ref cda) cc))) [])
  sup : ks_superIn K C C "__init__" = some (some (.builtin "ValueError.__init__"))
  subB : subIn K (.ref C) (.type "ValueError") = some true
  subC : mroIn K C (.ref C) = some true
  opq : nsIn K cStatics "thirdparty.any" = some none
  sa : findIn K (.ref C) "__setattr__" = some (some (.builtin "object.__setattr__"))
  no : findIn K (.ref C) f = some none
  top : (prog.main.scope.names.lookup ("super" : Str)).isSome = false
  fs : f ≠ "self"
  fdb : (f == ("__debug__" : Str)) = false
section
variable {prog : Program} {w : World} {K : PySem.W.Frag} {C fI e t0 : Addr} {f : Str} {A : Around} {R : Result → Shared → Prop} {hp : Heap} {g : Array GenState} {d : Drawn} {t : Nat} {os : OsState} {mg mb : Str → Option Value} {v : Value}
/-- its promise -/
def spInit (C : Addr) (f : Str) : L2.Sp := fun vs H Q _ => ∃ a y, vs = [.ref a, y] ∧ H a = some (L2.exo a C none) ∧ ∀ dx, H dx = none → dx ≠ a → Q .non (L2.upd (L2.upd H dx (L2.exd dx [(f, y)])) a (L2.exo a C (some dx)))
open L2 in
end
end Ex
end Ab

/-! raise C(e), C an own exception class. -/
namespace Ab
open PySem PySem.Spec PySem.Calls PyProof.Rows PySem.W
open L2 (exo exd OexC tMkO)
/-- what the written part says of the own exception class c over ValueError, whose __init__(self, f) keeps f -/
def ExK (P : Program) (K : PySem.W.Frag) (mg : Str → Option Value) (c f : Str) : Prop :=
  ∃ fI, Ex.Ini K P (He.ga K c) fI f ∧ PySem.W.findIn K (.ref (He.ga K c)) "__init__" = some (some (.ref fI)) ∧ PySem.W.typeIn K (.ref fI) = some (.type "function") ∧ OexC K (He.ga K c) ∧ mg c = some (.ref (He.ga K c)) ∧ mg "super" = none
def mRaise (c f : Str) (m : M D) : MS := fun env h => (m env h).then fun d h1 => .exc c [(f, d)] h1
section
variable {X : L2.Cx} {K : PySem.W.Frag} {E : L2.XK} {k : Nat} {c f : Str} {e : Expr} {te : L2.TE} {me : M D} {p pos pos' : Pos}
theorem raise_heap {H : L2.Hp} {a dx C : Addr} {f : Str} {v : L2.V} (ha : H a = none) (hx : H dx = none) (n : dx ≠ a) :
    L2.upd (L2.del (L2.upd (L2.upd (L2.upd H a (exo a C none)) dx (exd dx [(f, v)])) a (exo a C (some dx))) a) dx (.xd [(f, v)]) = L2.upd H dx (.xd [(f, v)]) := by
  funext b
  by_cases z : b = dx
  · subst z; rw [L2.upd_same, L2.upd_same]
  · rw [L2.upd_ne z, L2.upd_ne z]
    by_cases y : b = a
    · subst y; rw [L2.del_same, ha]
    · rw [L2.del_ne y, L2.upd_ne y, L2.upd_ne z, L2.upd_ne y]
end
end Ab

/-! try: body / except (A, B, C) as e: suite; the exception is data in the suite. -/
namespace Ab
open PySem PySem.Spec PySem.Calls PyProof.Rows PySem.W
open L2 (Inv Cx Hp XK WX TS TE Ends Takes PSs PS SP Zc Names Sky upd upd_same upd_ne ObjOk HOk)
namespace Ex
section
variable {X : Cx} {pins : List (Addr × Obj)} {σ : L2.St} {H : Hp} {s : Shared}
theorem xvO_ok {P : Program} {w : World} {H : Hp} {h : Heap} {a C : Addr} {d : Option Addr} {oe : Obj} {vs : Array Value} (e : h.get? a = some oe) (z : Zc (.ref C) d oe) (hd : oe.data = .fields vs) : ObjOk P w H h a (XvO a C d) :=
  ⟨⟨oe, vs, e, z, hd⟩, ⟨oe, e⟩, fun _ _ ⟨o, v, q, r⟩ k => ⟨o, v, k o q, r⟩⟩
theorem xvO_at {P : Program} {w : World} {H : Hp} {h : Heap} {a C : Addr} {d : Option Addr} (hok : HOk P w H h) (e : H a = some (XvO a C d)) : ∃ (oe : Obj) (vs : Array Value), h.get? a = some oe ∧ Zc (.ref C) d oe ∧ oe.data = .fields vs := by
  have x : ObjOk P w H h a (.ext fun h => ∃ (oe : Obj) (vs : Array Value), h.get? a = some oe ∧ Zc (.ref C) d oe ∧ oe.data = .fields vs) := hok a _ e
  exact x.1
end
/-- what 'except (A, B, C) as n' wishes of an exception of the body: slot i is n's -/
def wAs3 (K : PySem.W.Frag) (cs : List Value) (N i : Nat) (ts : TS) (Wout : WX) (D : Ends) : WX := fun cls d σ H => σ.length = N →
  ∃ b, PySem.W.exmAny K cls cs = some b ∧ (b = true → ∃ C, cls = .ref C ∧ ∀ a, H a = none → ts { nx := fun σ' H' => D.nx (σ'.set i none) H', rt := D.rt, bk := fun σ' H' => D.bk (σ'.set i none) H', ct := fun σ' H' => D.ct (σ'.set i none) H' } (σ.set i (some (.ref a))) (upd H a (XvO a C d))) ∧
    (b = false → Wout cls d σ H)
section
variable {X : Cx} {n x1 x2 x3 : Str} {c1 c2 c3 : Value} {i : Nat} {body suite : List Stmt} {b₀ : Stmt} {p1 p2 p3 tp pos pos' : Pos} {kk : Nat} {tb : WX → TS} {ts : TS} {Wout : WX}
end
end Ex
/-! the text, its reading, its computation -/
/-- the classes and what is above them -/
abbrev XTb := List (Str × List Str)
/-- what a suite's end lets stand -/
def clrS (i : Nat) : SS → SS
  | .nx env h => .nx (env.set i none) h
  | .rt d h => .rt d h
  | .bk env h => .bk (env.set i none) h
  | .ct env h => .ct (env.set i none) h
  | _ => .bad
def hitS (tb : XTb) (cs : List Str) (c : Str) : Option Bool := (tb.lookup c).map fun l => cs.any fun x => l.contains x
def mTry3 (N i : Nat) (tb : XTb) (cs : List Str) (mb ms : MS) : MS := fun env h => match mb env h with
  | .exc c fs h' => (match hitS tb cs c with
    | some true => clrS i (ms ((List.replicate N none).set i (some (.exv c (fs.map (·.1)) (fs.map (·.2))))) h')
    | some false => .exc c fs h'
    | none => .bad)
  | r => r
/-- K says of the classes what the list says -/
def XSub (K : PySem.W.Frag) (tb : XTb) (cs : List Str) : Prop := ∀ c b, hitS tb cs c = some b → PySem.W.exmAny K (.ref (He.ga K c)) (cs.map fun x => Value.ref (He.ga K x)) = some b
section
variable {K : PySem.W.Frag} {E : XK} {ρ ρ' ρ1 : Ro} {P H P' H' P1 H1 : Hp}
/-- what was caught is data -/
theorem exv_rep {fs : List (Str × D)} {dd : Option Addr} {c : Str} {a : Addr} {h : AH} (s : SR K ρ P H h) (rx : RX K ρ P fs dd) (na : H a = none) :
    SR K ρ (upd P a (XvO a (He.ga K c) dd)) (upd H a (XvO a (He.ga K c) dd)) h ∧ Step ρ P H ρ (upd P a (XvO a (He.ga K c) dd)) (upd H a (XvO a (He.ga K c) dd)) ∧ Rep K ρ (upd P a (XvO a (He.ga K c) dd)) (.exv c (fs.map (·.1)) (fs.map (·.2))) (.ref a) := by
  obtain ⟨s2, t2⟩ := s.pure na (XvO a (He.ga K c) dd)
  refine ⟨s2, t2, ?_⟩
  rcases rx with ⟨rfl, rfl⟩ | ⟨da, fvs, rfl, e2, e3, r⟩
  · exact .exv (fvs := []) (vs := []) upd_same (.inl ⟨rfl, rfl⟩) rfl rfl .nil
  · have hl := congrArg List.length e3
    simp only [List.length_map] at hl
    exact .exv (fvs := fvs) (vs := fvs.map (·.2)) upd_same (.inr ⟨da, rfl, t2.pure _ _ e2⟩) (by rw [← e3]; exact zip_parts) (by simp only [List.length_map]; exact hl.symm) (r.step t2)
end
section
variable {X : Cx} {K : PySem.W.Frag} {E : XK} {x1 x2 x3 n : Str} {i N : Nat} {body suite : List Stmt} {b₀ : Stmt} {p1 p2 p3 tp pos pos' : Pos} {kk : Nat} {tb : XK → TS} {ts : TS} {mb ms : MS} {T : XTb}
end
end Ab

/-! Defs that are called while an exception is handled; the exception's class and fields. -/
namespace Ab
open PySem PySem.Spec PySem.Calls PyProof.Rows PySem.W
open L2 (Inv Cx Hp XK VK WX TS TE TA Ends PSs PE PA Zc upd upd_same upd_ne ObjOk HOk CR CXT FnScope FunD Env0 Vals Binds RelV E0)
open L2H (RoomH)
theorem RoomH.units {k : Nat} {A : Around} (r : RoomH k A) : A.units + 64 < cLine := by have := r.un; omega
/-- a def's promise, also where an exception is handled: it lets nothing out -/
structure FnV (P : Program) (w : World) (K : PySem.W.Frag) (mg : Str → Option Value) (base : Heap) (k : Nat) (f : Addr) (fd : FuncData) (ps : List Str) (sp : L2.Sp) : Prop where
  len : ∀ vs H Q E, sp vs H Q E → vs.length = ps.length
  go : ∀ (A : Around) (outer : List PySem.Env) (s : Shared) (H : Hp) (args : Args) (us : List Value) (vs : List L2.V) (Q : VK) (E : XK),
    RoomH k A ∧ A.guards = some [] → Env0 P w K mg base A outer s H → BindsTo s fd args (ps.zip us) → Vals vs us → sp vs H Q E →
    codeAny (model P w) A (.call (.ref f) args) (CR L2.CX0 outer P w H s Q E) s
def cxV (P : Program) (w : World) (K : PySem.W.Frag) (mg : Str → Option Value) (base : Heap) (N : List Str) (qual : Str) (scope : Scope) (f : Addr) (cd : Value) (A : Around) (outer : List PySem.Env) (s : Shared) (H : Hp) (E : XK) : Cx :=
  { L2.cxOf L2.CX0 P w K mg base N qual scope f cd A outer s H E with calm := false }
section
variable {P : Program} {w : World} {K : PySem.W.Frag} {mg : Str → Option Value} {base : Heap} {x qual : Str} {params : Arguments} {body : List Stmt} {scope : Scope} {dvs : List L2.V} {kws : List (Str × L2.V)} {f : Addr} {fd : FuncData} {N ps : List Str} {k : Nat} {m : MS}
end
/-! calls of such defs -/
section
variable {X : Cx} {K : PySem.W.Frag} {E : XK} {k n : Nat} {f : Addr} {fd : FuncData} {ps : List Str} {sp : L2.Sp} {x : Str} {F : Fn} {st : Stmt} {e : Expr} {es : List Expr} {t : TA} {m : M (List D)} {p pn pos : Pos}
structure CalV (P : Program) (w : World) (K : PySem.W.Frag) (mg : Str → Option Value) (base : Heap) (k : Nat) (x : Str) (ps : List Str) (F : Fn) (st : Stmt) : Prop where
  ex : ∃ f fd, FnV P w K mg base k f fd ps (spD K ps.length F) ∧ mg x = some (.ref f) ∧ PySem.W.keepIn K (.ref f) = true ∧ Binds K fd ps [] ∧ ∃ q, FunD K q q (L2.defArgs st) (L2.defBody st) (L2.defScope st) [] [] f fd
/-! rules that ask for room alone -/
end
end Ab

/-! A caught exception: its fields, isinstance. -/
namespace Ab
open PySem PySem.Spec PySem.Calls PyProof.Rows PySem.W
open L2 (Inv Cx Hp XK VK WX TS TE TA Ends PSs PE PA Zc upd upd_same upd_ne ObjOk HOk Vals RelV RelO)
/-- its object, its dict -/
theorem xv_inst {P : Program} {w : World} {H : Hp} {h : Heap} {a C : Addr} {d : Option Addr} {fvs : List (Str × L2.V)} (hok : HOk P w H h) (ea : H a = some (XvO a C d)) (xd : XdP H d fvs) :
    ∃ oe od, InstAt h a oe C od ∧ ∀ f v, fvs.lookup f = some v → ∃ ob u, od = some ob ∧ lookIn f ob = some (some u) ∧ RelV v u := by
  obtain ⟨oe, vs, ho, hz, hd⟩ := Ex.xvO_at hok ea
  rcases xd with ⟨rfl, rfl⟩ | ⟨dx, rfl, ed⟩
  · exact ⟨oe, none, ⟨ho, hz.1, by unfold PySem.W.notCls; rw [hd] <;> rfl, by rw [hz.2]; exact True.intro⟩, fun f v e => by cases e⟩
  · have hx : ObjOk P w H h dx (.xd fvs) := hok dx _ ed
    obtain ⟨mA, hns, hr⟩ := hx
    obtain ⟨od, hod, hl⟩ := L2.lookIn_ns hns
    refine ⟨oe, some od, ⟨ho, hz.1, by unfold PySem.W.notCls; rw [hd] <;> rfl, by rw [hz.2]; exact hod⟩, fun f v e => ?_⟩
    obtain ⟨u, hu, ru⟩ := L2.RelO.some_of (v := v) (o := mA f) (by rw [← e]; exact hr f)
    exact ⟨od, u, rfl, by rw [hl, hu], ru⟩
/-- a caught exception as it stands -/
theorem exv_at {K : PySem.W.Frag} {ρ : Ro} {P H : Hp} {h : AH} {c : Str} {ns : List Str} {ds : List D} {v : L2.V} (s : SR K ρ P H h) (w : Rep K ρ P (.exv c ns ds) v) :
    ∃ a d fvs vs, v = .ref a ∧ H a = some (XvO a (He.ga K c) d) ∧ XdP H d fvs ∧ fvs = ns.zip vs ∧ ns.length = vs.length ∧ RepL K ρ P ds vs := by
  cases w with
  | exv p d e l r => exact ⟨_, _, _, _, rfl, s.sub _ _ p rfl, d.imp (fun z => z) fun ⟨dx, e, q⟩ => ⟨dx, e, s.sub _ _ q rfl⟩, e, l, r⟩
/-! e.f -/
def xatD (cl : List Str) (f : Str) : D → AH → R D := fun d h => match d with
  | .exv c ns ds => if cl.contains c = true then (match (ns.zip ds).lookup f with
    | some v => .ok v h
    | none => .bad) else .bad
  | _ => .bad
/-- the classes whose instances have no such field of the class -/
def XAt (K : PySem.W.Frag) (cl : List Str) (f : Str) : Prop := ∀ c, cl.contains c = true → L2.XfC K (He.ga K c) ∧ PySem.W.findIn K (.ref (He.ga K c)) f = some none
def tXat (K : PySem.W.Frag) (f : Str) (te : TE) : TE := fun σ H Q => te σ H fun x H1 => ∃ a C d fvs v, x = .ref a ∧ H1 a = some (XvO a C d) ∧ XdP H1 d fvs ∧ fvs.lookup f = some v ∧ L2.XfC K C ∧ PySem.W.findIn K (.ref C) f = some none ∧ Q v H1
theorem zip_rep {K : PySem.W.Frag} {ρ : Ro} {P : Hp} {f : Str} {v : D} : ∀ {ns : List Str} {ds : List D} {vs : List L2.V}, RepL K ρ P ds vs → ns.length = vs.length → (ns.zip ds).lookup f = some v → ∃ u, (ns.zip vs).lookup f = some u ∧ Rep K ρ P v u
  | [], _, _, _, _, e => by simp at e
  | n :: ns, _, _, .cons (d := d) (v := u) a b, l, e => by
    simp only [List.zip_cons_cons, List.lookup] at e ⊢
    cases q : f == n with
    | true => rw [q] at e; cases e; exact ⟨u, rfl, a⟩
    | false => rw [q] at e; exact zip_rep b (by simpa using l) e
section
variable {X : Cx} {K : PySem.W.Frag} {E : XK} {e : Expr} {te : TE} {me : M D} {f : Str} {cl : List Str} {pos : Pos}
theorem je_xat (hA : XAt K cl f) (ha : JE K E X e te me) (hb : attributeBase e f X.env (eval e X.env) = eval e X.env := by rfl) : JE K E X (.Attribute e f pos) (tXat K f te) (mUn (xatD cl f) me) := by
  obtain ⟨hK, hp, hq⟩ := ha
  subst hK
  refine ⟨rfl, ⟨fun pins s σ H Q I h => ?_⟩, fun ρ P σ H env h s re Q p => ?_⟩
  · refine L2.attr_of hb (L2.thn (hp.run pins s σ H _ I h) fun u s1 hh => ?_)
    obtain ⟨x, H1, I1, rx, a, C, d, fvs, v, ex, ea, xd, l, T, hno, q⟩ := hh
    subst ex
    obtain rfl : u = Value.ref a := rx
    obtain ⟨oe, od, J, lk⟩ := xv_inst I1.hok ea xd
    obtain ⟨ob, u, rfl, hu, ru⟩ := lk f v l
    exact HandSPX.exc_get I1.kIn J T.ga T.gg T.exC (PySem.W.findObj_own T.hdC hno rfl hu) (L2.handed_of ru) ⟨v, H1, I1.tok _, ru, q⟩
  · refine hq ρ P σ H env h s re _ (Post.bind p fun d h1 ρ1 P1 H1 v t1 s1 w1 p1 => ?_)
    cases d with
    | exv c ns ds =>
      obtain ⟨a, d, fvs, vs, rfl, ea, xd, rfl, l, r⟩ := exv_at s1 w1
      have p1 : Post X.K (RV X.K) E ρ1 P1 H1 Q (if cl.contains c = true then (match (ns.zip ds).lookup f with
        | some v => .ok v h1
        | none => .bad) else .bad) := p1
      by_cases hc : cl.contains c = true
      · rw [if_pos hc] at p1
        cases q : (ns.zip ds).lookup f with
        | none => rw [q] at p1; exact p1.elim
        | some dv =>
          rw [q] at p1
          obtain ⟨u, hu, ru⟩ := zip_rep r l q
          exact ⟨a, _, d, _, u, rfl, ea, xd, hu, (hA c hc).1, (hA c hc).2, p1 ρ1 P1 H1 u (Step.refl ..) s1 ru⟩
      · rw [if_neg hc] at p1; exact p1.elim
    | _ => exact p1.elim
/-! isinstance(e, C) -/
def isXD (T : XTb) (ts : List Str) (ns : List String) : List D → AH → R D
  | [.exv c _ _, .glo t], h => if ts.contains t = true then (match T.lookup c with
    | some l => .ok (.bl (l.contains t)) h
    | none => .bad) else .bad
  | [.exv c _ _, .ty n], h => if ns.contains n = true then (match T.lookup c with
    | some l => .ok (.bl (l.contains (Str.ofString n))) h
    | none => .bad) else .bad
  | _, _ => .bad
def XIs (K : PySem.W.Frag) (T : XTb) (ts : List Str) (ns : List String) : Prop := ∀ c l, T.lookup c = some l → L2.ExcC K (He.ga K c) ∧ (∀ t, ts.contains t = true → PySem.W.kitOne K (.ref (He.ga K c)) (.ref (He.ga K t)) = some (l.contains t)) ∧
  ∀ n, ns.contains n = true → PySem.W.kitOne K (.ref (He.ga K c)) (.type n) = some (l.contains (Str.ofString n))
def rIsX (K : PySem.W.Frag) : List L2.V → Hp → VK → Prop := fun xs H Q => ∃ (a C : Addr) (d : Option Addr) (fvs : List (Str × L2.V)) (c : L2.V) (cv : Value) (b : Bool), xs = [.ref a, c] ∧ H a = some (XvO a C d) ∧ XdP H d fvs ∧ L2.ExcC K C ∧ (∀ u, RelV c u → u = cv) ∧ PySem.W.kitOne K (.ref C) cv = some b ∧ Q (.bl b) H
theorem call_isX : L2.CallR X (.builtin "isinstance") (rIsX X.K) := by
  intro pins s σ H xs us Q I r h
  obtain ⟨a, C, d, fvs, c, cv, b, rfl, ea, xd, T, hcv, e, q⟩ := h
  cases r with
  | cons rx rr =>
    cases rr with
    | cons rt rr =>
      cases rr
      cases rx
      have ec := hcv _ rt
      subst ec
      obtain ⟨oe, od, J, _⟩ := xv_inst I.hok ea xd
      have hcl : (PySem.W.clsIn X.K C).isSome = true := by
        obtain ⟨cd, hc, _⟩ := PySem.W.any_some T.hd
        rw [hc]
        rfl
      exact PySem.W.kia_one (PySem.W.kitx_exc hcl T.hg T.hk T.hs T.ha T.hn T.ht T.hm) I.kIn J e (fun z => nomatch z) fun tk => ⟨.bl b, H, I.kept (t' := tk) fun _ _ z => z, rfl, q⟩
theorem cb_isX {T : XTb} {ts : List Str} {ns : List String} (hT : XIs K T ts ns) : CbS K E (rIsX K) (isXD T ts ns) := fun ρ P H h vs ds s w Q p => by
  unfold isXD at p
  split at p
  · rename_i c ms es t
    obtain ⟨v, u, rfl, r1, r2⟩ := w.two
    obtain ⟨a, d, fvs, vs, rfl, ea, xd, rfl, l, r⟩ := exv_at s r1
    cases r2
    by_cases ht : ts.contains t = true
    · rw [if_pos ht] at p
      cases q : T.lookup c with
      | none => rw [q] at p; exact p.elim
      | some l =>
        rw [q] at p
        obtain ⟨h1, h2, _⟩ := hT c l q
        exact ⟨a, _, d, _, _, .ref (He.ga K t), _, rfl, ea, xd, h1, fun u ru => ru, h2 t ht, p ρ P H _ (Step.refl ..) s (.bl _)⟩
    · rw [if_neg ht] at p; exact p.elim
  · rename_i c ms es n
    obtain ⟨v, u, rfl, r1, r2⟩ := w.two
    obtain ⟨a, d, fvs, vs, rfl, ea, xd, rfl, l, r⟩ := exv_at s r1
    cases r2
    by_cases ht : ns.contains n = true
    · rw [if_pos ht] at p
      cases q : T.lookup c with
      | none => rw [q] at p; exact p.elim
      | some l =>
        rw [q] at p
        obtain ⟨h1, _, h2⟩ := hT c l q
        exact ⟨a, _, d, _, _, .type n, _, rfl, ea, xd, h1, fun u ru => ru, h2 n ht, p ρ P H _ (Step.refl ..) s (.bl _)⟩
    · rw [if_neg ht] at p; exact p.elim
  · exact p.elim
theorem jb_isX {T : XTb} {ts : List Str} {ns : List String} (hT : XIs K T ts ns) (hK : X.K = K := by rfl) : JBf K E X (.builtin "isinstance") (rIsX K) (isXD T ts ns) := by subst hK; exact ⟨call_isX, cb_isX hT⟩
end
end Ab

/-! f(lambda: e): a def that calls what it got; the lambda's body is told as a computation. -/
namespace Ab
open PySem PySem.Spec PySem.Calls PyProof.Rows PySem.W L2
open LamX (Tabs ExtN CodeO lamCx lamEnv TabB LamS)
section
variable {K : PySem.W.Frag} {E : XK} {ρ ρ' ρ1 : Ro} {P H P' H' P1 H1 : Hp}
end
section
variable {X : Cx} {pins : List (Addr × Obj)} {σ : L2.St} {H : Hp} {s : Shared}
end
/-! a def that calls what it got, within a try -/
def toldB (N i j : Nat) (T : XTb) (cs : List Str) (ms mr : MS) (act : AH → R D) : AH → SS := fun h => match act h with
  | .ok d h1 => mr ((List.replicate N none).set i (some d)) h1
  | .exc c fs h1 => (match hitS T cs c with
    | some true => (match clrS j (ms ((List.replicate N none).set j (some (.exv c (fs.map (·.1)) (fs.map (·.2))))) h1) with
      | .nx env h2 => mr env h2
      | r => r)
    | _ => .bad)
  | .bad => .bad
def mToldF (N i j : Nat) (T : XTb) (cs : List Str) (ms mr : MS) : (AH → R D) → AH → R D := fun act h => exitR h.length (bodyR0 (toldB N i j T cs ms mr act h))
def mLamCall (F : (AH → R D) → AH → R D) (mb : M D) : M D := fun env h => F (fun h' => mb env h') h
/-- what such a def promises -/
structure ToldD (P : Program) (w : World) (K : PySem.W.Frag) (mg : Str → Option Value) (base : Heap) (k : Nat) (x a : Str) (F : (AH → R D) → AH → R D) : Prop where
  ex : ∃ (g : Addr) (N : List Str) (params : Arguments) (bg : List Stmt) (sg : Scope) (dV kV doc pm cdv ct oc : Value) (an od : Option Addr) (osl : Array (Option Value)),
    K.lookup g = some ⟨oc, od, .func (PySem.W.fnOf x x params bg sg dV kV doc pm an cdv ct), osl⟩ ∧ PySem.W.codeIn K cdv x = true ∧ FnScope N [a] sg ∧ N[0]? = some a ∧ Vis sg a ∧ mg x = some (.ref g) ∧ PySem.W.keepIn K (.ref g) = true ∧ Binds K (PySem.W.fnOf x x params bg sg dV kV doc pm an cdv ct) [a] [] ∧
    ∀ (A : Around) (outer : List PySem.Env) (s : Shared) (H : Hp) (f c' : Addr) (q : Str) (Q : VK) (tl : XK → Hp → VK → Prop) (ρ : Ro) (P' : Hp) (h : AH) (act : AH → R D), Room k (A.deeper (envOfC x sg s.heap.objs.size g cdv)) → A.guards = some [] →
      (∀ (W : WX) (pn : List (Addr × Obj)) (xe : Value → Shared → Prop) (E' : XK) (p1 p2 : Pos), Takes ((cxOf CX0 P w K mg base N x sg g cdv A outer s H E0).tr pn xe) W → (∀ cls d σ' H', E' cls d H' → W cls d σ' H') →
        PE ((cxOf CX0 P w K mg base N x sg g cdv A outer s H E0).tr pn xe) (.Call (.Name a p1) [] [] p2) (fun σZ HZ Q' => σZ[0]? = some (some (.ref f)) ∧ HZ c' = some (CodeO c' q) ∧ tl E' HZ Q')) →
      H c' = some (CodeO c' q) → SR K ρ P' H h → (∀ (E' : XK) (Q' : VK), Post K (RV K) E' ρ P' H Q' (act h) → tl E' H Q') → Post K (RV K) E0 ρ P' H Q (F act h) →
      ∃ t, PSs (cxOf CX0 P w K mg base N x sg g cdv A outer s H E0).nox bg t ∧ t { nx := fun _ H' => Q .non H', rt := Q } (L2.start N [.ref f]) H
section
variable {P : Program} {w : World} {K : PySem.W.Frag} {mg : Str → Option Value} {base : Heap} {x a bk n x1 x2 x3 : Str} {params : Arguments} {rest suite : List Stmt} {b₀ : Stmt} {scope : Scope} {g : Addr} {fd : FuncData} {N : List Str} {k i j Nn : Nat} {ms mr : MS} {T : XTb} {p1 p2 p3 pb q1 q2 q3 tp pos pos' : Pos} {kk : Nat}
end
/-! the call with a lambda -/
/-- X's code object has a table that is told -/
structure LamOk (X : Cx) : Prop where
  ex : ∃ c P, X.env.code = .ref c ∧ TabB X.base X.mg c P ∧ (P, X.env.qual ++ "<lambda>") ∈ tabsOf X.K ∧ ∀ p ∈ tabsOf X.K, p.1 = P → p.2 = X.env.qual ++ "<lambda>"
section
variable {X : Cx} {pins : List (Addr × Obj)} {σ : L2.St} {H HZ : Hp} {s s1 : Shared}
end
def tLam3 (T : List (Addr × Str)) (TT : (XK → Hp → VK → Prop) → Hp → VK → Prop) (t : XK → TE) : TE := fun σ H Q => Tabs T H ∧ ∀ H1, ExtN H H1 → (∀ b, H1 b = none → H b = none) → Tabs T H1 → TT (fun E' H' Q' => t E' σ H' Q') H1 Q
def TTold3 (K : PySem.W.Frag) (F : (AH → R D) → AH → R D) : (XK → Hp → VK → Prop) → Hp → VK → Prop := fun tl H Q =>
  ∃ ρ P h act, SR K ρ P H h ∧ (∀ (E' : XK) (Q' : VK), Post K (RV K) E' ρ P H Q' (act h) → tl E' H Q') ∧ Post K (RV K) E0 ρ P H Q (F act h)
section
variable {X : Cx} {K : PySem.W.Frag} {E : XK} {k : Nat} {x a : Str} {params : Arguments} {body : Expr} {scope : Scope} {t : XK → TE} {mb : M D} {N i j : Nat} {T : XTb} {cs : List Str} {ms mr : MS} {p lpos pos : Pos}
end
end Ab

/-! The head's facts of own exception classes and of tables of code objects. -/
namespace Ab
namespace Hd
open PySem PySem.W PySem.Calls PyProof.Rows
/-- the class object of an own exception class over ValueError -/
def xclB (K : Frag) (C : Addr) : Bool := match K.lookup C with
  | some ⟨.type "type", _, .cls cd, sl⟩ => (match cd.mro, sl.toList with
    | .ref C' :: bm, [_, _, _, _, some (.builtin n), _] => C' == C && (n == "ValueError.__new__" && (!cd.hasDel && (cd.hasDict && HandSPX.refsVE bm)))
    | _, _ => false)
  | _ => false
/-- its __init__ -/
structure ExA where
  c : Str
  f : Str
  qual : Str
  params : Arguments
  body : List Stmt
  scope : Scope
def ExA.at_ (x : ExA) (K : Frag) : Addr := He.ma K (He.ga K x.c) "__init__"
def exW (K : Frag) (a : Addr) : He.FnW := match He5.fnA K a with
  | some (n, q, ps, b, sc, gl, cl, bt) => some (n, q, ps, b, sc, gl, cl.map fun p => (p.1, 0), bt)
  | none => none
def ExA.val (x : ExA) : He.FnW := some ("__init__", x.qual, x.params, .stmts x.body, x.scope, mainGlobals, [("__class__", 0)], builtinsNs)
def xfnB (K : Frag) (C fI : Addr) (qual file : Str) : Bool := match K.lookup fI with
  | some ⟨_, _, .func fd, _⟩ => codeIn K fd.code qual && (decide (fd.defaults = .none) && ((match fd.code with
    | .ref cda => (match K.lookup cda with
      | some ⟨_, _, .fields vs, _⟩ => (match (vs[2]? : Option Value) with
        | some (.str fl _) => file == fl
        | _ => false)
      | _ => false)
    | _ => false) && (match fd.closure with
    | [(_, cc)] => (match K.lookup cc with
      | some ⟨_, _, .cell (some (.ref C')), _⟩ => C' == C
      | _ => false)
    | _ => false)))
  | _ => false
/-- what the text says of such an __init__ -/
structure IniL (qual f : Str) (params : Arguments) (body : List Stmt) (scope : Scope) : Prop where
  ex : ∃ p0 p1 p2 p3 p4 p5 p6 p7 p8, body = [.Expr (.Call (.Attribute (.Call (.Name "super" p0) [] [] p1) "__init__" p2) [] [] p3) p4, .Assign [.Attribute (.Name "self" p5) f p6] (.Name f p7) p8] ∧
    (∃ ar, (params.posonlyargs ++ params.args).head? = some ar ∧ ar.arg = ("self" : Str)) ∧ (∀ (a b kV doc pm : Value) (an : Option Addr) (cda : Addr) (ct : Value) (cc : Addr), bindArgs (ksFn "__init__" qual params body scope .none kV doc pm an (.ref cda) ct cc) ⟨[a, b], []⟩ = pure [(("self" : Str), a), (f, b)]) ∧
    scope.names.lookup ("super" : Str) = some .globalImplicit ∧ scope.names.lookup ("__class__" : Str) = some .free ∧ scope.names.lookup ("self" : Str) = some .local ∧ scope.names.lookup f = some .local ∧ scope.kind = .function ∧ (∀ x ∈ scope.names, x.2 ≠ .cell) ∧ scope.isCoroutine = false ∧ scope.isGenerator = false ∧
    (∀ L fI cda cc : Addr, swapsWith (.Name f p7) (some (.Attribute (.Name "self" p5) f p6)) p8.line (ksEnv qual scope L fI (.ref cda) cc) = pure false) ∧
    (∀ L fI cda cc : Addr, swapsWith (.Call (.Attribute (.Call (.Name "super" p0) [] [] p1) "__init__" p2) [] [] p3) none p4.line (ksEnv qual scope L fI (.ref cda) cc) = pure false) ∧
    ∀ L fI cda cc : Addr, ∃ pl : Sem Bool, eval (.Call (.Attribute (.Call (.Name "super" p0) [] [] p1) "__init__" p2) [] [] p3) (ksEnv qual scope L fI (.ref cda) cc) = (do
      let ov ← attributeBase (.Call (.Name "super" p0) [] [] p1) "__init__" (ksEnv qual scope L fI (.ref cda) cc) (eval (.Call (.Name "super" p0) [] [] p1) (ksEnv qual scope L fI (.ref cda) cc))
      standAt p2.atName
      let (f, first) ← holding [ov] (getMethod ov "__init__" pl)
      callWith p3 f first (backTo p3 (starEach [] (ksEnv qual scope L fI (.ref cda) cc))) [])
theorem xfn_ok {K : Frag} {P : Program} {C fI : Addr} {qual file f : Str} {params : Arguments} {body : List Stmt} {scope : Scope} {c : Str} (e : exW K fI = ExA.val ⟨c, f, qual, params, body, scope⟩) (h : xfnB K C fI qual file = true) (hf : P.main.file = file) (T : IniL qual f params body scope) :
    ∃ oc od params' scope' dV kV doc pm an cda ct cc osl body', K.lookup fI = some ⟨oc, od, .func (ksFn "__init__" qual params' body' scope' dV kV doc pm an (.ref cda) ct cc), osl⟩ ∧ params' = params ∧ scope' = scope ∧ body' = body ∧ dV = .none ∧ codeIn K (.ref cda) qual = true ∧
      (∃ ccl cdd vs ccs file tf, K.lookup cda = some ⟨ccl, cdd, .fields vs, ccs⟩ ∧ vs[2]? = some (.str file tf) ∧ ((P.main.file : Str) == file) = true) ∧ (∃ cl cld csl, K.lookup cc = some ⟨cl, cld, .cell (some (.ref C)), csl⟩) := by
  unfold exW He5.fnA ExA.val at e
  unfold xfnB at h
  cases q : K.lookup fI with
  | none => rw [q] at h; cases h
  | some o =>
    obtain ⟨oc, od, dt, osl⟩ := o
    rw [q] at h e
    cases dt with
    | func fd =>
      obtain ⟨n1, n2, n3, n4, n5, n6, n7, n8, n9, n10, n11, n12, n13, n14, n15⟩ := fd
      simp only [Option.some.injEq, Prod.mk.injEq] at e
      obtain ⟨e1, e2, e3, e4, e5, e6, e7, e8⟩ := e
      subst e1 e2 e3 e4 e5 e6 e8
      simp only [Bool.and_eq_true, decide_eq_true_eq] at h
      obtain ⟨h1, h2, h3, h4⟩ := h
      subst h2
      match n7, e7, h4 with
      | [(nm, cc)], e7, h4 =>
        have enm : nm = "__class__" := by simpa using e7
        subst enm
        cases n13 with
        | ref cda =>
          dsimp only at h1 h3
          refine ⟨oc, od, _, _, _, n9, n10, n11, n12, cda, n14, cc, osl, _, rfl, rfl, rfl, rfl, rfl, h1, ?_, ?_⟩
          · cases q2 : K.lookup cda with
            | none => rw [q2] at h3; cases h3
            | some o2 =>
              obtain ⟨ccl, cdd, dt2, ccs⟩ := o2
              rw [q2] at h3
              cases dt2 with
              | fields vs =>
                dsimp only at h3
                split at h3
                · rename_i fl tf ev
                  exact ⟨ccl, cdd, vs, ccs, fl, tf, rfl, ev, by rw [hf]; exact h3⟩
                · cases h3
              | _ => cases h3
          · dsimp only at h4
            split at h4
            · rename_i c1 c2 C' c3 ev
              have : C' = C := by simpa using h4
              subst this
              exact ⟨_, _, _, ev⟩
            · cases h4
        | _ => cases h3
    | _ => cases h
/-- all of such a class -/
def exB (c f qual file : Str) : Fb := fun K => xclB K (He.ga K c) && (decide (findIn K (.ref (He.ga K c)) "__init__" = some (some (.ref (He.ma K (He.ga K c) "__init__")))) && (decide (typeIn K (.ref (He.ma K (He.ga K c) "__init__")) = some (.type "function")) &&
  (xfnB K (He.ga K c) (He.ma K (He.ga K c) "__init__") qual file && (decide (ks_superIn K (He.ga K c) (He.ga K c) "__init__" = some (some (.builtin "ValueError.__init__"))) && (decide (subIn K (.ref (He.ga K c)) (.type "ValueError") = some true) && (decide (mroIn K (He.ga K c) (.ref (He.ga K c)) = some true) &&
  (decide (nsIn K cStatics "thirdparty.any" = some none) && (decide (findIn K (.ref (He.ga K c)) "__setattr__" = some (some (.builtin "object.__setattr__"))) && (decide (findIn K (.ref (He.ga K c)) f = some none) && (decide (subIn K (.ref (He.ga K c)) (.type "BaseException") = some true) &&
  (decide (typeIn K (.ref (He.ga K c)) = some (.type "type")) && keepIn K (.ref (He.ga K c)))))))))))))
/-! classes in clauses, isinstance, fields -/
def xsubB (T : XTb) (cs : List Str) : Fb := fun K => T.all fun p => decide (exmAny K (.ref (He.ga K p.1)) (cs.map fun x => Value.ref (He.ga K x)) = some (cs.any fun x => p.2.contains x))
def xatB (cl : List Str) (f : Str) : Fb := fun K => cl.all fun c => L2.xfB K (He.ga K c) && decide (findIn K (.ref (He.ga K c)) f = some none)
theorem xat_ok {K : Frag} {cl : List Str} {f : Str} (h : xatB cl f K = true) : XAt K cl f := fun c hc => by
  have z := List.all_eq_true.mp h c (List.contains_iff_mem.mp hc)
  simp only [Bool.and_eq_true, decide_eq_true_eq] at z
  exact ⟨L2.xfB_ok z.1, z.2⟩
def exccB (K : Frag) (D : Addr) : Bool := decide (findIn K (.ref D) "__getattribute__" = some (some (.builtin "BaseException.__getattribute__"))) && (decide (findIn K (.ref D) "__getattr__" = some none) && (decide (subIn K (.ref D) (.type "BaseException") = some true) && (hasDictIn K D &&
  (decide (findIn K (.ref D) "__class__" = some (some (.builtin "object.__class__"))) && (decide (specialIn K (.builtin "object.__class__") "__get__" = some (some (.builtin "getset_descriptor.__get__"))) && (decide (takesIn K (.builtin "object.__class__") = some true) && decide (mroIn K D (.type "object") = some true)))))))
theorem excc_ok {K : Frag} {D : Addr} (h : exccB K D = true) : L2.ExcC K D := by
  unfold exccB at h
  simp only [Bool.and_eq_true, decide_eq_true_eq] at h
  obtain ⟨h1, h2, h3, h4, h5, h6, h7, h8⟩ := h
  exact ⟨h1, h2, h3, h4, h5, h6, h7, h8⟩
def xisB (T : XTb) (ts : List Str) (ns : List String) : Fb := fun K => T.all fun p => exccB K (He.ga K p.1) && ((ts.all fun t => decide (kitOne K (.ref (He.ga K p.1)) (.ref (He.ga K t)) = some (p.2.contains t))) && ns.all fun n => decide (kitOne K (.ref (He.ga K p.1)) (.type n) = some (p.2.contains (Str.ofString n))))
theorem xis_ok {K : Frag} {T : XTb} {ts : List Str} {ns : List String} (h : xisB T ts ns K = true) : XIs K T ts ns := fun c l e => by
  have z := List.all_eq_true.mp h (c, l) (PySem.mem_of_lookup e)
  simp only [Bool.and_eq_true] at z
  obtain ⟨h1, h2, h3⟩ := z
  exact ⟨excc_ok h1, fun t ht => of_decide_eq_true (List.all_eq_true.mp h2 t (List.contains_iff_mem.mp ht)), fun n hn => of_decide_eq_true (List.all_eq_true.mp h3 n (List.contains_iff_mem.mp hn))⟩
/-! tables of code objects -/
/-- the empty table -/
def tabE : Option Obj → Bool
  | some ⟨.none, none, .fields vs, sl⟩ => vs.isEmpty && sl.isEmpty
  | _ => false
theorem tabE_ok {o : Option Obj} (h : tabE o = true) : o = some { cls := .none, data := .fields #[] } := by
  unfold tabE at h
  split at h
  · rename_i vs sl
    simp only [Bool.and_eq_true, Array.isEmpty_iff] at h
    obtain ⟨rfl, rfl⟩ := h
    rfl
  · cases h
def tab3B : Fb := fun K => (tabs3 K).all fun p => codeHdIn K p.1 p.2.1
def tab0B : Fb := fun K => (tabs3 K).isEmpty
theorem tab3_ok {K : Frag} {h : Heap} (X : K.In h) (e : tab3B K = true) (t : ∀ p ∈ tabs3 K, h.get? p.2.1 = some { cls := .none, data := .fields #[] }) : ∀ p ∈ tabs3 K, h.get? p.2.1 = some { cls := .none, data := .fields #[] } ∧ CodeHd h p.1 p.2.1 := fun p hp => ⟨t p hp, codeHd_of_K X (List.all_eq_true.mp e p hp)⟩
/-- a def in whose body lambdas are made -/
def lamB (x qual : Str) : Fb := fun K => match K.lookup (He.ga K x) with
  | some ⟨_, _, .func fd, _⟩ => (tabs3 K).any fun p => decide (fd.code = .ref p.1) && (decide (p.2.2 = qual ++ ".<locals>." ++ "<lambda>") && (tabs3 K).all fun r => !decide (r.2.1 = p.2.1) || decide (r.2.2 = qual ++ ".<locals>." ++ "<lambda>"))
  | _ => false
/-- .. as it is used -/
def LamFn (K : Frag) (mg : Str → Option Value) (base : Heap) (f : Addr) (qual : Str) : Prop := ∀ oc od fd osl, K.lookup f = some ⟨oc, od, .func fd, osl⟩ → ∃ c P, fd.code = .ref c ∧ LamX.TabB base mg c P ∧ (P, qual ++ ".<locals>." ++ "<lambda>") ∈ tabsOf K ∧ ∀ p ∈ tabsOf K, p.1 = P → p.2 = qual ++ ".<locals>." ++ "<lambda>"
/-! the hook -/
def valX (fn : List He5.DefA) (xn : List ExA) : He.AlD := (true, fn.map He5.DefA.val ++ xn.map ExA.val)
def obsX (fb : List Fb) (fn : List He5.DefA) (xn : List ExA) (g : Addr → Option Obj) (K : Frag) : He.AlD :=
  (((fb.all fun f => f K) && fn.all fun d => d.ok K) && (tabs3 K).all fun p => tabE (g p.2.1), (fn.map fun d => He5.fnA K (d.at_ K)) ++ xn.map fun x => exW K (x.at_ K))
def SaysX (fb : List Fb) (fn : List He5.DefA) (xn : List ExA) (K : Frag) : Prop := ((fb.all fun f => f K) && fn.all fun d => d.ok K) = true ∧ (fn.map fun d => He5.fnA K (d.at_ K)) ++ (xn.map fun x => exW K (x.at_ K)) = fn.map He5.DefA.val ++ xn.map ExA.val
def hookX (as : List Addr) (fb : List Fb) (fn : List He5.DefA) (xn : List ExA) : PySem.W.Hook where
  α := He.AlD
  obs := fun s => obsX fb fn xn s.heap.get? (He.frG s.heap.get? as)
  val := fun _ => valX fn xn
  says := fun _ h => ∃ K : Frag, K.In h ∧ SaysX fb fn xn K ∧ ∀ p ∈ tabs3 K, h.get? p.2.1 = some { cls := .none, data := .fields #[] }
  of := fun _ _ e => by
    have e1 := congrArg (fun z : He.AlD => z.1) e
    have e2 := congrArg (fun z : He.AlD => z.2) e
    obtain ⟨h1, h2⟩ := He.ba e1
    exact ⟨_, He.frG_in, ⟨h1, e2⟩, fun p hp => tabE_ok (List.all_eq_true.mp h2 p hp)⟩
  keeps := fun _ _ _ ⟨K, hK, c, t⟩ k => ⟨K, Frag.In.keeps hK k, c, fun p hp => k _ _ (t p hp)⟩
def obsXL (as : List Addr) (fb : List Fb) (fn : List He5.DefA) (xn : List ExA) (g : Addr → Option Obj) : He.AlD := obsX fb fn xn g (He.frG g as)
theorem obsX_eq {as : List Addr} {fb : List Fb} {fn : List He5.DefA} {xn : List ExA} {g : Addr → Option Obj} {s : Shared} (h : ∀ a, g a = s.heap.get? a) : obsXL as fb fn xn g = (hookX as fb fn xn).obs s := by
  have e : g = s.heap.get? := funext h
  rw [e]
  rfl
theorem SaysX.fact {fb : List Fb} {fn : List He5.DefA} {xn : List ExA} {K : Frag} (c : SaysX fb fn xn K) (i : Nat) {f : Fb} (h : fb[i]? = some f := by rfl) : f K = true :=
  List.all_eq_true.mp (He.ba c.1).1 f (List.mem_of_getElem? h)
theorem SaysX.def_ {fb : List Fb} {fn : List He5.DefA} {xn : List ExA} {K : Frag} (c : SaysX fb fn xn K) (i : Nat) {d : He5.DefA} (h : fn[i]? = some d := by rfl) : ∃ fd, L2.FunD K d.name d.qual d.params d.body d.scope (d.dvs K) (d.kws K) (d.at_ K) fd := by
  have hl : i < fn.length := (List.getElem?_eq_some_iff.mp h).1
  have e2 := congrArg (fun l : List He.FnW => l[i]?) c.2
  try dsimp only at e2
  rw [List.getElem?_append_left (by simpa using hl), List.getElem?_append_left (by simpa using hl), List.getElem?_map, List.getElem?_map, h] at e2
  exact He5.DefA.funD (Option.some.inj e2) (List.all_eq_true.mp (He.ba c.1).2 d (List.mem_of_getElem? h))
theorem SaysX.exc {fb : List Fb} {fn : List He5.DefA} {xn : List ExA} {K : Frag} (c : SaysX fb fn xn K) (i : Nat) {x : ExA} (h : xn[i]? = some x := by rfl) : exW K (He.ma K (He.ga K x.c) "__init__") = x.val := by
  have e2 := congrArg (fun l : List He.FnW => l[fn.length + i]?) c.2
  try dsimp only at e2
  rw [List.getElem?_append_right (by simp), List.getElem?_append_right (by simp)] at e2
  simp only [List.length_map, Nat.add_sub_cancel_left, List.getElem?_map, h] at e2
  exact Option.some.inj e2
end Hd
section
open PySem PySem.Spec L2
variable {X : Cx} {K : PySem.W.Frag} {E : XK} {k : Nat} {a b : Expr} {ta tb : TE} {ma mb : M D} {pos : Pos}
end
/-! defs in whose bodies lambdas are made -/
section
open PySem PySem.Spec L2
variable {P : Program} {w : World} {K : PySem.W.Frag} {mg : Str → Option Value} {base : Heap} {x qual : Str} {params : Arguments} {body : List Stmt} {scope : Scope} {dvs : List V} {kws : List (Str × V)} {f : Addr} {fd : FuncData} {N ps : List Str} {k : Nat} {m : MS}
end
end Ab

/-! Own exception classes over any built-in base: raise C(e), raise C(). -/
namespace Ab
namespace Exb
open PySem PySem.Spec PySem.Calls PyProof.Rows PySem.W
/-- what is known of the base -/
structure XbF (B newId initId : String) (tl : List Value) : Prop where
  F : ExcBaseFacts B newId initId tl
  KX : KxsFacts B initId
  pass : ∀ self : Value, refuseLoop self "__setattr__" tl = pure ()
  ob : tl.contains (.type "object") = true
abbrev aeTail : List Value := [.type "ArithmeticError", .type "Exception", .type "BaseException", .type "object"]
abbrev leTail : List Value := [.type "LookupError", .type "Exception", .type "BaseException", .type "object"]
theorem xb_AE : XbF "ArithmeticError" "ArithmeticError.__new__" "ArithmeticError.__init__" aeTail := ⟨F.excBase_ArithmeticError, kxs_ArithmeticError, F.store_ArithmeticError.passes, by decide +kernel⟩
theorem xb_LE : XbF "LookupError" "LookupError.__new__" "LookupError.__init__" leTail := ⟨F.excBase_LookupError, kxs_LookupError, F.store_LookupError.passes, by decide +kernel⟩
/-- own classes, then the base's mro -/
def refsT (tl : List Value) : List Value → Bool
  | .ref _ :: r => refsT tl r
  | l => l == tl
theorem refsT_cases {tl : List Value} : ∀ l : List Value, refsT tl l = true → (∃ c r, l = .ref c :: r ∧ refsT tl r = true) ∨ l = tl
  | [], e => .inr (beq_iff_eq.mp e)
  | .ref c :: r, e => .inl ⟨c, r, rfl, e⟩
  | .none :: _, e => .inr (beq_iff_eq.mp e)
  | .ellipsis :: _, e => .inr (beq_iff_eq.mp e)
  | .notImplemented :: _, e => .inr (beq_iff_eq.mp e)
  | .bool _ :: _, e => .inr (beq_iff_eq.mp e)
  | .int _ _ :: _, e => .inr (beq_iff_eq.mp e)
  | .float _ _ :: _, e => .inr (beq_iff_eq.mp e)
  | .str _ _ :: _, e => .inr (beq_iff_eq.mp e)
  | .bytes _ _ :: _, e => .inr (beq_iff_eq.mp e)
  | .type _ :: _, e => .inr (beq_iff_eq.mp e)
  | .builtin _ :: _, e => .inr (beq_iff_eq.mp e)
theorem refsT_pass {tl : List Value} (p : ∀ self : Value, refuseLoop self "__setattr__" tl = pure ()) (self : Value) : ∀ l : List Value, refsT tl l = true → refuseLoop self "__setattr__" l = pure () := by
  intro l
  induction l with
  | nil =>
    intro e
    rcases refsT_cases [] e with ⟨c, r', q, h⟩ | q
    · cases q
    · rw [q]; exact p self
  | cons a r ih =>
    intro e
    rcases refsT_cases (a :: r) e with ⟨c, r', q, h⟩ | q
    · obtain ⟨rfl, rfl⟩ := List.cons.inj q
      rw [refuseLoop_ref]; exact ih h
    · rw [q]; exact p self
theorem refsT_contains {tl : List Value} (X : String) : ∀ l : List Value, refsT tl l = true → l.contains (.type X) = tl.contains (.type X) := by
  intro l
  induction l with
  | nil =>
    intro e
    rcases refsT_cases [] e with ⟨c, r', q, h⟩ | q
    · cases q
    · rw [q]
  | cons a r ih =>
    intro e
    rcases refsT_cases (a :: r) e with ⟨c, r', q, h⟩ | q
    · obtain ⟨rfl, rfl⟩ := List.cons.inj q
      rw [List.contains_cons, ih h]; rfl
    · rw [q]
theorem ne_of_contains {l : List Value} {v : Value} (e : l.contains v = true) : l.isEmpty = false := by
  cases l with
  | nil => simp at e
  | cons _ _ => rfl
section
variable {prog : Program} {w : World} {A : Around} {E : Value → Shared → Prop} {R : Result → Shared → Prop} {hp : Heap} {g : Array GenState} {d : Drawn} {t : Nat} {os : OsState}
theorem exc_osaB {K : W.Frag} {name : Str} {tk : Tok} {v : Value} {x C : Addr} {fv : Array Value} {cd : ClassData}
    (X : K.In hp) (hx : hp.get? x = some { cls := .ref C, data := .fields fv }) (hcd : W.clsIn K C = some cd) (hps : ∀ self : Value, refuseLoop self "__setattr__" cd.mro = pure ()) (hob : cd.mro.contains (.type "object") = true) (hh : cd.hasDict = true) (ha : W.findIn K (.ref C) name = some none)
    (hq : ∀ h' tk' dx, (∀ b o, b ≠ x → hp.get? b = some o → h'.get? b = some o) → hp.objs.size ≤ dx → dx ≠ x → h'.get? x = some { cls := .ref C, dict := some dx, data := .fields fv } →
      h'.Ns1 dx (fun y => if y = name then some v else none) → R (.ok (.ret .none)) ⟨h', g, d, tk', os⟩) :
    codeAny (model prog w) A (.call (.builtin "object.__setattr__") ⟨[.ref x, .str name tk, v], []⟩) R ⟨hp, g, d, t, os⟩ := by
  have I : W.InstAt hp x { cls := .ref C, data := .fields fv } C none := ⟨hx, rfl, rfl, trivial⟩
  have SF := F.store_object
  have ne := ne_of_contains hob
  have hxs : x ≠ hp.objs.size := Nat.ne_of_lt (Heap.lt_size hx)
  have sub : W.Looks (model prog w) hp (isInstance (.ref x) (.type "object")) true := I.type.andThen (W.looks_mroIn X (by unfold W.mroIn; rw [hcd, Option.bind_some, if_neg (by rw [ne]; decide), hob]))
  refine codeAny_call_builtin SF.slot.plain SF.entry (@W.check_slot (model prog w) _ _ ⟨hp, g, d, t, os⟩ "object.__setattr__" "object" "__setattr__" (.ref x) [.str name tk, v] [] _ SF.kind SF.split sub (SF.args (.ref x) (.str name tk) v) ?_)
  have hmr : W.Looks (model prog w) hp (mroOf (.ref C)) cd.mro := (W.looks_clsIn X hcd).andThen .now
  have L3 : W.Looks (model prog w) hp (Builtin.ObjectAttr.storeTaker? none) none := .now
  have hcls : W.Looks (model prog w) hp (classData C) cd := W.looks_clsIn X hcd
  rw [W.osa_eq, refuse_eq]
  refine wpAny_bind (wpAny_bind (I.type.at (wpAny_bind (hmr.at ?_))))
  rw [hps]
  refine wpAny_pure (wpAny_bind (I.type.at (wpAny_bind ((W.looks_findIn X ha).at (wpAny_bind (L3.at ?_))))))
  show wpAny _ _ (Builtin.ObjectAttr.storeInOwnDict (.ref x) (.ref C) (.str name tk) name v false) _ _ _
  obtain ⟨nm, bs, mro, ns, qn, hd, sn, sb, ab, col, del⟩ := cd
  dsimp only at hh
  subst hh
  unfold Builtin.ObjectAttr.storeInOwnDict Builtin.ObjectAttr.ownDictForStores
  repeat (first | with_reducible refine HandSPX.store_in_new ?_ ?_ | with_reducible refine wpAny_loadPart_at hx ?_ | with_reducible refine hcls.at ?_ | wp_step)
  · exact ⟨_, #[], _, (Heap.get?_update_ne _ _ _ _ hxs.symm).trans (Heap.get?_push_at rfl rfl), rfl, fun e he => absurd he (by simp), fun _ => rfl⟩
  · intro h' tk' hn' hs
    have hx₁ : (hp.push { cls := .type "dict", data := .dict #[] }).get? x = some { cls := .ref C, data := .fields fv } := Heap.get?_push_of_some _ hx
    refine hq h' tk' hp.objs.size (fun b o hb ho => ?_) (Nat.le_refl _) hxs.symm ?_ hn'
    · exact (hs.2 b (Nat.ne_of_lt (Heap.lt_size ho))).trans ((Heap.get?_update_ne _ _ _ _ hb).trans (Heap.get?_push_of_some _ ho))
    · exact (hs.2 x hxs).trans (Heap.get?_update_self _ hx₁ rfl)
end
/-- what the written part says of the class C over a base and of its __init__ -/
structure IniB (B newId initId : String) (tl : List Value) (K : PySem.W.Frag) (prog : Program) (C fI : Addr) (f : Str) : Prop where
  cls : ∃ nm q N bs bm sn sub ab col dd k0 k1 k2 k3 k5, K.lookup C = some (excClassObj nm q C N bs bm true sn sub ab col dd k0 k1 k2 k3 k5 newId) ∧ refsT tl bm = true
  fn : ∃ oc od qual params scope dV kV doc pm an cda ct cc osl p0 p1 p2 p3 p4 p5 p6 p7 p8, K.lookup fI = some ⟨oc, od, .func (ksFn "__init__" qual params [.Expr (.Call (.Attribute (.Call (.Name "super" p0) [] [] p1) "__init__" p2) [] [] p3) p4, .Assign [.Attribute (.Name "self" p5) f p6] (.Name f p7) p8] scope dV kV doc pm an (.ref cda) ct cc), osl⟩ ∧
    codeIn K (.ref cda) qual = true ∧ (∃ ccl cdd vs ccs file tf, K.lookup cda = some ⟨ccl, cdd, .fields vs, ccs⟩ ∧ vs[2]? = some (.str file tf) ∧ ((prog.main.file : Str) == file) = true) ∧ (∃ cl cld csl, K.lookup cc = some ⟨cl, cld, .cell (some (.ref C)), csl⟩) ∧
    (∃ ar, (params.posonlyargs ++ params.args).head? = some ar ∧ ar.arg = ("self" : Str)) ∧ (∀ a b : Value, bindArgs (ksFn "__init__" qual params [.Expr (.Call (.Attribute (.Call (.Name "super" p0) [] [] p1) "__init__" p2) [] [] p3) p4, .Assign [.Attribute (.Name "self" p5) f p6] (.Name f p7) p8] scope dV kV doc pm an (.ref cda) ct cc) ⟨[a, b], []⟩ = pure [(("self" : Str), a), (f, b)]) ∧
    scope.names.lookup ("super" : Str) = some .globalImplicit ∧ scope.names.lookup ("__class__" : Str) = some .free ∧ scope.names.lookup ("self" : Str) = some .local ∧ scope.names.lookup f = some .local ∧ scope.kind = .function ∧ (∀ x ∈ scope.names, x.2 ≠ .cell) ∧ scope.isCoroutine = false ∧ scope.isGenerator = false ∧
    (∀ L : Addr, swapsWith (.Name f p7) (some (.Attribute (.Name "self" p5) f p6)) p8.line (ksEnv qual scope L fI (.ref cda) cc) = pure false) ∧
    (∀ L : Addr, swapsWith (.Call (.Attribute (.Call (.Name "super" p0) [] [] p1) "__init__" p2) [] [] p3) none p4.line (ksEnv qual scope L fI (.ref cda) cc) = pure false) ∧
    ∀ L : Addr, ∃ pl : Sem Bool, eval (.Call (.Attribute (.Call (.Name "super" p0) [] [] p1) "__init__" p2) [] [] p3) (ksEnv qual scope L fI (.ref cda) cc) = (do
      let ov ← attributeBase (.Call (.Name "super" p0) [] [] p1) "__init__" (ksEnv qual scope L fI (.ref cda) cc) (eval (.Call (.Name "super" p0) [] [] p1) (ksEnv qual scope L fI (.ref cda) cc))
      standAt p2.atName
      let (f, first) ← holding [ov] (getMethod ov "__init__" pl)
      callWith p3 f first (backTo p3 (starEach [] (ksEnv qual scope L fI (.ref cda) cc))) [])
  sup : ks_superIn K C C "__init__" = some (some (.builtin initId))
  subB : subIn K (.ref C) (.type B) = some true
  subC : mroIn K C (.ref C) = some true
  opq : nsIn K cStatics "thirdparty.any" = some none
  sa : findIn K (.ref C) "__setattr__" = some (some (.builtin "object.__setattr__"))
  no : findIn K (.ref C) f = some none
  top : (prog.main.scope.names.lookup ("super" : Str)).isSome = false
  fs : f ≠ "self"
  fdb : (f == ("__debug__" : Str)) = false
section
variable {B newId initId : String} {tl : List Value} {prog : Program} {w : World} {K : PySem.W.Frag} {C fI e t0 : Addr} {f : Str} {A : Around} {R : Result → Shared → Prop} {hp : Heap} {g : Array GenState} {d : Drawn} {t : Nat} {os : OsState} {mg mb : Str → Option Value} {v : Value}
theorem init_runB (XF : XbF B newId initId tl) (T : IniB B newId initId tl K prog C fI f) {fd : FuncData} {args : Args} (lk : ∃ oc od osl, K.lookup fI = some ⟨oc, od, .func fd, osl⟩) (hbt : BindsTo ⟨hp, g, d, t, os⟩ fd args [(("self" : Str), Value.ref e), (f, v)]) (X : K.In hp) (hroom : A.depth < recursionLimit) (hlim : hp.NoLimit) (hns : hp.Ns mainGlobals mg) (hmg : mg "super" = none) (hb : hp.Ns builtinsNs mb) (hbs : mb "super" = some (.type "super")) (he : hp.get? e = some (PySem.HandSPX.excO C t0)) (eK : K.lookup e = none)
    (hq : ∀ h' tk' dx t1, (∀ b o, b ≠ e → hp.get? b = some o → h'.get? b = some o) → hp.objs.size ≤ dx → dx ≠ e → h'.get? e = some ({ cls := .ref C, dict := some dx, data := .fields #[.ref t1, .none, .none, .none, .bool false, .none] } : Obj) → h'.Ns1 dx (fun y => if y = f then some v else none) → R (.ok (.ret .none)) ⟨h', g, d, tk', os⟩) :
    codeAny (model prog w) A (.call (.ref fI) args) R ⟨hp, g, d, t, os⟩ := by
  obtain ⟨nm, q, N, bs, bm, sn, sub, ab, col, dd, k0, k1, k2', k3, k5, hC, hbm⟩ := T.cls
  obtain ⟨oc, od, qual, params, scope, dV, kV, doc, pm, an, cda, ct, cc, osl, p0, p1, p2, p3, p4, p5, p6, p7, p8, hfn, hcd, ⟨ccl, cdd, vs, ccs, file, tf, hcode, hvs, hfile⟩, ⟨cl, cld, csl, hcell⟩, ⟨ar, har, har2⟩, hbind, hks, hkc, hka, hkf, hk, hnc, hco, hgen, hsw, hsx, hev⟩ := T.fn
  have hbt' := hbt
  obtain ⟨oc', od', osl', lk⟩ := lk
  rw [hfn] at lk
  cases lk
  have hCd : (hp.get? C = some (excClassObj nm q C N bs bm true sn sub ab col dd k0 k1 k2' k3 k5 newId)) := X _ _ hC
  have cd : clsIn K C = some { name := nm, bases := bs, mro := .ref C :: bm, ns := N, qualname := q, hasDict := true, slotNames := sn, subclasses := sub, abstract := ab, collection := col, hasDel := false } := by unfold clsIn; rw [hC] <;> rfl
  have eC : e ≠ C := fun z => by
    rw [z, hCd] at he
    cases he
  refine ks_codeAny_call_defAt (binds := [(("self" : Str), Value.ref e), (f, v)]) hroom (X _ _ hfn) rfl hlim (codeRec_of X hcd) rfl hbt' hnc (fun x hx => ?_) (fun h₁ hns₁ hk₁ => ?_) hco hgen hk
  · simp only [List.mem_cons, List.not_mem_nil, or_false] at hx
    rcases hx with rfl | rfl
    · exact hka
    · exact hkf
  show _root_.PySem.wpAt (model prog w) (A.deeper (ksEnv qual scope hp.objs.size fI (.ref cda) cc)) (.func _ (ksEnv qual scope hp.objs.size fI (.ref cda) cc)) (execs _ (ksEnv qual scope hp.objs.size fI (.ref cda) cc)) _ _ _
  have lself : ([(("self" : Str), Value.ref e), (f, v)] : List (Str × Value)).reverse.lookup ("self" : Str) = some (Value.ref e) := by
    have : (("self" : Str) == f) = false := by simpa using fun z : ("self" : Str) = f => T.fs z.symm
    simp [List.lookup, this]
  have lf : ([(("self" : Str), Value.ref e), (f, v)] : List (Str × Value)).reverse.lookup f = some v := by simp [List.lookup]
  have X1 : K.In h₁ := X.keeps hk₁
  have he1 := hk₁ _ _ he
  obtain ⟨pl, hev⟩ := hev hp.objs.size
  have hint : interactive (ksEnv qual scope hp.objs.size fI (.ref cda) cc) = false := by
    unfold interactive
    simp [hk]
  refine ks_wpAt_execs_cons (ks_wpAt_Expr_any (ks_wpAt_MethodCall (pl := pl) ?_ hev) hint (hsx _))
  refine ks_wpAt_super_base (env := ksEnv qual scope hp.objs.size fI (.ref cda) cc) hks hkc (by decide) rfl (X1 _ _ hfn) rfl har rfl (X1 _ _ hcode) rfl hvs hfile T.top ?_
  refine ks_loadName_global hk hks (loadGlobal_builtin (env := ksEnv qual scope hp.objs.size fI (.ref cda) cc) (hns.keeps hk₁) hmg (hb.keeps hk₁) hbs ⟨rfl, ?_⟩)
  refine wpAny_loadName_free hk hkc rfl ⟨_, X1 _ _ hcell, rfl⟩ ?_
  rw [har2]
  refine wpAny_loadName_local hk hka hns₁ lself ?_
  refine ks_wpAny_isType_cls (X1 _ _ hC) rfl ⟨rfl, ?_⟩
  refine ks_wpAny_call_super (X1 _ _ hC) rfl he1 rfl (fun c z => by cases z) (looks_mroIn X1 T.subC) (fun h2 e2 k2 => ?_)
  have X2 : K.In h2 := X1.keeps k2
  have he2 := k2 _ _ he1
  have I2 : InstAt h2 e (PySem.HandSPX.excO C t0) C none := ⟨he2, rfl, rfl, trivial⟩
  have hsup := T.sup
  unfold ks_superIn at hsup
  rw [cd, Option.bind_some] at hsup
  refine kxs_getMethod XF.KX e2 (looks_opaque X2 T.opq) (l₀ := .ref C :: bm) (fun A Q E s k q => wpAny_bind ((looks_clsIn X2 cd) A _ E s k (wpAny_pure q))) rfl X2 hsup (I2.type.andThen (looks_subIn X2 T.subB)) eC (by decide) ?_
  have eu : (h2.push (kxs_mw initId e)).get? h2.objs.size = some (kxs_mw initId e) := Heap.get?_push_at rfl rfl
  refine kxs_callWith (i := initId) (x := e) rfl (evalArgs_empty ⟨eu, ?_⟩)
  have he3 : (h2.push (kxs_mw initId e)).get? e = some (PySem.HandSPX.excO C t0) := Heap.get?_push_of_some _ he2
  have hC3 : (h2.push (kxs_mw initId e)).get? C = some (excClassObj nm q C N bs bm true sn sub ab col dd k0 k1 k2' k3 k5 newId) := Heap.get?_push_of_some _ (X2 _ _ hC)
  refine wpAny_call (codeAny_of_tree ?_)
  show wpAny _ _ (callAny (.ref h2.objs.size) ⟨[], []⟩) _ _ _
  simp only [callAny]
  refine wpAny_bind (wpAny_load eu ?_)
  simp only [kxs_mw, show (Value.type "method-wrapper" == Value.type "method" || Value.type "method-wrapper" == Value.type "builtin_function_or_method" || Value.type "method-wrapper" == Value.type "method-wrapper") = true by decide, if_true]
  refine KFB.if_so (by decide) ?_
  refine wpAny_bind (check_bound_init XF.F.toExcCallFacts hC3 he3 rfl ?_)
  refine wpAny_bind (wpAny_pure (wpAny_pure ?_))
  refine ⟨plainId_quiet XF.F.init.plain _, codeAny_builtin XF.F.initEntry ?_⟩
  refine exc_init_tree (cls := .ref C) (t0 := t0) (dv := none) (c2 := .none) (c3 := .none) (b4 := .bool false) he3 (by simp) (fun h4 k4 e4 tu => ?_)
  have le : hp.objs.size ≠ e := Nat.ne_of_gt (Heap.lt_size he)
  have kAll : ∀ b o, b ≠ e → hp.get? b = some o → h4.get? b = some o := fun b o hb ho => k4 b o hb (Heap.get?_push_of_some _ (k2 b o (hk₁ b o ho)))
  have X4 : K.In h4 := fun b o ho => k4 b o (fun z => by
    rw [z, eK] at ho
    cases ho) (Heap.get?_push_of_some _ (k2 b o (hk₁ b o (X _ _ ho))))
  have hn4 : h4.Ns hp.objs.size (fun x => ([(("self" : Str), Value.ref e), (f, v)] : List (Str × Value)).reverse.lookup x) := by
    obtain ⟨oL, es, ep, hL, r⟩ := hns₁
    exact ⟨oL, es, ep, k4 _ _ le (Heap.get?_push_of_some _ (k2 _ _ hL)), r⟩
  have lt4 : hp.objs.size < h4.objs.size := by
    obtain ⟨oL, es, ep, hL, r⟩ := hn4
    exact Heap.lt_size hL
  show _root_.PySem.wpAt (model prog w) _ _ (execs [.Assign [.Attribute (.Name "self" p5) f p6] (.Name f p7) p8] (ksEnv qual scope hp.objs.size fI (.ref cda) cc)) _ _ _
  refine ks_wpAt_execs_cons (ks_wpAt_Assign_Attr ?_ (hsw _))
  refine wpAt_of_wpAny ?_
  refine PySem.ESX.ldL (s := ⟨h4, g, d, _, os⟩) (env := ksEnv qual scope hp.objs.size fI (.ref cda) cc) (m := fun x => ([(("self" : Str), Value.ref e), (f, v)] : List (Str × Value)).reverse.lookup x) (x := f) (v := v) hn4 lf ?_ hk hkf T.fdb
  refine PySem.ESX.ldL (s := ⟨h4, g, d, _, os⟩) (env := ksEnv qual scope hp.objs.size fI (.ref cda) cc) (m := fun x => ([(("self" : Str), Value.ref e), (f, v)] : List (Str × Value)).reverse.lookup x) (x := "self") (v := .ref e) hn4 lself ?_ hk hka (by decide)
  refine PySem.W.set_plain X4 (ox := { cls := .ref C, dict := none, data := .fields #[.ref (h2.push (kxs_mw initId e)).objs.size, .none, .none, .none, .bool false, .none] }) (od := none) ⟨e4, rfl, rfl, trivial⟩ T.sa ?_
  refine exc_osaB X4 e4 cd (fun self => refsT_pass XF.pass self (.ref C :: bm) hbm) ((refsT_contains "object" (.ref C :: bm) hbm).trans XF.ob) rfl T.no (fun h5 tk5 dx k5 dn dne hx hn => ?_)
  exact wpAt_of_wpAny (wpAny_execs_nil (hq h5 tk5 dx _ (fun b o hb ho => k5 b o hb (kAll b o hb ho)) (Nat.le_trans (Nat.le_of_lt lt4) dn) dne hx hn))
open L2 in
theorem init_fnB (XF : XbF B newId initId tl) (T : IniB B newId initId tl K prog C fI f) {mg : Str → Option Value} {base : Heap} {CX : CXT} {k : Nat} (hmg : mg "super" = none) : ∃ fd, (∃ oc od osl, K.lookup fI = some ⟨oc, od, .func fd, osl⟩) ∧ L2.Binds K fd ["self", f] [] ∧ FnOk prog w K mg base CX (k + 1) fI fd ["self", f] (Ex.spInit C f) := by
  obtain ⟨oc, od, qual, params, scope, dV, kV, doc, pm, an, cda, ct, cc, osl, p0, p1, p2, p3, p4, p5, p6, p7, p8, hfn, hcd, _, _, _, hbind, _⟩ := T.fn
  refine ⟨_, ⟨_, _, _, hfn⟩, fun s us KX hl => ?_, fun vs H Q E h => ?_, fun A outer s H args us vs Q E hr e0 hb r hsp => ?_⟩
  · rw [List.append_nil] at hl
    match us, hl with
    | [a, b], _ => exact BindsTo.of_eq (hbind a b)
  · obtain ⟨a, y, rfl, _⟩ := h
    rfl
  · obtain ⟨a, y, rfl, ha, hq⟩ := hsp
    cases r with
    | @cons _ u0 _ ur r0 r1 =>
      cases r1 with
      | @cons _ u1 _ ur1 r1 r2 =>
        cases r2
        obtain rfl : u0 = Value.ref a := r0
        obtain ⟨t1, ho⟩ := exo_at e0.hok ha
        obtain ⟨mb, hb1, hb2⟩ := e0.mod.blt
        have bk : ∀ b o, base.get? b = some o → s.heap.get? b = some o := fun b o e => (e0.bs b o e).1
        have aK : K.lookup a = none := by
          cases z : K.lookup a with
          | none => rfl
          | some o =>
            have := (e0.bs a o (e0.mod.kin _ _ z)).2
            rw [ha] at this
            cases this
        obtain ⟨hp, g, d, t, os⟩ := s
        refine init_runB XF T ⟨_, _, _, hfn⟩ hb (e0.mod.kin.keeps bk) hr.depth (e0.mod.nolimit.keeps bk) (e0.mod.glob.keeps bk) hmg (hb1.keeps bk) ((hb2 _ (by decide)).trans (by decide +kernel)) ho aK (fun h' tk' dx t2 kp dn dne hx hn => ?_)
        have hnd : H dx = none := e0.hok.fresh dn
        refine ⟨.non, _, rfl, e0.bare, ⟨fun b o q n _ _ => kp b o (fun z => by rw [z, ha] at n; cases n) q, fun b o q n hf _ => ⟨o.slots, kp b o (fun z => by rw [z, ha] at n; cases n) q⟩, fun b o q n _ => ?_, fun b o q _ => ?_, fun b xs q => ?_, fun b o v q => ?_, fun b ps q => ?_⟩, fun b o q => ?_, rfl, hq dx hnd dne⟩
        · have nd : b ≠ dx := Nat.ne_of_lt (Nat.lt_of_lt_of_le (Heap.lt_size q) dn)
          rw [upd_ne (fun z => by rw [z, ha] at n; cases n), upd_ne nd]; exact n
        · by_cases z : b = a
          · rw [z]; exact ⟨_, hx⟩
          · exact ⟨o, kp b o z q⟩
        · rw [upd_ne (at_ne ha q exo_tup), upd_ne (ne_of_none q hnd)]; exact q
        · rw [upd_ne (at_ne ha q exo_frz), upd_ne (ne_of_none q hnd)]; exact q
        · exact ⟨#[], by rw [upd_ne (at_ne ha q exo_tbl), upd_ne (ne_of_none q hnd), q]; simp⟩
        · by_cases za : b = a
          · subst za
            rw [upd_same] at q
            cases q
            exact exo_ok hx
          · rw [upd_ne za] at q
            by_cases zd : b = dx
            · subst zd
              rw [upd_same] at q
              cases q
              exact exd_ok hn (relO_put (fs := []) r1 fun g => True.intro)
            · rw [upd_ne zd] at q
              exact (e0.hok b o q).stay (fun c v hc z => kp c v (by
                  rcases hc with hc | hc
                  · rw [hc]; exact za
                  · exact at_ne ha hc exo_own) z)
                (fun c hc => by rw [upd_ne (at_ne ha hc exo_own), upd_ne (ne_of_none hc hnd)]; exact hc) (fun c xs hc => by rw [upd_ne (at_ne ha hc exo_tup), upd_ne (ne_of_none hc hnd)]; exact hc)
end
end Exb
open PySem PySem.Spec PySem.Calls PyProof.Rows PySem.W
open L2 (exo exd tMkO)
namespace Exb
/-- what the written part says of the class -/
structure OexB (newId : String) (tl : List Value) (K : PySem.W.Frag) (C : Addr) : Prop where
  cls : ∃ nm q N bs bm sn sub ab col dd k0 k1 k2 k3 k5, K.lookup C = some (excClassObj nm q C N bs bm true sn sub ab col dd k0 k1 k2 k3 k5 newId) ∧ refsT tl bm = true
  exC : PySem.W.subIn K (.ref C) (.type "BaseException") = some true
  tyC : PySem.W.typeIn K (.ref C) = some (.type "type")
  kC : PySem.W.keepIn K (.ref C) = true
end Exb
section
open L2 Exb
variable {X : Cx} {B newId initId : String} {tl : List Value} {e : Expr} {es : List Expr} {ta : TA} {p pos : Pos}
theorem pmk_oexB {CX : CXT} {x : Str} {C fI : Addr} {k : Nat} {fd : FuncData} {ps : List Str} {sp : Sp} {ds : List Value} {dvs : List V} (XF : XbF B newId initId tl) (T : OexB newId tl X.K C) (iC : PySem.W.findIn X.K (.ref C) "__init__" = some (some (.ref fI))) (tI : PySem.W.typeIn X.K (.ref fI) = some (.type "function"))
    (F1 : FnOk X.prog X.w X.K X.mg X.base CX k fI fd ps sp) (hr : Room (k + 1) X.A) (hb : Binds X.K fd ps ds) (hd : Vals dvs ds) (hx : Passes CX X (fun _ _ _ => False)) (hg : Gl X x) (hm : X.mg x = some (.ref C)) (ha : PA X (e :: es) ta)
    (hdb : (x == ("__debug__" : Str)) = false := by decide) (he : starEach (e :: es) X.env = (false, eval e X.env) :: starEach es X.env := by rfl) (hpl : (backTo pos (starEach es X.env)).any (·.1) = false := by rfl) :
    PMk X (.Call (.Name x p) (e :: es) [] pos) (tMkO C sp dvs ta) := by
  intro pins s σ H Q I h
  obtain ⟨nm, q, N, bs, bm, sn, sub, ab, col, dd, k0, k1, k2, k3, k5, hC, hbm⟩ := T.cls
  refine wpAny_Call_Name_kw (ld_glob I hg hm ?_ hdb)
  refine PySem.W.callWith_K (h₀ := X.base) I.ok.mod.kin T.kC (thn (ha.run pos pins s σ H _ I h) fun us s1 ⟨vs, H1, I1, r1, hz, q1⟩ => ⟨I1.kIn, ?_⟩) he hpl
  show wpAny _ _ (call (.ref C) us) _ _ _
  obtain ⟨hp, g, dr, tk, os⟩ := s1
  have hsz : hp.objs.size ≤ hp.objs.size + 1 := Nat.le_succ _
  have hn : H1 (hp.objs.size + 1) = none := I1.hok.fresh hsz
  have hq := q1 (hp.objs.size + 1) hn
  have kk : ∀ b o, hp.get? b = some o → ((hp.push (PySem.W.kdv_tup us)).push (PySem.HandSPX.excO C hp.objs.size)).get? b = some o := fun b o e => Heap.get?_push_of_some _ (Heap.get?_push_of_some _ e)
  have hget : ((hp.push (PySem.W.kdv_tup us)).push (PySem.HandSPX.excO C hp.objs.size)).get? (hp.objs.size + 1) = some (PySem.HandSPX.excO C hp.objs.size) := by heap_get
  have I2 : Inv X pins σ (upd H1 (hp.objs.size + 1) (exo (hp.objs.size + 1) C none)) ⟨(hp.push (PySem.W.kdv_tup us)).push (PySem.HandSPX.excO C hp.objs.size), g, dr, tk, os⟩ :=
    I1.laid (t' := tk) (a := hp.objs.size + 1) (o := exo (hp.objs.size + 1) C none) (h' := (hp.push (PySem.W.kdv_tup us)).push (PySem.HandSPX.excO C hp.objs.size)) kk hsz (exo_ok hget)
  have r2 : Vals (V.ref (hp.objs.size + 1) :: (vs ++ dvs)) (Value.ref (hp.objs.size + 1) :: (us ++ ds)) := .cons rfl (r1.append hd)
  have hl : (Value.ref (hp.objs.size + 1) :: us ++ ds).length = ps.length := by
    have e := r2.length
    rw [F1.len _ _ _ _ hq] at e
    exact e.symm
  have hus : us.length ≤ sizeLine := by
    rw [← Paired.length r1, sizeLine_eq]
    omega
  refine wpAny_call (PySem.HandSPX.call_own XF.F (fun Y => refsT_contains Y bm hbm) (I1.kIn _ _ hC) (PySem.W.looks_findIn I1.kIn iC) (fun self => PySem.W.bind_fn I1.kIn self tI) hus
    (codeAny_mono (F1.run _ X.stack _ _ ⟨Value.ref (hp.objs.size + 1) :: us, []⟩ (Value.ref (hp.objs.size + 1) :: (us ++ ds)) _ _ (fun _ _ _ => False) (hr.make C us []) (I2.env0.make C us []) (hb _ (Value.ref (hp.objs.size + 1) :: us) I2.kIn hl) r2 hq) fun r s' hq' => ?_))
  cases r with
  | error er => exact hx pins σ _ _ er s' I2 hq'
  | ok fl =>
    cases fl with
    | ret u =>
      obtain ⟨v, H2, os2, bare2, un2, hok2, rv, ev, d, fs, ea, ed, hd1, q2⟩ := hq'
      subst ev
      obtain ⟨h2, g2, d2, t2, os'⟩ := s'
      exact ⟨rv, mk_end (raises_own T.exC T.tyC) I1 hsz kk un2 hok2 os2 bare2 ea ed hd1 q2⟩
    | next => exact False.elim hq'
    | brk => exact False.elim hq'
    | cont => exact False.elim hq'
end
/-- what the written part says of the own exception class c, whose __init__(self, f) keeps f -/
def ExKB (P : Program) (K : PySem.W.Frag) (mg : Str → Option Value) (c f : Str) : Prop :=
  ∃ B newId initId tl fI, Exb.XbF B newId initId tl ∧ Exb.IniB B newId initId tl K P (He.ga K c) fI f ∧ PySem.W.findIn K (.ref (He.ga K c)) "__init__" = some (some (.ref fI)) ∧ PySem.W.typeIn K (.ref fI) = some (.type "function") ∧ Exb.OexB newId tl K (He.ga K c) ∧ mg c = some (.ref (He.ga K c)) ∧ mg "super" = none
section
variable {X : L2.Cx} {K : PySem.W.Frag} {E : L2.XK} {k : Nat} {c f : Str} {e : Expr} {te : L2.TE} {me : M D} {p pos pos' : Pos}
end
end Ab

/-! raise C(), C an own exception class without __init__; the head's facts of classes over any base. -/
namespace Ab
open PySem PySem.Spec PySem.Calls PyProof.Rows PySem.W
open L2 (exo exd tMkO)
def mRaise0 (c : Str) : MS := fun _ h => .exc c [] h
/-- what the written part says of the own exception class c, without __init__ -/
def ExK0 (K : PySem.W.Frag) (mg : Str → Option Value) (c : Str) : Prop :=
  ∃ B newId initId tl, Exb.XbF B newId initId tl ∧ PySem.W.excIn K (He.ga K c) tl newId = true ∧ PySem.W.keepIn K (.ref (He.ga K c)) = true ∧ PySem.W.subIn K (.ref (He.ga K c)) (.type "BaseException") = some true ∧ PySem.W.typeIn K (.ref (He.ga K c)) = some (.type "type") ∧ mg c = some (.ref (He.ga K c))
section
open L2
variable {X : Cx} {B newId initId : String} {tl : List Value} {x : Str} {C : Addr} {p pos : Pos}
theorem pmk_own0 (XF : Exb.XbF B newId initId tl) (q : PySem.W.excIn X.K C tl newId = true) (gC : X.mg x = some (.ref C)) (kC : PySem.W.keepIn X.K (.ref C) = true) (r : Raises X (.ref C)) (hg : Gl X x) (hdb : (x == ("__debug__" : Str)) = false := by decide) :
    PMk X (.Call (.Name x p) [] [] pos) (fun σ H Q => Q (.ref C) none H) := by
  intro pins s σ H Q I h
  refine wpAny_Call_Name_kw (ld_glob I hg gC ?_ hdb)
  refine PySem.W.callWith_K0 I.kIn kC ?_
  show wpAny _ _ (call (.ref C) []) _ _ _
  obtain ⟨bm, N, nm, qn, bs, hdct, sn, sub, ab, col, dd, k0, k1, k2, k3, k5, mN, hC, hN, hni, T⟩ := exc_obj I.kIn q
  refine wpAny_call_exc_subT XF.F T hC hN hni (fun h' e hm => ?_) (by decide)
  exact mk_of I hm r h (I.hok.gone hm.new)
end
section
variable {X : L2.Cx} {K : PySem.W.Frag} {E : L2.XK} {c : Str} {p pos pos' : Pos}
end
namespace Hd
/-- the class object of an own exception class over a base -/
def xclBB (newId : String) (tl : List Value) (K : Frag) (C : Addr) : Bool := match K.lookup C with
  | some ⟨.type "type", _, .cls cd, sl⟩ => (match cd.mro, sl.toList with
    | .ref C' :: bm, [_, _, _, _, some (.builtin n), _] => C' == C && (n == newId && (!cd.hasDel && (cd.hasDict && Exb.refsT tl bm)))
    | _, _ => false)
  | _ => false
theorem xclBB_ok {newId : String} {tl : List Value} {K : Frag} {C : Addr} (h : xclBB newId tl K C = true) : ∃ nm q N bs bm sn sub ab col dd k0 k1 k2 k3 k5, K.lookup C = some (excClassObj nm q C N bs bm true sn sub ab col dd k0 k1 k2 k3 k5 newId) ∧ Exb.refsT tl bm = true := by
  unfold xclBB at h
  split at h
  · rename_i dd cd sl ho
    split at h
    · rename_i C' bm k0 k1 k2 k3 n k5 hm hs
      simp only [Bool.and_eq_true, beq_iff_eq, Bool.not_eq_true'] at h
      obtain ⟨rfl, rfl, hdel, hd, hr⟩ := h
      obtain ⟨nm, bs, mro, ns, qn, hd', sn, sub, ab, col, del⟩ := cd
      dsimp only at hm hdel hd
      subst hm hdel hd
      have hsl : sl = #[k0, k1, k2, k3, some (.builtin n), k5] := by
        obtain ⟨l⟩ := sl
        simp only at hs
        rw [hs]
      subst hsl
      exact ⟨nm, qn, ns, bs, bm, sn, sub, ab, col, dd, k0, k1, k2, k3, k5, ho, hr⟩
    · cases h
  · cases h
/-- all of such a class -/
def exBB (B newId initId : String) (tl : List Value) (c f qual file : Str) : Fb := fun K => xclBB newId tl K (He.ga K c) && (decide (findIn K (.ref (He.ga K c)) "__init__" = some (some (.ref (He.ma K (He.ga K c) "__init__")))) && (decide (typeIn K (.ref (He.ma K (He.ga K c) "__init__")) = some (.type "function")) &&
  (xfnB K (He.ga K c) (He.ma K (He.ga K c) "__init__") qual file && (decide (ks_superIn K (He.ga K c) (He.ga K c) "__init__" = some (some (.builtin initId))) && (decide (subIn K (.ref (He.ga K c)) (.type B) = some true) && (decide (mroIn K (He.ga K c) (.ref (He.ga K c)) = some true) &&
  (decide (nsIn K cStatics "thirdparty.any" = some none) && (decide (findIn K (.ref (He.ga K c)) "__setattr__" = some (some (.builtin "object.__setattr__"))) && (decide (findIn K (.ref (He.ga K c)) f = some none) && (decide (subIn K (.ref (He.ga K c)) (.type "BaseException") = some true) &&
  (decide (typeIn K (.ref (He.ga K c)) = some (.type "type")) && keepIn K (.ref (He.ga K c)))))))))))))
theorem ex_okB {B newId initId : String} {tl : List Value} (XF : Exb.XbF B newId initId tl) {K : Frag} {P : Program} {mg : Str → Option Value} {c f qual file : Str} {params : Arguments} {body : List Stmt} {scope : Scope} (h : exBB B newId initId tl c f qual file K = true) (e : exW K (He.ma K (He.ga K c) "__init__") = ExA.val ⟨c, f, qual, params, body, scope⟩) (hf : P.main.file = file)
    (ht : (P.main.scope.names.lookup ("super" : Str)).isSome = false) (T : IniL qual f params body scope) (hm : mg c = some (.ref (He.ga K c))) (hs : mg "super" = none) (n1 : f ≠ "self" := by decide) (n2 : (f == ("__debug__" : Str)) = false := by decide) : ExKB P K mg c f := by
  unfold exBB at h
  simp only [Bool.and_eq_true, decide_eq_true_eq] at h
  obtain ⟨h1, h2, h3, h4, h5, h6, h7, h8, h9, h10, h11, h12, h13⟩ := h
  have hc := xclBB_ok h1
  obtain ⟨oc, od, params', scope', dV, kV, doc, pm, an, cda, ct, cc, osl, body', lk, e1, e2, e3, e4, hcd, hcode, hcell⟩ := xfn_ok e h4 hf T
  subst e1 e2 e3 e4
  obtain ⟨p0, p1, p2, p3, p4, p5, p6, p7, p8, eb, har, hbind, k1, k2, k3, k4, k5, k6, k7, k8, sw1, sw2, hev⟩ := T.ex
  subst eb
  exact ⟨B, newId, initId, tl, _, XF, ⟨hc, ⟨oc, od, qual, params', scope', .none, kV, doc, pm, an, cda, ct, cc, osl, p0, p1, p2, p3, p4, p5, p6, p7, p8, lk, hcd, hcode, hcell, har, fun a b => hbind a b kV doc pm an cda ct cc, k1, k2, k3, k4, k5, k6, k7, k8,
    fun L => sw1 L _ cda cc, fun L => sw2 L _ cda cc, fun L => hev L _ cda cc⟩, h5, h6, h7, h8, h9, h10, ht, n1, n2⟩, h2, h3, ⟨hc, h11, h12, h13⟩, hm, hs⟩
def ex0B (newId : String) (tl : List Value) (c : Str) : Fb := fun K => excIn K (He.ga K c) tl newId && (keepIn K (.ref (He.ga K c)) && (decide (subIn K (.ref (He.ga K c)) (.type "BaseException") = some true) && decide (typeIn K (.ref (He.ga K c)) = some (.type "type"))))
theorem ex_ok0 {B newId initId : String} {tl : List Value} (XF : Exb.XbF B newId initId tl) {K : Frag} {mg : Str → Option Value} {c : Str} (h : ex0B newId tl c K = true) (hm : mg c = some (.ref (He.ga K c))) : ExK0 K mg c := by
  unfold ex0B at h
  simp only [Bool.and_eq_true, decide_eq_true_eq] at h
  exact ⟨B, newId, initId, tl, XF, h.1, h.2.1, h.2.2.1, h.2.2.2, hm⟩
end Hd
end Ab

/-! raise C(a, b), C an own exception class whose __init__ keeps two. -/
namespace Ab
namespace Exb
open PySem PySem.Spec PySem.Calls PyProof.Rows PySem.W
open Builtin Builtin.ObjectAttr
section
variable {prog : Program} {w : World} {A : Around} {E : Value → Shared → Prop} {R : Result → Shared → Prop} {hp : Heap} {g : Array GenState} {d : Drawn} {t : Nat} {os : OsState}
theorem within1 {f : Str} {v : Value} : Within (fun y => if y = f then some v else none) [f] := fun y hy => by
  by_cases z : y = f
  · rw [z]; exact List.mem_singleton.mpr rfl
  · exact absurd (if_neg z) hy
theorem exc_osaB_old {K : W.Frag} {name : Str} {tk : Tok} {v : Value} {x C dx : Addr} {fv : Array Value} {cd : ClassData} {m0 : Str → Option Value} {nl : List Str}
    (X : K.In hp) (hx : hp.get? x = some { cls := .ref C, dict := some dx, data := .fields fv }) (hns : hp.Ns1 dx m0) (hw : Within m0 nl) (hz : nl.length ≤ 1000) (hcd : W.clsIn K C = some cd) (hps : ∀ self : Value, refuseLoop self "__setattr__" cd.mro = pure ()) (hob : cd.mro.contains (.type "object") = true) (hh : cd.hasDict = true)
    (ha : W.findIn K (.ref C) name = some none)
    (hq : ∀ h' tk', (∀ b o, b ≠ dx → hp.get? b = some o → h'.get? b = some o) → h'.Ns1 dx (fun y => if y = name then some v else m0 y) → R (.ok (.ret .none)) ⟨h', g, d, tk', os⟩) :
    codeAny (model prog w) A (.call (.builtin "object.__setattr__") ⟨[.ref x, .str name tk, v], []⟩) R ⟨hp, g, d, t, os⟩ := by
  obtain ⟨oD, esD, epD, hoD, hdD, _⟩ := hns.count hw
  have I : W.InstAt hp x { cls := .ref C, dict := some dx, data := .fields fv } C (some oD) := ⟨hx, rfl, rfl, hoD⟩
  have SF := F.store_object
  have ne := ne_of_contains hob
  have sub : W.Looks (model prog w) hp (isInstance (.ref x) (.type "object")) true := I.type.andThen (W.looks_mroIn X (by unfold W.mroIn; rw [hcd, Option.bind_some, if_neg (by rw [ne]; decide), hob]))
  refine codeAny_call_builtin SF.slot.plain SF.entry (@W.check_slot (model prog w) _ _ ⟨hp, g, d, t, os⟩ "object.__setattr__" "object" "__setattr__" (.ref x) [.str name tk, v] [] _ SF.kind SF.split sub (SF.args (.ref x) (.str name tk) v) ?_)
  have hmr : W.Looks (model prog w) hp (mroOf (.ref C)) cd.mro := (W.looks_clsIn X hcd).andThen .now
  have L3 : W.Looks (model prog w) hp (storeTaker? none) none := .now
  have hcls : W.Looks (model prog w) hp (classData C) cd := W.looks_clsIn X hcd
  rw [W.osa_eq, refuse_eq]
  refine wpAny_bind (wpAny_bind (I.type.at (wpAny_bind (hmr.at ?_))))
  rw [hps]
  refine wpAny_pure (wpAny_bind (I.type.at (wpAny_bind ((W.looks_findIn X ha).at (wpAny_bind (L3.at ?_))))))
  show wpAny _ _ (storeInOwnDict (.ref x) (.ref C) (.str name tk) name v false) _ _ _
  obtain ⟨nm, bs, mro, ns, qn, hd, sn, sb, ab, col, del⟩ := cd
  dsimp only at hh
  subst hh
  unfold storeInOwnDict ownDictForStores
  repeat (first | with_reducible refine PySem.OEX.store_in_old hns hw hz ?_ | with_reducible refine wpAny_loadPart_at hx ?_ | with_reducible refine hcls.at ?_ | wp_step)
  intro h' tk' hn' hs
  exact hq h' tk' (fun b o hb ho => (hs.2 b hb).trans ho) hn'
end
/-- what the written part says of the class C over a base and of its __init__ -/
structure IniB2 (B newId initId : String) (tl : List Value) (K : PySem.W.Frag) (prog : Program) (C fI : Addr) (f f2 : Str) : Prop where
  cls : ∃ nm q N bs bm sn sub ab col dd k0 k1 k2 k3 k5, K.lookup C = some (excClassObj nm q C N bs bm true sn sub ab col dd k0 k1 k2 k3 k5 newId) ∧ refsT tl bm = true
  fn : ∃ oc od qual params scope dV kV doc pm an cda ct cc osl p0 p1 p2 p3 p4 p5 p6 p7 p8 p9 p10 p11 p12, K.lookup fI = some ⟨oc, od, .func (ksFn "__init__" qual params [.Expr (.Call (.Attribute (.Call (.Name "super" p0) [] [] p1) "__init__" p2) [] [] p3) p4, .Assign [.Attribute (.Name "self" p5) f p6] (.Name f p7) p8, .Assign [.Attribute (.Name "self" p9) f2 p10] (.Name f2 p11) p12] scope dV kV doc pm an (.ref cda) ct cc), osl⟩ ∧
    codeIn K (.ref cda) qual = true ∧ (∃ ccl cdd vs ccs file tf, K.lookup cda = some ⟨ccl, cdd, .fields vs, ccs⟩ ∧ vs[2]? = some (.str file tf) ∧ ((prog.main.file : Str) == file) = true) ∧ (∃ cl cld csl, K.lookup cc = some ⟨cl, cld, .cell (some (.ref C)), csl⟩) ∧
    (∃ ar, (params.posonlyargs ++ params.args).head? = some ar ∧ ar.arg = ("self" : Str)) ∧ (∀ a b b2 : Value, bindArgs (ksFn "__init__" qual params [.Expr (.Call (.Attribute (.Call (.Name "super" p0) [] [] p1) "__init__" p2) [] [] p3) p4, .Assign [.Attribute (.Name "self" p5) f p6] (.Name f p7) p8, .Assign [.Attribute (.Name "self" p9) f2 p10] (.Name f2 p11) p12] scope dV kV doc pm an (.ref cda) ct cc) ⟨[a, b, b2], []⟩ = pure [(("self" : Str), a), (f, b), (f2, b2)]) ∧
    scope.names.lookup ("super" : Str) = some .globalImplicit ∧ scope.names.lookup ("__class__" : Str) = some .free ∧ scope.names.lookup ("self" : Str) = some .local ∧ scope.names.lookup f = some .local ∧ scope.names.lookup f2 = some .local ∧ scope.kind = .function ∧ (∀ x ∈ scope.names, x.2 ≠ .cell) ∧ scope.isCoroutine = false ∧ scope.isGenerator = false ∧
    (∀ L : Addr, swapsWith (.Name f p7) (some (.Attribute (.Name "self" p5) f p6)) p8.line (ksEnv qual scope L fI (.ref cda) cc) = pure false) ∧
    (∀ L : Addr, swapsWith (.Name f2 p11) (some (.Attribute (.Name "self" p9) f2 p10)) p12.line (ksEnv qual scope L fI (.ref cda) cc) = pure false) ∧
    (∀ L : Addr, swapsWith (.Call (.Attribute (.Call (.Name "super" p0) [] [] p1) "__init__" p2) [] [] p3) none p4.line (ksEnv qual scope L fI (.ref cda) cc) = pure false) ∧
    ∀ L : Addr, ∃ pl : Sem Bool, eval (.Call (.Attribute (.Call (.Name "super" p0) [] [] p1) "__init__" p2) [] [] p3) (ksEnv qual scope L fI (.ref cda) cc) = (do
      let ov ← attributeBase (.Call (.Name "super" p0) [] [] p1) "__init__" (ksEnv qual scope L fI (.ref cda) cc) (eval (.Call (.Name "super" p0) [] [] p1) (ksEnv qual scope L fI (.ref cda) cc))
      standAt p2.atName
      let (f, first) ← holding [ov] (getMethod ov "__init__" pl)
      callWith p3 f first (backTo p3 (starEach [] (ksEnv qual scope L fI (.ref cda) cc))) [])
  sup : ks_superIn K C C "__init__" = some (some (.builtin initId))
  subB : subIn K (.ref C) (.type B) = some true
  subC : mroIn K C (.ref C) = some true
  opq : nsIn K cStatics "thirdparty.any" = some none
  sa : findIn K (.ref C) "__setattr__" = some (some (.builtin "object.__setattr__"))
  no : findIn K (.ref C) f = some none
  no2 : findIn K (.ref C) f2 = some none
  top : (prog.main.scope.names.lookup ("super" : Str)).isSome = false
  fs : f ≠ "self"
  fs2 : f2 ≠ "self"
  ff : f2 ≠ f
  fdb : (f == ("__debug__" : Str)) = false
  fdb2 : (f2 == ("__debug__" : Str)) = false
section
variable {B newId initId : String} {tl : List Value} {prog : Program} {w : World} {K : PySem.W.Frag} {C fI e t0 : Addr} {f f2 : Str} {A : Around} {R : Result → Shared → Prop} {hp : Heap} {g : Array GenState} {d : Drawn} {t : Nat} {os : OsState} {mg mb : Str → Option Value} {v v2 : Value}
theorem init_runB2 (XF : XbF B newId initId tl) (T : IniB2 B newId initId tl K prog C fI f f2) {fd : FuncData} {args : Args} (lk : ∃ oc od osl, K.lookup fI = some ⟨oc, od, .func fd, osl⟩) (hbt : BindsTo ⟨hp, g, d, t, os⟩ fd args [(("self" : Str), Value.ref e), (f, v), (f2, v2)]) (X : K.In hp) (hroom : A.depth < recursionLimit) (hlim : hp.NoLimit) (hns : hp.Ns mainGlobals mg) (hmg : mg "super" = none) (hb : hp.Ns builtinsNs mb) (hbs : mb "super" = some (.type "super")) (he : hp.get? e = some (PySem.HandSPX.excO C t0)) (eK : K.lookup e = none)
    (hq : ∀ h' tk' dx t1, (∀ b o, b ≠ e → hp.get? b = some o → h'.get? b = some o) → hp.objs.size ≤ dx → dx ≠ e → h'.get? e = some ({ cls := .ref C, dict := some dx, data := .fields #[.ref t1, .none, .none, .none, .bool false, .none] } : Obj) → h'.Ns1 dx (fun y => if y = f2 then some v2 else if y = f then some v else none) → R (.ok (.ret .none)) ⟨h', g, d, tk', os⟩) :
    codeAny (model prog w) A (.call (.ref fI) args) R ⟨hp, g, d, t, os⟩ := by
  obtain ⟨nm, q, N, bs, bm, sn, sub, ab, col, dd, k0, k1, k2', k3, k5, hC, hbm⟩ := T.cls
  obtain ⟨oc, od, qual, params, scope, dV, kV, doc, pm, an, cda, ct, cc, osl, p0, p1, p2, p3, p4, p5, p6, p7, p8, p9, p10, p11, p12, hfn, hcd, ⟨ccl, cdd, vs, ccs, file, tf, hcode, hvs, hfile⟩, ⟨cl, cld, csl, hcell⟩, ⟨ar, har, har2⟩, hbind, hks, hkc, hka, hkf, hkf2, hk, hnc, hco, hgen, hsw, hsw2, hsx, hev⟩ := T.fn
  have hbt' := hbt
  obtain ⟨oc', od', osl', lk⟩ := lk
  rw [hfn] at lk
  cases lk
  have hCd : (hp.get? C = some (excClassObj nm q C N bs bm true sn sub ab col dd k0 k1 k2' k3 k5 newId)) := X _ _ hC
  have cd : clsIn K C = some { name := nm, bases := bs, mro := .ref C :: bm, ns := N, qualname := q, hasDict := true, slotNames := sn, subclasses := sub, abstract := ab, collection := col, hasDel := false } := by unfold clsIn; rw [hC] <;> rfl
  have eC : e ≠ C := fun z => by
    rw [z, hCd] at he
    cases he
  refine ks_codeAny_call_defAt (binds := [(("self" : Str), Value.ref e), (f, v), (f2, v2)]) hroom (X _ _ hfn) rfl hlim (codeRec_of X hcd) rfl hbt' hnc (fun x hx => ?_) (fun h₁ hns₁ hk₁ => ?_) hco hgen hk
  · simp only [List.mem_cons, List.not_mem_nil, or_false] at hx
    rcases hx with rfl | rfl | rfl
    · exact hka
    · exact hkf
    · exact hkf2
  show _root_.PySem.wpAt (model prog w) (A.deeper (ksEnv qual scope hp.objs.size fI (.ref cda) cc)) (.func _ (ksEnv qual scope hp.objs.size fI (.ref cda) cc)) (execs _ (ksEnv qual scope hp.objs.size fI (.ref cda) cc)) _ _ _
  have lself : ([(("self" : Str), Value.ref e), (f, v), (f2, v2)] : List (Str × Value)).reverse.lookup ("self" : Str) = some (Value.ref e) := by
    have : (("self" : Str) == f) = false := by simpa using fun z : ("self" : Str) = f => T.fs z.symm
    have h2 : (("self" : Str) == f2) = false := by simpa using fun z : ("self" : Str) = f2 => T.fs2 z.symm
    simp [List.lookup, this, h2]
  have lf : ([(("self" : Str), Value.ref e), (f, v), (f2, v2)] : List (Str × Value)).reverse.lookup f = some v := by
    have : (f == f2) = false := by simpa using fun z : f = f2 => T.ff z.symm
    simp [List.lookup, this]
  have lf2 : ([(("self" : Str), Value.ref e), (f, v), (f2, v2)] : List (Str × Value)).reverse.lookup f2 = some v2 := by simp [List.lookup]
  have X1 : K.In h₁ := X.keeps hk₁
  have he1 := hk₁ _ _ he
  obtain ⟨pl, hev⟩ := hev hp.objs.size
  have hint : interactive (ksEnv qual scope hp.objs.size fI (.ref cda) cc) = false := by
    unfold interactive
    simp [hk]
  refine ks_wpAt_execs_cons (ks_wpAt_Expr_any (ks_wpAt_MethodCall (pl := pl) ?_ hev) hint (hsx _))
  refine ks_wpAt_super_base (env := ksEnv qual scope hp.objs.size fI (.ref cda) cc) hks hkc (by decide) rfl (X1 _ _ hfn) rfl har rfl (X1 _ _ hcode) rfl hvs hfile T.top ?_
  refine ks_loadName_global hk hks (loadGlobal_builtin (env := ksEnv qual scope hp.objs.size fI (.ref cda) cc) (hns.keeps hk₁) hmg (hb.keeps hk₁) hbs ⟨rfl, ?_⟩)
  refine wpAny_loadName_free hk hkc rfl ⟨_, X1 _ _ hcell, rfl⟩ ?_
  rw [har2]
  refine wpAny_loadName_local hk hka hns₁ lself ?_
  refine ks_wpAny_isType_cls (X1 _ _ hC) rfl ⟨rfl, ?_⟩
  refine ks_wpAny_call_super (X1 _ _ hC) rfl he1 rfl (fun c z => by cases z) (looks_mroIn X1 T.subC) (fun h2 e2 k2 => ?_)
  have X2 : K.In h2 := X1.keeps k2
  have he2 := k2 _ _ he1
  have I2 : InstAt h2 e (PySem.HandSPX.excO C t0) C none := ⟨he2, rfl, rfl, trivial⟩
  have hsup := T.sup
  unfold ks_superIn at hsup
  rw [cd, Option.bind_some] at hsup
  refine kxs_getMethod XF.KX e2 (looks_opaque X2 T.opq) (l₀ := .ref C :: bm) (fun A Q E s k q => wpAny_bind ((looks_clsIn X2 cd) A _ E s k (wpAny_pure q))) rfl X2 hsup (I2.type.andThen (looks_subIn X2 T.subB)) eC (by decide) ?_
  have eu : (h2.push (kxs_mw initId e)).get? h2.objs.size = some (kxs_mw initId e) := Heap.get?_push_at rfl rfl
  refine kxs_callWith (i := initId) (x := e) rfl (evalArgs_empty ⟨eu, ?_⟩)
  have he3 : (h2.push (kxs_mw initId e)).get? e = some (PySem.HandSPX.excO C t0) := Heap.get?_push_of_some _ he2
  have hC3 : (h2.push (kxs_mw initId e)).get? C = some (excClassObj nm q C N bs bm true sn sub ab col dd k0 k1 k2' k3 k5 newId) := Heap.get?_push_of_some _ (X2 _ _ hC)
  refine wpAny_call (codeAny_of_tree ?_)
  show wpAny _ _ (callAny (.ref h2.objs.size) ⟨[], []⟩) _ _ _
  simp only [callAny]
  refine wpAny_bind (wpAny_load eu ?_)
  simp only [kxs_mw, show (Value.type "method-wrapper" == Value.type "method" || Value.type "method-wrapper" == Value.type "builtin_function_or_method" || Value.type "method-wrapper" == Value.type "method-wrapper") = true by decide, if_true]
  refine KFB.if_so (by decide) ?_
  refine wpAny_bind (check_bound_init XF.F.toExcCallFacts hC3 he3 rfl ?_)
  refine wpAny_bind (wpAny_pure (wpAny_pure ?_))
  refine ⟨plainId_quiet XF.F.init.plain _, codeAny_builtin XF.F.initEntry ?_⟩
  refine exc_init_tree (cls := .ref C) (t0 := t0) (dv := none) (c2 := .none) (c3 := .none) (b4 := .bool false) he3 (by simp) (fun h4 k4 e4 tu => ?_)
  have le : hp.objs.size ≠ e := Nat.ne_of_gt (Heap.lt_size he)
  have kAll : ∀ b o, b ≠ e → hp.get? b = some o → h4.get? b = some o := fun b o hb ho => k4 b o hb (Heap.get?_push_of_some _ (k2 b o (hk₁ b o ho)))
  have X4 : K.In h4 := fun b o ho => k4 b o (fun z => by
    rw [z, eK] at ho
    cases ho) (Heap.get?_push_of_some _ (k2 b o (hk₁ b o (X _ _ ho))))
  have hn4 : h4.Ns hp.objs.size (fun x => ([(("self" : Str), Value.ref e), (f, v), (f2, v2)] : List (Str × Value)).reverse.lookup x) := by
    obtain ⟨oL, es, ep, hL, r⟩ := hns₁
    exact ⟨oL, es, ep, k4 _ _ le (Heap.get?_push_of_some _ (k2 _ _ hL)), r⟩
  have lt4 : hp.objs.size < h4.objs.size := by
    obtain ⟨oL, es, ep, hL, r⟩ := hn4
    exact Heap.lt_size hL
  show _root_.PySem.wpAt (model prog w) _ _ (execs [.Assign [.Attribute (.Name "self" p5) f p6] (.Name f p7) p8, .Assign [.Attribute (.Name "self" p9) f2 p10] (.Name f2 p11) p12] (ksEnv qual scope hp.objs.size fI (.ref cda) cc)) _ _ _
  refine ks_wpAt_execs_cons (ks_wpAt_Assign_Attr ?_ (hsw _))
  refine wpAt_of_wpAny ?_
  refine PySem.ESX.ldL (s := ⟨h4, g, d, _, os⟩) (env := ksEnv qual scope hp.objs.size fI (.ref cda) cc) (m := fun x => ([(("self" : Str), Value.ref e), (f, v), (f2, v2)] : List (Str × Value)).reverse.lookup x) (x := f) (v := v) hn4 lf ?_ hk hkf T.fdb
  refine PySem.ESX.ldL (s := ⟨h4, g, d, _, os⟩) (env := ksEnv qual scope hp.objs.size fI (.ref cda) cc) (m := fun x => ([(("self" : Str), Value.ref e), (f, v), (f2, v2)] : List (Str × Value)).reverse.lookup x) (x := "self") (v := .ref e) hn4 lself ?_ hk hka (by decide)
  refine PySem.W.set_plain X4 (ox := { cls := .ref C, dict := none, data := .fields #[.ref (h2.push (kxs_mw initId e)).objs.size, .none, .none, .none, .bool false, .none] }) (od := none) ⟨e4, rfl, rfl, trivial⟩ T.sa ?_
  refine exc_osaB X4 e4 cd (fun self => refsT_pass XF.pass self (.ref C :: bm) hbm) ((refsT_contains "object" (.ref C :: bm) hbm).trans XF.ob) rfl T.no (fun h5 tk5 dx k5 dn dne hx hn => ?_)
  have X5 : K.In h5 := fun b o ho => k5 b o (fun z => by
    rw [z, eK] at ho
    cases ho) (X4 b o ho)
  have hn5 : h5.Ns hp.objs.size (fun x => ([(("self" : Str), Value.ref e), (f, v), (f2, v2)] : List (Str × Value)).reverse.lookup x) := by
    obtain ⟨oL, es, ep, hL, r⟩ := hn4
    exact ⟨oL, es, ep, k5 _ _ le hL, r⟩
  show _root_.PySem.wpAt (model prog w) _ _ (execs [.Assign [.Attribute (.Name "self" p9) f2 p10] (.Name f2 p11) p12] (ksEnv qual scope hp.objs.size fI (.ref cda) cc)) _ _ _
  refine ks_wpAt_execs_cons (ks_wpAt_Assign_Attr ?_ (hsw2 _))
  refine wpAt_of_wpAny ?_
  refine PySem.ESX.ldL (s := ⟨h5, g, d, _, os⟩) (env := ksEnv qual scope hp.objs.size fI (.ref cda) cc) (m := fun x => ([(("self" : Str), Value.ref e), (f, v), (f2, v2)] : List (Str × Value)).reverse.lookup x) (x := f2) (v := v2) hn5 lf2 ?_ hk hkf2 T.fdb2
  refine PySem.ESX.ldL (s := ⟨h5, g, d, _, os⟩) (env := ksEnv qual scope hp.objs.size fI (.ref cda) cc) (m := fun x => ([(("self" : Str), Value.ref e), (f, v), (f2, v2)] : List (Str × Value)).reverse.lookup x) (x := "self") (v := .ref e) hn5 lself ?_ hk hka (by decide)
  obtain ⟨oD, esD, epD, hoD, hdD, _⟩ := hn.count (within1 (f := f) (v := v))
  refine PySem.W.set_plain X5 (ox := { cls := .ref C, dict := some dx, data := .fields #[.ref (h2.push (kxs_mw initId e)).objs.size, .none, .none, .none, .bool false, .none] }) (od := some oD) ⟨hx, rfl, rfl, hoD⟩ T.sa ?_
  refine exc_osaB_old X5 hx hn within1 (by simp) cd (fun self => refsT_pass XF.pass self (.ref C :: bm) hbm) ((refsT_contains "object" (.ref C :: bm) hbm).trans XF.ob) rfl T.no2 (fun h6 tk6 k6 hn6 => ?_)
  have ne6 : e ≠ dx := fun z => dne z.symm
  exact wpAt_of_wpAny (wpAny_execs_nil (hq h6 tk6 dx _ (fun b o hb ho => k6 b o (fun z => by
    have h1 := Heap.lt_size ho
    rw [z] at h1
    exact absurd h1 (Nat.not_lt.mpr (Nat.le_trans (Nat.le_of_lt lt4) dn))) (k5 b o hb (kAll b o hb ho))) (Nat.le_trans (Nat.le_of_lt lt4) dn) dne (k6 _ _ ne6 hx) hn6))
/-- its promise -/
def spInit2 (C : Addr) (f f2 : Str) : L2.Sp := fun vs H Q _ => ∃ a y y2, vs = [.ref a, y, y2] ∧ H a = some (L2.exo a C none) ∧ ∀ dx, H dx = none → dx ≠ a → Q .non (L2.upd (L2.upd H dx (L2.exd dx [(f, y), (f2, y2)])) a (L2.exo a C (some dx)))
open L2 in
theorem relO_two {f f2 : Str} {y y2 : L2.V} {u u2 : Value} (ff : f2 ≠ f) (r1 : RelV y u) (r2 : RelV y2 u2) (g : Str) : RelO (([(f, y), (f2, y2)] : List (Str × L2.V)).lookup g) (if g = f2 then some u2 else if g = f then some u else none) := by
  rw [L2.lookup_put, L2.lookup_put]
  by_cases z : g = f
  · have : g ≠ f2 := fun e => ff (e.symm.trans z)
    rw [if_pos z, if_neg this, if_pos z]; exact r1
  · rw [if_neg z, if_neg z]
    by_cases z2 : g = f2
    · rw [if_pos z2, if_pos z2]; exact r2
    · rw [if_neg z2, if_neg z2]; exact True.intro
open L2 in
theorem init_fnB2 (XF : XbF B newId initId tl) (T : IniB2 B newId initId tl K prog C fI f f2) {mg : Str → Option Value} {base : Heap} {CX : CXT} {k : Nat} (hmg : mg "super" = none) : ∃ fd, (∃ oc od osl, K.lookup fI = some ⟨oc, od, .func fd, osl⟩) ∧ L2.Binds K fd ["self", f, f2] [] ∧ FnOk prog w K mg base CX (k + 1) fI fd ["self", f, f2] (spInit2 C f f2) := by
  obtain ⟨oc, od, qual, params, scope, dV, kV, doc, pm, an, cda, ct, cc, osl, p0, p1, p2, p3, p4, p5, p6, p7, p8, p9, p10, p11, p12, hfn, hcd, _, _, _, hbind, _⟩ := T.fn
  refine ⟨_, ⟨_, _, _, hfn⟩, fun s us KX hl => ?_, fun vs H Q E h => ?_, fun A outer s H args us vs Q E hr e0 hb r hsp => ?_⟩
  · rw [List.append_nil] at hl
    match us, hl with
    | [a, b, c], _ => exact BindsTo.of_eq (hbind a b c)
  · obtain ⟨a, y, y2, rfl, _⟩ := h
    rfl
  · obtain ⟨a, y, y2, rfl, ha, hq⟩ := hsp
    cases r with
    | @cons _ u0 _ ur r0 r1 =>
      cases r1 with
      | @cons _ u1 _ ur1 r1 r2 =>
        obtain ⟨u2, r2', rfl⟩ : ∃ u2, RelV y2 u2 ∧ ur1 = [u2] := by
          cases r2 with
          | cons q1 q2 => cases q2; exact ⟨_, q1, rfl⟩
        obtain rfl : u0 = Value.ref a := r0
        obtain ⟨t1, ho⟩ := exo_at e0.hok ha
        obtain ⟨mb, hb1, hb2⟩ := e0.mod.blt
        have bk : ∀ b o, base.get? b = some o → s.heap.get? b = some o := fun b o e => (e0.bs b o e).1
        have aK : K.lookup a = none := by
          cases z : K.lookup a with
          | none => rfl
          | some o =>
            have := (e0.bs a o (e0.mod.kin _ _ z)).2
            rw [ha] at this
            cases this
        obtain ⟨hp, g, d, t, os⟩ := s
        refine init_runB2 XF T ⟨_, _, _, hfn⟩ hb (e0.mod.kin.keeps bk) hr.depth (e0.mod.nolimit.keeps bk) (e0.mod.glob.keeps bk) hmg (hb1.keeps bk) ((hb2 _ (by decide)).trans (by decide +kernel)) ho aK (fun h' tk' dx t2 kp dn dne hx hn => ?_)
        have hnd : H dx = none := e0.hok.fresh dn
        refine ⟨.non, _, rfl, e0.bare, ⟨fun b o q n _ _ => kp b o (fun z => by rw [z, ha] at n; cases n) q, fun b o q n hf _ => ⟨o.slots, kp b o (fun z => by rw [z, ha] at n; cases n) q⟩, fun b o q n _ => ?_, fun b o q _ => ?_, fun b xs q => ?_, fun b o v q => ?_, fun b ps q => ?_⟩, fun b o q => ?_, rfl, hq dx hnd dne⟩
        · have nd : b ≠ dx := Nat.ne_of_lt (Nat.lt_of_lt_of_le (Heap.lt_size q) dn)
          rw [upd_ne (fun z => by rw [z, ha] at n; cases n), upd_ne nd]; exact n
        · by_cases z : b = a
          · rw [z]; exact ⟨_, hx⟩
          · exact ⟨o, kp b o z q⟩
        · rw [upd_ne (at_ne ha q exo_tup), upd_ne (ne_of_none q hnd)]; exact q
        · rw [upd_ne (at_ne ha q exo_frz), upd_ne (ne_of_none q hnd)]; exact q
        · exact ⟨#[], by rw [upd_ne (at_ne ha q exo_tbl), upd_ne (ne_of_none q hnd), q]; simp⟩
        · by_cases za : b = a
          · subst za
            rw [upd_same] at q
            cases q
            exact exo_ok hx
          · rw [upd_ne za] at q
            by_cases zd : b = dx
            · subst zd
              rw [upd_same] at q
              cases q
              exact exd_ok hn (relO_two T.ff r1 r2')
            · rw [upd_ne zd] at q
              exact (e0.hok b o q).stay (fun c v hc z => kp c v (by
                  rcases hc with hc | hc
                  · rw [hc]; exact za
                  · exact at_ne ha hc exo_own) z)
                (fun c hc => by rw [upd_ne (at_ne ha hc exo_own), upd_ne (ne_of_none hc hnd)]; exact hc) (fun c xs hc => by rw [upd_ne (at_ne ha hc exo_tup), upd_ne (ne_of_none hc hnd)]; exact hc)
end
end Exb
open PySem PySem.Spec PySem.Calls PyProof.Rows PySem.W
open L2 (exo exd tMkO)
/-- what the written part says of the own exception class c, whose __init__(self, f) keeps f -/
def ExKB2 (P : Program) (K : PySem.W.Frag) (mg : Str → Option Value) (c f f2 : Str) : Prop :=
  ∃ B newId initId tl fI, Exb.XbF B newId initId tl ∧ Exb.IniB2 B newId initId tl K P (He.ga K c) fI f f2 ∧ PySem.W.findIn K (.ref (He.ga K c)) "__init__" = some (some (.ref fI)) ∧ PySem.W.typeIn K (.ref fI) = some (.type "function") ∧ Exb.OexB newId tl K (He.ga K c) ∧ mg c = some (.ref (He.ga K c)) ∧ mg "super" = none
def mRaise2 (c f f2 : Str) (m m2 : M D) : MS := fun env h => (m env h).then fun d h1 => (m2 env h1).then fun d2 h2 => .exc c [(f, d), (f2, d2)] h2
section
variable {X : L2.Cx} {K : PySem.W.Frag} {E : L2.XK} {k : Nat} {c f f2 : Str} {e e2 : Expr} {te te2 : L2.TE} {me me2 : M D} {p pos pos' : Pos}
theorem raise_heap2 {H : L2.Hp} {a dx C : Addr} {fs : List (Str × L2.V)} (ha : H a = none) (hx : H dx = none) (n : dx ≠ a) :
    L2.upd (L2.del (L2.upd (L2.upd (L2.upd H a (exo a C none)) dx (exd dx fs)) a (exo a C (some dx))) a) dx (.xd fs) = L2.upd H dx (.xd fs) := by
  funext b
  by_cases z : b = dx
  · subst z; rw [L2.upd_same, L2.upd_same]
  · rw [L2.upd_ne z, L2.upd_ne z]
    by_cases y : b = a
    · subst y; rw [L2.del_same, ha]
    · rw [L2.del_ne y, L2.upd_ne y, L2.upd_ne z, L2.upd_ne y]
end
end Ab

/-! C(e), C an own exception class, as a value. -/
namespace Ab
open PySem PySem.Spec PySem.Calls PyProof.Rows PySem.W
open L2 (exo exd tMkO)
/-- what is made stands as a value -/
def tVal (t : L2.St → L2.Hp → L2.XK → Prop) : L2.TE := fun σ H Q => t σ H fun cls d H' => ∃ C, cls = .ref C ∧ ∀ a, H' a = none → Q (.ref a) (L2.upd H' a (XvO a C d))
theorem pe_mk {X : L2.Cx} {e : Expr} {t : L2.St → L2.Hp → L2.XK → Prop} (h : L2.PMk X e t) : L2.PE X e (tVal t) := by
  refine ⟨fun pins s σ H Q I q => ?_⟩
  refine wpAny_mono (h pins s σ H _ I q) (fun u s1 hu => ?_) fun _ _ x => x
  obtain ⟨a, oe, vs, sI, H', cls, d, rfl, J, k, hne, ha, hz, hd, h1, na, os, ag, r, C, rfl, q2⟩ := hu
  have J2 := J.call (ch := []) (h' := s1.heap) (g' := s1.gens) (t' := s1.toks) (d' := s1.drawn) (H' := L2.upd H' a (XvO a C d)) (L2.Un.laidN k hne na) (J.hok.laidN k na (Ex.xvO_ok ha hz hd)) ag (fun _ z => nomatch z)
  have L : L2.Inv X pins σ (L2.upd H' a (XvO a C d)) s1 := by
    obtain ⟨a1, a2, a3, a4, a5⟩ := s1
    obtain rfl : a5 = sI.os := os
    exact J2
  exact ⟨.ref a, _, L, rfl, q2 a na⟩
def mExv (c f : Str) (m : M D) : M D := fun env h => (m env h).bind fun d h1 => .ok (.exv c [f] [d]) h1
def mExv0 (c : Str) : M D := fun _ h => .ok (.exv c [] []) h
section
variable {X : L2.Cx} {K : PySem.W.Frag} {E : L2.XK} {k : Nat} {c f : Str} {e : Expr} {te : L2.TE} {me : M D} {p pos' : Pos}
theorem je_exv (T : ExKB X.prog K X.mg c f) (hr : L2.Room (k + 2) X.A) (ha : JE K E X e te me) (hg : L2.Gl X c := by rfl)
    (hdb : (c == ("__debug__" : Str)) = false := by decide) (he : starEach [e] X.env = (false, eval e X.env) :: starEach [] X.env := by rfl) (hpl : (backTo pos' (starEach [] X.env)).any (·.1) = false := by rfl) :
    JE K E X (.Call (.Name c p) [e] [] pos') (tVal (tMkO (He.ga K c) (Ex.spInit (He.ga K c) f) [] (L2.tCons te L2.tNil))) (mExv c f me) := by
  obtain ⟨hK, hp, hq⟩ := ha
  subst hK
  obtain ⟨B, newId, initId, tl, fI, XF, hI, iC, tI, hO, hm, hs⟩ := T
  obtain ⟨fd, lk, hb, F⟩ := Exb.init_fnB XF (K := X.K) (prog := X.prog) (w := X.w) (base := X.base) (CX := fun _ _ _ _ _ _ => False) (k := k) hI hs
  refine ⟨rfl, pe_mk (pmk_oexB XF hO iC tI F hr hb .nil (fun _ _ _ _ _ _ _ z => z.elim) hg hm (L2.pa_cons hp L2.pa_nil he) hdb he hpl), fun ρ P σ H env h s re Q pp => ?_⟩
  refine hq ρ P σ H env h s re _ (Post.bind pp fun d h1 ρ1 P1 H1 v t1 s1 w1 p1 => ?_)
  refine ⟨by simp, fun a ha => ⟨a, v, rfl, L2.upd_same, fun dx hd n => ?_⟩⟩
  have hx : H1 dx = none := by rw [L2.upd_ne n] at hd; exact hd
  refine ⟨rfl, dx, [(f, v)], L2.upd_same, by rw [L2.upd_ne n, L2.upd_same], hx, ?_⟩
  rw [raise_heap ha hx n]
  refine ⟨_, rfl, fun a' na => ?_⟩
  obtain ⟨s2, t2⟩ := s1.pure hx (.xd [(f, v)])
  obtain ⟨s3, t3, r3⟩ := exv_rep (c := c) (fs := [(f, d)]) s2 (.inr ⟨dx, [(f, v)], rfl, L2.upd_same, rfl, .cons (w1.step t2) .nil⟩) na
  exact p1 ρ1 _ _ _ (t2.trans t3) s3 r3
theorem je_exv0 (T : ExK0 K X.mg c) (hK : X.K = K := by rfl) (hg : L2.Gl X c := by rfl) (hdb : (c == ("__debug__" : Str)) = false := by decide) :
    JE K E X (.Call (.Name c p) [] [] pos') (tVal fun _ H Q => Q (.ref (He.ga K c)) none H) (mExv0 c) := by
  subst hK
  obtain ⟨B, newId, initId, tl, XF, q, kC, sb, ty, hm⟩ := T
  refine ⟨rfl, pe_mk (pmk_own0 XF q hm kC (L2.raises_own sb ty) hg hdb), fun ρ P σ H env h s re Q pp => ⟨_, rfl, fun a na => ?_⟩⟩
  obtain ⟨s3, t3, r3⟩ := exv_rep (c := c) (fs := []) s (.inl ⟨rfl, rfl⟩) na
  exact pp ρ _ _ _ t3 s3 r3
end
end Ab
namespace Ab
open PySem PySem.Spec PySem.Calls PyProof.Rows PySem.W
open L2 (exo exd tMkO)
def mExv2 (c f f2 : Str) (m m2 : M D) : M D := fun env h => (m env h).bind fun d h1 => (m2 env h1).bind fun d2 h2 => .ok (.exv c [f, f2] [d, d2]) h2
section
variable {X : L2.Cx} {K : PySem.W.Frag} {E : L2.XK} {k : Nat} {c f f2 : Str} {e e2 : Expr} {te te2 : L2.TE} {me me2 : M D} {p pos' : Pos}
theorem je_exv2 (T : ExKB2 X.prog K X.mg c f f2) (hr : L2.Room (k + 2) X.A) (ha : JE K E X e te me) (ha2 : JE K E X e2 te2 me2) (hg : L2.Gl X c := by rfl)
    (hdb : (c == ("__debug__" : Str)) = false := by decide) (he : starEach [e, e2] X.env = (false, eval e X.env) :: starEach [e2] X.env := by rfl) (he2 : starEach [e2] X.env = (false, eval e2 X.env) :: starEach [] X.env := by rfl) (hpl : (backTo pos' (starEach [e2] X.env)).any (·.1) = false := by rfl) :
    JE K E X (.Call (.Name c p) [e, e2] [] pos') (tVal (tMkO (He.ga K c) (Exb.spInit2 (He.ga K c) f f2) [] (L2.tCons te (L2.tCons te2 L2.tNil)))) (mExv2 c f f2 me me2) := by
  obtain ⟨hK, hp, hq⟩ := ha
  obtain ⟨_, hp2, hq2⟩ := ha2
  subst hK
  obtain ⟨B, newId, initId, tl, fI, XF, hI, iC, tI, hO, hm, hs⟩ := T
  obtain ⟨fd, lk, hb, F⟩ := Exb.init_fnB2 XF (K := X.K) (prog := X.prog) (w := X.w) (base := X.base) (CX := fun _ _ _ _ _ _ => False) (k := k) hI hs
  refine ⟨rfl, pe_mk (pmk_oexB XF hO iC tI F hr hb .nil (fun _ _ _ _ _ _ _ z => z.elim) hg hm (L2.pa_cons hp (L2.pa_cons hp2 L2.pa_nil he2) he) hdb he hpl), fun ρ P σ H env h s re Q pp => ?_⟩
  refine hq ρ P σ H env h s re _ (Post.bind pp fun d h1 ρ1 P1 H1 v t1 s1 w1 p1 => ?_)
  refine hq2 _ _ _ _ _ _ s1 (re.step t1) _ (Post.bind p1 fun d2 h2 ρ2 P2 H2 v2 t2 s2 w2 p2 => ?_)
  refine ⟨by simp, fun a ha => ⟨a, v, v2, rfl, L2.upd_same, fun dx hd n => ?_⟩⟩
  have hx : H2 dx = none := by rw [L2.upd_ne n] at hd; exact hd
  refine ⟨rfl, dx, [(f, v), (f2, v2)], L2.upd_same, by rw [L2.upd_ne n, L2.upd_same], hx, ?_⟩
  rw [raise_heap2 ha hx n]
  refine ⟨_, rfl, fun a' na => ?_⟩
  obtain ⟨s3, t3⟩ := s2.pure hx (.xd [(f, v), (f2, v2)])
  obtain ⟨s4, t4, r4⟩ := exv_rep (c := c) (fs := [(f, d), (f2, d2)]) s3 (.inr ⟨dx, [(f, v), (f2, v2)], rfl, L2.upd_same, rfl, .cons ((w1.step t2).step t3) (.cons (w2.step t3) .nil)⟩) na
  exact p2 ρ2 _ _ _ (t3.trans t4) s4 r4
end
end Ab

/-! C(f = e): an own exception class called by keywords. -/
namespace PySem
namespace HandSPX
open PySem PySem.Spec PySem.Calls PyProof.Rows PySem.W
section
variable {M : Model} {A : Around} {E : Value → Shared → Prop} {h : Heap} {g : Array GenState} {d : Drawn} {t : Nat} {os : OsState}
variable {nm q : Str} {C N : Addr} {bs bm bmB : List Value} {hdct : Bool} {sn : List Str} {sub : List Value} {ab : Bool} {col : Option Bool} {dd : Option Addr} {k0 k1 k2 k3 k5 : Option Value} {B newId initId : String}
theorem check_new_ownK (F : ExcBaseFacts B newId initId bmB) (hT : ∀ X : String, bm.contains (.type X) = bmB.contains (.type X)) {rest : List Value} {kw : List (Str × Value)} {Q : Unit → Shared → Prop}
    (hC : h.get? C = some (excClassObj nm q C N bs bm hdct sn sub ab col dd k0 k1 k2 k3 k5 newId)) (hq : Q () ⟨h, g, d, t, os⟩) : wpAny M A (checkBuiltinCall newId ⟨.ref C :: rest, kw⟩) Q E ⟨h, g, d, t, os⟩ := by
  have hcont : (Value.ref C :: bm).contains (.type B) = true := by rw [List.contains_cons, hT, F.hasB, Bool.or_true]
  have hstar := F.noStar
  simp only [checkBuiltinCall, F.newKind, F.newSplit, F.newRow]
  repeat (first | refine wpAny_loadPart_at hC ?_ | (refine wpAny_isSubtype_exc hC ?_; rw [hcont]) | refine wpAny_staticBase_exc hC ?_ | refine wpAny_madeBy_exc hC ?_ | simp only [bne_self_eq_false, Bool.false_eq_true, if_false] | wp_step)
  exact hq
end
section
variable {prog : Program} {w : World} {A : Around} {E : Value → Shared → Prop} {R : Result → Shared → Prop} {h : Heap} {g : Array GenState} {d : Drawn} {t : Nat} {os : OsState}
variable {nm q : Str} {C N : Addr} {bs bm bmB : List Value} {hdct : Bool} {sn : List Str} {sub : List Value} {ab : Bool} {col : Option Bool} {dd : Option Addr} {k0 k1 k2 k3 k5 : Option Value} {B newId initId : String}
theorem new_ownK (F : ExcBaseFacts B newId initId bmB) (hT : ∀ X : String, bm.contains (.type X) = bmB.contains (.type X)) {rest : List Value} {kw : List (Str × Value)}
    (hC : h.get? C = some (excClassObj nm q C N bs bm hdct sn sub ab col dd k0 k1 k2 k3 k5 newId))
    (hq : R (.ok (.ret (.ref (h.objs.size + 1)))) ⟨(h.push { cls := .type "tuple", data := .seq rest.toArray }).push
      { cls := .ref C, data := .fields #[.ref h.objs.size, .none, .none, .none, .bool false, .none] }, g, d, t, os⟩) (hrest : rest.length ≤ sizeLine) :
    codeAny (model prog w) A (.builtin newId ⟨.ref C :: rest, kw⟩) R ⟨h, g, d, t, os⟩ := by
  have hends := F.ends
  have hcB : (Value.ref C :: bm).contains (.type B) = true := by rw [List.contains_cons, hT, F.hasB, Bool.or_true]
  have hcA : (Value.ref C :: bm).contains (.type "AttributeError") = false := by rw [List.contains_cons, hT, F.noAttr]; rfl
  have hcN : (Value.ref C :: bm).contains (.type "NameError") = false := by rw [List.contains_cons, hT, F.noName]; rfl
  refine codeAny_builtinAt F.entry ?_
  unfold Builtin.«BaseException.__new__»
  refine wpAt_bind ?_
  show wpAt _ _ _ (stack >>= _) _ _ _
  refine wpAt_bind (wpAt_stack fun p below => wpAt_of_wpAny ?_)
  wp_walk
  refine wpAt_of_wpAny ?_
  rw [F.owner]
  repeat (first | with_reducible refine wpAny_madeHere_exc F.canon hC ?_ | with_reducible refine wpAny_loadPart_at hC ?_ | (with_reducible refine wpAny_isSubtype_exc hC ?_; first | rw [hcB] | rw [hcA] | rw [hcN]) | wp_step)
  show R _ _
  rw [Heap.size_push]
  exact hq
theorem type_call_ownK (F : ExcBaseFacts B newId initId bmB) (hT : ∀ X : String, bm.contains (.type X) = bmB.contains (.type X)) {rest : List Value} {kw : List (Str × Value)} {fI : Addr} {Q : Fin → Shared → Prop} (hkw : kw ≠ [])
    (hC : h.get? C = some (excClassObj nm q C N bs bm hdct sn sub ab col dd k0 k1 k2 k3 k5 newId))
    (hi : W.Looks (model prog w) h (typeLookup (.ref C) "__init__") (some (.ref fI))) (hb : ∀ self, W.Looks (model prog w) h (bindSpecial (.ref fI) self) (.ref fI, [self])) (hrest : rest.length ≤ sizeLine)
    (hq : codeAny (model prog w) A (.call (.ref fI) ⟨.ref (h.objs.size + 1) :: rest, kw⟩)
      (fun r s' => match r with | .ok (.ret v) => v = .none ∧ Q (.done (.ret (.ref (h.objs.size + 1)))) s' | .ok _ => False | .error e => E e s')
      ⟨(h.push (W.kdv_tup rest)).push (excO C h.objs.size), g, d, t, os⟩) :
    wpAny (model prog w) A (Builtin.«type.__call__» ⟨.ref C :: rest, kw⟩) Q E ⟨h, g, d, t, os⟩ := by
  repeat (first | with_reducible refine wpAny_loadPart_at hC ?_ | with_reducible refine wpAny_madeBy_exc hC ?_ | wp_step)
  refine codeAny_call_builtin_code (Code.quiet_builtin _ F.quiet) (check_new_ownK F hT hC ?_)
  refine new_ownK F hT hC ?_ hrest
  show wpAny _ _ _ _ _ _
  have k : ∀ b o, h.get? b = some o → ((h.push (W.kdv_tup rest)).push (excO C h.objs.size)).get? b = some o := fun b o e => Heap.get?_push_of_some _ (Heap.get?_push_of_some _ e)
  have hC₁ := k _ _ hC
  have hget : ((h.push (W.kdv_tup rest)).push (excO C h.objs.size)).get? (h.objs.size + 1) = some (excO C h.objs.size) := by heap_get
  have hcC : (Value.ref C :: bm).contains (.ref C) = true := by simp
  have i1 := hi.keeps k
  have b1 := (hb (.ref (h.objs.size + 1))).keeps k
  unfold isInstance
  repeat (first | with_reducible refine wpAny_loadPart_at hget ?_ | (with_reducible refine wpAny_isSubtype_exc hC₁ ?_; rw [hcC]) | wp_step)
  show wpAny _ _ (typeLookup (.ref C) _) _ _ _
  refine i1.at ?_
  refine wpAny_holding (wpAny_bind (b1.at ?_))
  refine wpAny_bind (wpAny_call (codeAny_mono hq fun r s' z => ?_))
  rcases r with e | (v | _ | _ | _) <;> first | exact z | exact z.elim | skip
  obtain ⟨rfl, z⟩ := z
  first
    | exact wpAny_pure (wpAny_pure z)
    | (wp_walk; exact z)
theorem call_ownK (F : ExcBaseFacts B newId initId bmB) (hT : ∀ X : String, bm.contains (.type X) = bmB.contains (.type X)) {rest : List Value} {kw : List (Str × Value)} {fI : Addr} (hkw : kw ≠ [])
    (hC : h.get? C = some (excClassObj nm q C N bs bm hdct sn sub ab col dd k0 k1 k2 k3 k5 newId))
    (hi : W.Looks (model prog w) h (typeLookup (.ref C) "__init__") (some (.ref fI))) (hb : ∀ self, W.Looks (model prog w) h (bindSpecial (.ref fI) self) (.ref fI, [self])) (hrest : rest.length ≤ sizeLine)
    (hq : codeAny (model prog w) (A.under (.builtin "type.__call__" ⟨.ref C :: rest, kw⟩)) (.call (.ref fI) ⟨.ref (h.objs.size + 1) :: rest, kw⟩) (W.InitBack (h.objs.size + 1) R)
      ⟨(h.push (W.kdv_tup rest)).push (excO C h.objs.size), g, d, t, os⟩) :
    codeAny (model prog w) A (.call (.ref C) ⟨rest, kw⟩) R ⟨h, g, d, t, os⟩ := by
  have f1 := tc_lookup
  have f2 := tc_bind (.ref C)
  have hTy : (⟨h, g, d, t, os⟩ : Shared).TypeIs (.ref C) "type" := ⟨_, hC, rfl⟩
  refine codeAny_of_tree ?_
  show wpAny _ _ (callAny (.ref C) _) _ _ _
  repeat (any_goals (first | assumption | with_reducible refine wpAny_loadPart_at hC ?_ | wp_step))
  refine ⟨rfl, ?_⟩
  refine codeAny_call_builtin_at (Code.quiet_builtin _ (by decide +kernel)) entry_typeCall (wpAny_check_type_call_sub hC (type_call_ownK F hT hkw hC hi hb hrest ?_))
  refine codeAny_mono hq fun r s' z => ?_
  rcases r with e | (v | _ | _ | _) <;> exact z
end
end HandSPX
end PySem
namespace Ab
open PySem PySem.Spec PySem.Calls PyProof.Rows PySem.W
open L2 (exo exd)
/-- how __init__ of the class takes its keywords -/
def KwI (K : PySem.W.Frag) (c : Str) (ks ps : List Str) (g : {α : Type} → List α → List α) : Prop := ∀ fI fd, findIn K (.ref (He.ga K c)) "__init__" = some (some (.ref fI)) → (∃ oc od osl, K.lookup fI = some ⟨oc, od, .func fd, osl⟩) →
  ∀ (a : Value) (ws : List Value), ws.length = ks.length → bindArgs fd ⟨[a], ks.zip ws⟩ = pure (ps.zip (a :: g ws))
def tMkK (C : Addr) (n : Nat) (sp : L2.Sp) (g : {α : Type} → List α → List α) (tk : L2.TA) : L2.St → L2.Hp → L2.XK → Prop := fun σ H Q => tk σ H fun zs H1 => zs.length = n ∧ ∀ a, H1 a = none → sp (.ref a :: g zs) (L2.upd H1 a (exo a C none))
  (fun v H2 => v = .non ∧ ∃ (d : Addr) (fs : List (Str × L2.V)), H2 a = some (exo a C (some d)) ∧ H2 d = some (exd d fs) ∧ H1 d = none ∧ Q (.ref C) (some d) (L2.upd (L2.del H2 a) d (.xd fs))) (fun _ _ _ => False)
section
open L2 Exb
variable {X : Cx} {B newId initId : String} {tl : List Value} {tk : TA} {p pos : Pos} {ks : List Str} {kws : List Keyword} {g : {α : Type} → List α → List α}
theorem pmk_oexK {CX : CXT} {x : Str} {C fI : Addr} {k : Nat} {fd : FuncData} {ps : List Str} {sp : Sp} (XF : XbF B newId initId tl) (T : OexB newId tl X.K C) (iC : PySem.W.findIn X.K (.ref C) "__init__" = some (some (.ref fI))) (tI : PySem.W.typeIn X.K (.ref fI) = some (.type "function"))
    (F1 : FnOk X.prog X.w X.K X.mg X.base CX k fI fd ps sp) (hr : Room (k + 1) X.A) (hb : ∀ (a : Value) (ws : List Value), ws.length = ks.length → bindArgs fd ⟨[a], ks.zip ws⟩ = pure (ps.zip (a :: g ws)))
    (hgr : ∀ {vs : List V} {us : List Value}, vs.length = ks.length → Vals vs us → Vals (g vs) (g us)) (h0 : ks ≠ []) (hx : Passes CX X (fun _ _ _ => False)) (hg : Gl X x) (hm : X.mg x = some (.ref C)) (hp : PK X kws tk)
    (hks : (backToKw pos (keywordEach kws X.env)).filterMap (·.1) = ks)
    (hall : (backToKw pos (keywordEach kws X.env)).all (·.1.isSome) = true) (hdb : (x == ("__debug__" : Str)) = false)
    (hpl : ((backTo pos (starEach [] X.env)).any (·.1) || (backToKw pos (keywordEach kws X.env)).any (·.1.isNone)) = false) :
    PMk X (.Call (.Name x p) [] kws pos) (tMkK C ks.length sp g tk) := by
  intro pins s σ H Q I h
  obtain ⟨nm, q, N, bs, bm, sn, sub, ab, col, dd, k0, k1, k2, k3, k5, hC, hbm⟩ := T.cls
  refine wpAny_Call_Name_kw (ld_glob I hg hm ?_ hdb)
  refine PySem.W.callWith_KW0 (h₀ := X.base) I.ok.mod.kin T.kC hall ?_ hpl
  refine thn (hp.run pos pins s σ H _ I h) fun ws s1 ⟨zs, H1, I1, rz, lz, q1⟩ => ⟨I1.kIn, ?_⟩
  rw [hks]
  show wpAny _ _ (call (.ref C) [] (ks.zip ws)) _ _ _
  obtain ⟨hp, gg, dr, tk, os⟩ := s1
  have lw : ws.length = ks.length := rz.length.symm.trans lz
  have hk0 : ks.zip ws ≠ [] := by
    cases ks with
    | nil => exact absurd rfl h0
    | cons a l =>
      cases ws with
      | nil => simp at lw
      | cons b m => simp
  have hsz : hp.objs.size ≤ hp.objs.size + 1 := Nat.le_succ _
  have hn : H1 (hp.objs.size + 1) = none := I1.hok.fresh hsz
  have hq := q1 (hp.objs.size + 1) hn
  have kk : ∀ b o, hp.get? b = some o → ((hp.push (PySem.W.kdv_tup [])).push (PySem.HandSPX.excO C hp.objs.size)).get? b = some o := fun b o e => Heap.get?_push_of_some _ (Heap.get?_push_of_some _ e)
  have hget : ((hp.push (PySem.W.kdv_tup [])).push (PySem.HandSPX.excO C hp.objs.size)).get? (hp.objs.size + 1) = some (PySem.HandSPX.excO C hp.objs.size) := by heap_get
  have I2 : Inv X pins σ (upd H1 (hp.objs.size + 1) (exo (hp.objs.size + 1) C none)) ⟨(hp.push (PySem.W.kdv_tup [])).push (PySem.HandSPX.excO C hp.objs.size), gg, dr, tk, os⟩ :=
    I1.laid (t' := tk) (a := hp.objs.size + 1) (o := exo (hp.objs.size + 1) C none) (h' := (hp.push (PySem.W.kdv_tup [])).push (PySem.HandSPX.excO C hp.objs.size)) kk hsz (exo_ok hget)
  have r2 : Vals (V.ref (hp.objs.size + 1) :: g zs) (Value.ref (hp.objs.size + 1) :: g ws) := .cons rfl (hgr lz rz)
  refine wpAny_call (PySem.HandSPX.call_ownK XF.F (fun Y => refsT_contains Y bm hbm) hk0 (I1.kIn _ _ hC) (PySem.W.looks_findIn I1.kIn iC) (fun self => PySem.W.bind_fn I1.kIn self tI) (Nat.zero_le _)
    (codeAny_mono (F1.run _ X.stack _ _ ⟨[Value.ref (hp.objs.size + 1)], ks.zip ws⟩ (Value.ref (hp.objs.size + 1) :: g ws) _ _ (fun _ _ _ => False) (hr.make C [] (ks.zip ws)) (I2.env0.make C [] (ks.zip ws)) (.of_eq (hb _ ws lw)) r2 hq) fun r s' hq' => ?_))
  cases r with
  | error er => exact hx pins σ _ _ er s' I2 hq'
  | ok fl =>
    cases fl with
    | ret u =>
      obtain ⟨v, H2, os2, bare2, un2, hok2, rv, ev, d, fs, ea, ed, hd1, q2⟩ := hq'
      subst ev
      obtain ⟨h2, g2, d2, t2, os'⟩ := s'
      exact ⟨rv, mk_end (raises_own T.exC T.tyC) I1 hsz kk un2 hok2 os2 bare2 ea ed hd1 q2⟩
    | next => exact False.elim hq'
    | brk => exact False.elim hq'
    | cont => exact False.elim hq'
end
def mExvK (c f : Str) (m : M (List D)) : M D := fun env h => (m env h).bind fun ds h1 => match ds with
  | [d] => .ok (.exv c [f] [d]) h1
  | _ => .bad
/-- C(f2 = .., f = ..) -/
def mExvK2 (c f f2 : Str) (m : M (List D)) : M D := fun env h => (m env h).bind fun ds h1 => match ds with
  | [d2, d] => .ok (.exv c [f, f2] [d, d2]) h1
  | _ => .bad
section
variable {X : L2.Cx} {K : PySem.W.Frag} {E : L2.XK} {k : Nat} {c f f2 : Str} {kws : List Keyword} {tk : L2.TA} {mk : M (List D)} {p pos : Pos}
theorem je_exvK (T : ExKB X.prog K X.mg c f) (W : KwI K c [f] ["self", f] (fun l => l)) (hr : L2.Room (k + 2) X.A) (ha : JK K E X kws tk mk) (hks : (backToKw pos (keywordEach kws X.env)).filterMap (·.1) = [f] := by rfl) (hg : L2.Gl X c := by rfl)
    (hall : (backToKw pos (keywordEach kws X.env)).all (·.1.isSome) = true := by rfl) (hdb : (c == ("__debug__" : Str)) = false := by decide)
    (hpl : ((backTo pos (starEach [] X.env)).any (·.1) || (backToKw pos (keywordEach kws X.env)).any (·.1.isNone)) = false := by rfl) :
    JE K E X (.Call (.Name c p) [] kws pos) (tVal (tMkK (He.ga K c) 1 (Ex.spInit (He.ga K c) f) (fun l => l) tk)) (mExvK c f mk) := by
  obtain ⟨hK, hp, hq⟩ := ha
  subst hK
  obtain ⟨B, newId, initId, tl, fI, XF, hI, iC, tI, hO, hm, hs⟩ := T
  obtain ⟨fd, lk, hb, F⟩ := Exb.init_fnB XF (K := X.K) (prog := X.prog) (w := X.w) (base := X.base) (CX := fun _ _ _ _ _ _ => False) (k := k) hI hs
  refine ⟨rfl, pe_mk (pmk_oexK (ks := [f]) (g := fun l => l) XF hO iC tI F hr (W fI fd iC lk) (fun _ r => r) (by simp) (fun _ _ _ _ _ _ _ z => z.elim) hg hm hp hks hall hdb hpl), fun ρ P σ H env h s re Q pp => ?_⟩
  refine hq ρ P σ H env h s re _ (Post.bind pp fun ds h1 ρ1 P1 H1 vs t1 s1 w1 p1 => ?_)
  cases w1 with
  | nil => exact p1.elim
  | @cons d v ds vs w1 wr =>
    cases wr with
    | cons _ _ => exact p1.elim
    | nil =>
      refine ⟨rfl, fun a ha => ⟨a, v, rfl, L2.upd_same, fun dx hd n => ?_⟩⟩
      have hx : H1 dx = none := by rw [L2.upd_ne n] at hd; exact hd
      refine ⟨rfl, dx, [(f, v)], L2.upd_same, by rw [L2.upd_ne n, L2.upd_same], hx, ?_⟩
      rw [raise_heap ha hx n]
      refine ⟨_, rfl, fun a' na => ?_⟩
      obtain ⟨s2, t2⟩ := s1.pure hx (.xd [(f, v)])
      obtain ⟨s3, t3, r3⟩ := exv_rep (c := c) (fs := [(f, d)]) s2 (.inr ⟨dx, [(f, v)], rfl, L2.upd_same, rfl, .cons (w1.step t2) .nil⟩) na
      exact p1 ρ1 _ _ _ (t2.trans t3) s3 r3
theorem je_exvK2 (T : ExKB2 X.prog K X.mg c f f2) (W : KwI K c [f2, f] ["self", f, f2] (fun l => l.reverse)) (hr : L2.Room (k + 2) X.A) (ha : JK K E X kws tk mk) (hks : (backToKw pos (keywordEach kws X.env)).filterMap (·.1) = [f2, f] := by rfl) (hg : L2.Gl X c := by rfl)
    (hall : (backToKw pos (keywordEach kws X.env)).all (·.1.isSome) = true := by rfl) (hdb : (c == ("__debug__" : Str)) = false := by decide)
    (hpl : ((backTo pos (starEach [] X.env)).any (·.1) || (backToKw pos (keywordEach kws X.env)).any (·.1.isNone)) = false := by rfl) :
    JE K E X (.Call (.Name c p) [] kws pos) (tVal (tMkK (He.ga K c) 2 (Exb.spInit2 (He.ga K c) f f2) (fun l => l.reverse) tk)) (mExvK2 c f f2 mk) := by
  obtain ⟨hK, hp, hq⟩ := ha
  subst hK
  obtain ⟨B, newId, initId, tl, fI, XF, hI, iC, tI, hO, hm, hs⟩ := T
  obtain ⟨fd, lk, hb, F⟩ := Exb.init_fnB2 XF (K := X.K) (prog := X.prog) (w := X.w) (base := X.base) (CX := fun _ _ _ _ _ _ => False) (k := k) hI hs
  refine ⟨rfl, pe_mk (pmk_oexK (ks := [f2, f]) (g := fun l => l.reverse) XF hO iC tI F hr (W fI fd iC lk) (fun {vs us} l r => ?_) (by simp) (fun _ _ _ _ _ _ _ z => z.elim) hg hm hp hks hall hdb hpl), fun ρ P σ H env h s re Q pp => ?_⟩
  · cases r with
    | nil => exact .nil
    | cons r1 r =>
      cases r with
      | nil => exact .cons r1 .nil
      | cons r2 r =>
        cases r with
        | nil => exact .cons r2 (.cons r1 .nil)
        | cons r3 r => simp at l
  refine hq ρ P σ H env h s re _ (Post.bind pp fun ds h1 ρ1 P1 H1 vs t1 s1 w1 p1 => ?_)
  cases w1 with
  | nil => exact p1.elim
  | @cons d2 v2 ds vs w2 wr =>
    cases wr with
    | nil => exact p1.elim
    | @cons d v ds vs w1 wr =>
      cases wr with
      | cons _ _ => exact p1.elim
      | nil =>
        refine ⟨rfl, fun a ha => ⟨a, v, v2, rfl, L2.upd_same, fun dx hd n => ?_⟩⟩
        have hx : H1 dx = none := by rw [L2.upd_ne n] at hd; exact hd
        refine ⟨rfl, dx, [(f, v), (f2, v2)], L2.upd_same, by rw [L2.upd_ne n, L2.upd_same], hx, ?_⟩
        rw [raise_heap2 ha hx n]
        refine ⟨_, rfl, fun a' na => ?_⟩
        obtain ⟨s2, t2⟩ := s1.pure hx (.xd [(f, v), (f2, v2)])
        obtain ⟨s3, t3, r3⟩ := exv_rep (c := c) (fs := [(f, d), (f2, d2)]) s2 (.inr ⟨dx, [(f, v), (f2, v2)], rfl, L2.upd_same, rfl, .cons (w1.step t2) (.cons (w2.step t2) .nil)⟩) na
        exact p1 ρ1 _ _ _ (t2.trans t3) s3 r3
end
end Ab

/-! Dicts with texts as keys and whole numbers as values that nobody changes, and what repr says of them. -/
namespace Ab
open PySem PySem.Spec L2
open L2H (RoomH)
abbrev dkV (kvs : List (Str × Int)) : List (Key × V) := kvs.map fun p => (Sum.inr p.1, V.int p.2)
def mDk (kvs : List (Str × Int)) : M D := fun _ h => .ok (.dk kvs) h
section
variable {X : L2.Cx} {K : PySem.W.Frag} {E : XK} {ρ ρ' ρ1 : Ro} {P H P' H' P1 H1 : Hp} {k : Nat} {tk tv : TE} {mk mv : M D} {kx vx : Expr} {pos : Pos} {x : Str} {i : Int}
theorem sd_dk0 : Sd K (RV K) E tDNewK (mDk []) := fun ρ P σ H env h s re Q p => by
  intro a hp
  obtain ⟨s1, t⟩ := s.pure hp (.dK [])
  exact p _ _ _ _ t s1 (.dk upd_same)
theorem je_dk0 (hK : X.K = K := by rfl) : JE K E X (.Dict [] [] pos) tDNewK (mDk []) := ⟨hK, pe_dnewK, sd_dk0⟩
theorem sd_dk1 (hk : Sd K (RV K) E tk (mC (.str x))) (hv : Sd K (RV K) E tv (mC (.int i))) : Sd K (RV K) E (tDisp [(tk, tv)]) (mDk [(x, i)]) := fun ρ P σ H env h s re Q p => by
  intro d hd
  obtain ⟨sD, tD⟩ := s.own hd (.dK [])
  show tk σ (upd H d (.dK [])) _
  refine hk ρ P σ _ env h sD (re.step tD) _ (fun ρ1 P1 H1 v t1 s1 w1 => hv _ _ _ _ env _ s1 ((re.step tD).step t1) _ (fun ρ2 P2 H2 u t2 s2 w2 => ?_))
  cases w1
  cases w2
  have t12 := t1.trans t2
  have ed : (upd H d (.dK [])) d = some (.dK []) := upd_same
  have nr0 : NoR ρ d := s.noR hd
  have np0 : P d = none := s.noP hd
  have np : P2 d = none := t12.noP np0 (.inr ⟨_, ed, rfl⟩)
  have nr : NoR ρ2 d := t12.noR (by rw [ed]; simp) nr0
  have eD : H2 d = some (.dK []) := t12.keep _ _ ed nr0 ⟨rfl, .inl np0⟩
  refine ⟨eD, [(Sum.inr x, V.int i)], rfl, by simp, ?_⟩
  have em : mergeK [] [((Sum.inr x : Key), V.int i)] = dkV [(x, i)] := rfl
  rw [em]
  have tt : Step ρ P H ρ2 P2 H2 := tD.trans t12
  have st := tt.loose (o := .dK (dkV [(x, i)])) hd
  have sr := s2.loose (o := .dK (dkV [(x, i)])) np nr (fun u q => by rw [eD] at q; cases q; exact noC_of rfl)
  obtain ⟨t3, s3, _⟩ := frz_new st sr hd np nr upd_same
  exact p _ _ _ _ t3 s3 (.dk upd_same)
theorem je_dk1 (hk : JE K E X kx tk (mC (.str x))) (hv : JE K E X vx tv (mC (.int i))) : JE K E X (.Dict [some kx] [vx] pos) (tDisp [(tk, tv)]) (mDk [(x, i)]) := by
  obtain ⟨hK, hp, hq⟩ := hk
  obtain ⟨_, hp2, hq2⟩ := hv
  exact ⟨hK, pe_disp (pps_cons hp hp2 pps_nil) rfl rfl (by simp) (by simp), sd_dk1 hq hq2⟩
/-! repr -/
def dkPy (kvs : List (Str × Int)) : PyData := .dict (kvs.map fun p => (.str p.1, .int p.2))
def dkOk (kvs : List (Str × Int)) : Bool := (dkPy kvs).showable && (decide ((dkPy kvs).shown.length ≤ sizeLine) && decide ((dkPy kvs).depth ≤ 64))
/-- a tuple of one such dict -/
def dkOk1 (kvs : List (Str × Int)) : Bool := (PyData.tuple [dkPy kvs]).showable && (decide ((PyData.tuple [dkPy kvs]).shown.length ≤ sizeLine) && decide ((PyData.tuple [dkPy kvs]).depth ≤ 64))
def rReprX (K : PySem.W.Frag) : List V → Hp → VK → Prop := fun xs H Q => (∃ a kvs, xs = [.ref a] ∧ H a = some (.dK (dkV kvs)) ∧ dkOk kvs = true ∧ Q (.str (dkPy kvs).shown) H) ∨
  (∃ a b kvs, xs = [.ref a] ∧ SqT K H a [.ref b] ∧ H b = some (.dK (dkV kvs)) ∧ dkOk1 kvs = true ∧ Q (.str (PyData.tuple [dkPy kvs]).shown) H) ∨ rReprU K xs H Q
theorem key_str {x : Str} {v : Value} (b : keyIs (Sum.inr x) v = true) : ∃ t, v = Value.str x t := by
  rcases keyIs_shape b with ⟨j, t, e1, e2⟩ | ⟨y, t, e1, e2⟩
  · cases e1
  · cases e1; exact ⟨t, e2⟩
theorem reads_dk {P : Program} {w : World} {h : Heap} : ∀ {kvs : List (Str × Int)} {es : List DictEntry} {vs : List (Key × Value)}, KV (dkV kvs) vs → Pairs (mixKind P w) es vs →
    ReadsAll h (es.map (·.key)) ((kvs.map fun p => ((.str p.1, .int p.2) : PyData × PyData)).map (·.1)) [] ∧ ReadsAll h (es.map (·.val)) ((kvs.map fun p => ((.str p.1, .int p.2) : PyData × PyData)).map (·.2)) []
  | [], _, _, r, q => by
    cases r
    cases q
    exact ⟨.nil, .nil⟩
  | (x, i) :: kvs, _, _, r, q => by
    cases r with
    | cons a r =>
      cases q with
      | cons b c q =>
        obtain ⟨r1, r2⟩ := reads_dk r q
        obtain ⟨a1, a2⟩ := a
        rw [← a1] at b
        obtain ⟨t, e⟩ := key_str (show keyIs (Sum.inr x) _ = true from b)
        obtain ⟨t2, e2⟩ := a2
        refine ⟨?_, ?_⟩
        · rw [List.map_cons, List.map_cons, List.map_cons, e]
          exact ReadsAll.cons (as := []) (bs := []) (Reads.str x t) r1
        · rw [List.map_cons, List.map_cons, List.map_cons, c, e2]
          exact ReadsAll.cons (as := []) (bs := []) (Reads.int i t2) r2
theorem call_reprX {X : L2.Cx} (hg : X.A.guards = some []) (hu : X.A.units + 70 < cLine) : CallR X (.builtin "repr") (rReprX X.K) := by
  intro pins s σ H xs us Q I r h
  rcases h with ⟨a, kvs, rfl, ea, ok, q⟩ | ⟨a, b, kvs, rfl, sq, ea, ok, q⟩ | h
  · obtain ⟨u, rfl, rx⟩ := vals1 r
    obtain rfl : u = Value.ref a := rx
    simp only [dkOk, Bool.and_eq_true, decide_eq_true_eq] at ok
    obtain ⟨h1, h2, h3⟩ := ok
    obtain ⟨_, hm, vs, kv, o, es, ep, e1, e2, e3, e4, e5, _⟩ := dk_of I.hok ea
    obtain ⟨r1, r2⟩ := reads_dk (h := s.heap) kv e5
    have rd : Reads s.heap (.ref a) (dkPy kvs) (a :: [] ++ []) := Reads.dict e1 e2.1 e3 r1 r2
    exact repr_of_reads' rd h1 (fun _ z => by
      simp only [List.append_nil, List.mem_singleton] at z
      rw [← z] at hm
      simp at hm) hg (by omega) (fun _ _ e => e) (fun h' u tk hk => ⟨.str _, H, I.kept hk, ⟨_, rfl⟩, q⟩) h2
  · obtain ⟨u, rfl, rx⟩ := vals1 r
    obtain rfl : u = Value.ref a := rx
    simp only [dkOk1, Bool.and_eq_true, decide_eq_true_eq] at ok
    obtain ⟨h1, h2, h3⟩ := ok
    obtain ⟨_, hm, vs, kv, o, es, ep, e1, e2, e3, e4, e5, _⟩ := dk_of I.hok ea
    obtain ⟨r1, r2⟩ := reads_dk (h := s.heap) kv e5
    have rd : Reads s.heap (.ref b) (dkPy kvs) (b :: [] ++ []) := Reads.dict e1 e2.1 e3 r1 r2
    obtain ⟨its, rv, ⟨o2, ho, hc, n, hd⟩, _⟩ := I.tuple sq
    obtain ⟨w, rfl, rw_⟩ := vals1 rv
    obtain rfl : w = Value.ref b := rw_
    have rt : Reads s.heap (.ref a) (.tuple [dkPy kvs]) ((b :: [] ++ []) ++ []) := Reads.tuple ho hc hd (ReadsAll.cons rd .nil)
    exact repr_of_reads' rt h1 (fun _ z => by
      simp only [List.append_nil, List.mem_singleton] at z
      rw [← z] at hm
      simp at hm) hg (by omega) (fun _ _ e => e) (fun h' u tk hk => ⟨.str _, H, I.kept hk, ⟨_, rfl⟩, q⟩) h2
  · exact call_reprU hg hu pins s σ H xs us Q I r h
def reprXD : List D → AH → R D
  | [.dk kvs], h => if dkOk kvs = true then .ok (.str (dkPy kvs).shown) h else .bad
  | [.tup [.dk kvs]], h => if dkOk1 kvs = true then .ok (.str (PyData.tuple [dkPy kvs]).shown) h else .bad
  | ds, h => reprD ds h
theorem cb_reprX : CbS K E (rReprX K) reprXD := fun ρ P H h vs ds s w Q p => by
  unfold reprXD at p
  split at p
  · obtain ⟨v, rfl, r⟩ := w.one
    cases r with
    | dk q =>
      split at p
      · rename_i hk
        exact .inl ⟨_, _, rfl, s.sub _ _ q rfl, hk, Post.here p s (.str _)⟩
      · exact p.elim
  · obtain ⟨v, rfl, r⟩ := w.one
    cases r with
    | tup q r =>
      cases r with
      | cons r1 r2 =>
      cases r2
      cases r1 with
      | dk q2 =>
        split at p
        · rename_i hk
          exact .inr (.inl ⟨_, _, _, rfl, sqT_tk s.sub q, s.sub _ _ q2 rfl, hk, Post.here p s (.str _)⟩)
        · exact p.elim
  · exact .inr (.inr (cb_repr ρ P H h vs _ s w Q p))
end
end Ab

/-! repr of a list in which dicts with texts and whole numbers stand, at any depth. -/
namespace Ab
open PySem PySem.Spec L2
open L2H (RoomH)
mutual
def toPyX : D → Option PyData
  | .non => some .none
  | .bl b => some (.bool b)
  | .int i => some (.int i)
  | .str x => some (.str x)
  | .tup ds => (toPyXL ds).map PyData.tuple
  | .lst ds => (toPyXL ds).map PyData.list
  | .dk kvs => some (dkPy kvs)
  | _ => none
def toPyXL : List D → Option (List PyData)
  | [] => some []
  | d :: ds => match toPyX d, toPyXL ds with
    | some p, some ps => some (p :: ps)
    | _, _ => none
end
mutual
inductive Dx (K : PySem.W.Frag) (H : Hp) : V → PyData → Prop
  | non : Dx K H .non .none
  | bl (b : Bool) : Dx K H (.bl b) (.bool b)
  | int (i : Int) : Dx K H (.int i) (.int i)
  | str (x : Str) : Dx K H (.str x) (.str x)
  | lst {a : Addr} {xs : List V} {ds : List PyData} : SqL K H a xs → DxAll K H xs ds → Dx K H (.ref a) (.list ds)
  | tup {a : Addr} {xs : List V} {ds : List PyData} : SqT K H a xs → DxAll K H xs ds → Dx K H (.ref a) (.tuple ds)
  | dk {a : Addr} {kvs : List (Str × Int)} : H a = some (.dK (dkV kvs)) → Dx K H (.ref a) (dkPy kvs)
inductive DxAll (K : PySem.W.Frag) (H : Hp) : List V → List PyData → Prop
  | nil : DxAll K H [] []
  | cons {v : V} {vs : List V} {d : PyData} {ds : List PyData} : Dx K H v d → DxAll K H vs ds → DxAll K H (v :: vs) (d :: ds)
end
/-- where the modules are told stands a dict -/
def SysD (K : PySem.W.Frag) : Prop := ∃ o, K.lookup sysModules = some o ∧ o.cls = .type "dict"
section
variable {K : PySem.W.Frag} {E : XK} {ρ ρ' ρ1 : Ro} {P H P' H' P1 H1 : Hp}
mutual
theorem dx_of0 (sub : Sub P H) : ∀ (d : D) {v : V} {p : PyData}, Rep K ρ P d v → toPyX d = some p → Dx K H v p
  | .non, v, p, r, e => by simp only [toPyX, Option.some.injEq] at e; subst e; cases r; exact .non
  | .bl b, v, p, r, e => by simp only [toPyX, Option.some.injEq] at e; subst e; cases r; exact .bl b
  | .int i, v, p, r, e => by simp only [toPyX, Option.some.injEq] at e; subst e; cases r; exact .int i
  | .str x, v, p, r, e => by simp only [toPyX, Option.some.injEq] at e; subst e; cases r; exact .str x
  | .tup ds, v, p, r, e => by
    simp only [toPyX] at e
    cases z : toPyXL ds with
    | none => rw [z] at e; cases e
    | some ps =>
      rw [z] at e
      cases e
      cases r with
      | tup q r => exact .tup (sqT_tk sub q) (dx_ofL sub ds r z)
  | .lst ds, v, p, r, e => by
    simp only [toPyX] at e
    cases z : toPyXL ds with
    | none => rw [z] at e; cases e
    | some ps =>
      rw [z] at e
      cases e
      cases r with
      | lst q r => exact .lst (.of (sub _ _ q rfl)) (dx_ofL sub ds r z)
  | .dk kvs, v, p, r, e => by
    simp only [toPyX, Option.some.injEq] at e
    subst e
    cases r with
    | dk q => exact .dk (sub _ _ q rfl)
  | .glo x, v, p, r, e => by simp [toPyX] at e
  | .ty x, v, p, r, e => by simp [toPyX] at e
  | .loc x, v, p, r, e => by simp [toPyX] at e
  | .scr x, v, p, r, e => by simp [toPyX] at e
  | .obj c ns ds, v, p, r, e => by simp [toPyX] at e
  | .dic ks ds, v, p, r, e => by simp [toPyX] at e
  | .nd ks ds, v, p, r, e => by simp [toPyX] at e
  | .exv c ns ds, v, p, r, e => by simp [toPyX] at e
  | .fn a, v, p, r, e => by simp [toPyX] at e
theorem dx_ofL (sub : Sub P H) : ∀ (ds : List D) {vs : List V} {ps : List PyData}, RepL K ρ P ds vs → toPyXL ds = some ps → DxAll K H vs ps
  | [], vs, ps, r, e => by simp only [toPyXL, Option.some.injEq] at e; subst e; cases r; exact .nil
  | d :: ds, vs, ps, r, e => by
    simp only [toPyXL] at e
    cases z : toPyX d with
    | none => rw [z] at e; cases e
    | some p =>
      cases y : toPyXL ds with
      | none => rw [z, y] at e; cases e
      | some qs =>
        rw [z, y] at e
        cases e
        cases r with
        | cons a b => exact .cons (dx_of0 sub d a z) (dx_ofL sub ds b y)
end
end
section
variable {X : Cx} {pins : List (Addr × Obj)} {σ : St} {H : Hp} {s : Shared}
theorem not_sys (hM : SysD X.K) (I : Inv X pins σ H s) {a : Addr} {o : Obj} (e : s.heap.get? a = some o) (c : o.cls = .type "list") : sysModules ≠ a := fun z => by
  obtain ⟨o', h1, h2⟩ := hM
  have := I.kIn _ _ h1
  rw [z, e] at this
  cases this
  rw [c] at h2
  exact absurd h2 (by decide)
mutual
theorem Dx.reads (hM : SysD X.K) (I : Inv X pins σ H s) : ∀ {d : PyData} {v : V} {u : Value}, Dx X.K H v d → RelV v u → ∃ as, Reads s.heap u d as ∧ sysModules ∉ as
  | _, _, _, .non, r => by cases r; exact ⟨_, Reads.none, by simp⟩
  | _, _, _, .bl b, r => by cases r; exact ⟨_, Reads.bool b, by simp⟩
  | _, _, _, .int i, r => by obtain ⟨t, rfl⟩ := r; exact ⟨_, Reads.int i t, by simp⟩
  | _, _, _, .str x, r => by obtain ⟨t, rfl⟩ := r; exact ⟨_, Reads.str x t, by simp⟩
  | _, _, _, .lst hs ha, r => by
    cases r
    obtain ⟨its, rv, ⟨o, n, ho, hc, _, hd⟩, _⟩ := I.list hs
    obtain ⟨as, hr, hn⟩ := Dx.readsAll hM I ha rv
    exact ⟨_, Reads.list ho hc hd hr, fun z => by
      rcases List.mem_cons.mp z with z | z
      · exact not_sys hM I ho hc z
      · exact hn z⟩
  | _, _, _, .tup hs ha, r => by
    cases r
    obtain ⟨its, rv, ⟨o, ho, hc, n, hd⟩, _⟩ := I.tuple hs
    obtain ⟨as, hr, hn⟩ := Dx.readsAll hM I ha rv
    exact ⟨_, Reads.tuple ho hc hd hr, hn⟩
  | _, _, _, .dk (a := a) ea, r => by
    cases r
    obtain ⟨_, hm, vs, kv, o, es, ep, e1, e2, e3, e4, e5, _⟩ := dk_of I.hok ea
    obtain ⟨r1, r2⟩ := reads_dk (h := s.heap) kv e5
    exact ⟨_, Reads.dict e1 e2.1 e3 r1 r2, fun z => by
      simp only [List.append_nil, List.mem_singleton] at z
      rw [← z] at hm
      simp at hm⟩
theorem Dx.readsAll (hM : SysD X.K) (I : Inv X pins σ H s) : ∀ {ds : List PyData} {vs : List V} {us : List Value}, DxAll X.K H vs ds → Vals vs us → ∃ as, ReadsAll s.heap us ds as ∧ sysModules ∉ as
  | _, _, _, .nil, r => by cases r; exact ⟨_, ReadsAll.nil, by simp⟩
  | _, _, _, .cons h1 h2, r => by
    cases r with
    | cons r1 r2 =>
      obtain ⟨as, q1, n1⟩ := Dx.reads hM I h1 r1
      obtain ⟨bs, q2, n2⟩ := Dx.readsAll hM I h2 r2
      exact ⟨_, ReadsAll.cons q1 q2, fun z => by
        rcases List.mem_append.mp z with z | z
        · exact n1 z
        · exact n2 z⟩
end
end
def reprOkN (d : PyData) : Bool := d.showable && (decide (d.shown.length ≤ sizeLine) && decide (d.depth ≤ 64))
def rReprN (K : PySem.W.Frag) : List V → Hp → VK → Prop := fun xs H Q => (∃ a d, xs = [.ref a] ∧ Dx K H (.ref a) d ∧ reprOkN d = true ∧ Q (.str d.shown) H) ∨ rReprX K xs H Q
def reprND : List D → AH → R D
  | [.lst ds], h => (match toPyXL ds with
    | some ps => if reprOkN (.list ps) = true then .ok (.str (PyData.list ps).shown) h else .bad
    | none => .bad)
  | ds, h => reprXD ds h
section
variable {X : L2.Cx} {K : PySem.W.Frag} {E : XK} {k : Nat}
theorem call_reprN {X : L2.Cx} (hM : SysD X.K) (hg : X.A.guards = some []) (hu : X.A.units + 70 < cLine) : CallR X (.builtin "repr") (rReprN X.K) := by
  intro pins s σ H xs us Q I r h
  rcases h with ⟨a, d, rfl, dx, ok, q⟩ | h
  · obtain ⟨u, rfl, rx⟩ := vals1 r
    simp only [reprOkN, Bool.and_eq_true, decide_eq_true_eq] at ok
    obtain ⟨h1, h2, h3⟩ := ok
    obtain ⟨as, rd, hn⟩ := Dx.reads hM I dx rx
    obtain rfl : u = Value.ref a := rx
    exact repr_of_reads' rd h1 (fun _ => hn) hg (by omega) (fun _ _ e => e) (fun h' u tk hk => ⟨.str _, H, I.kept hk, ⟨_, rfl⟩, q⟩) h2
  · exact call_reprX hg hu pins s σ H xs us Q I r h
theorem cb_reprN : CbS K E (rReprN K) reprND := fun ρ P H h vs ds s w Q p => by
  unfold reprND at p
  split at p
  · rename_i ds
    obtain ⟨v, rfl, r⟩ := w.one
    split at p
    · rename_i ps hp
      split at p
      · rename_i hk
        have e : toPyX (.lst ds) = some (.list ps) := by
          show (toPyXL ds).map PyData.list = _
          rw [hp]; rfl
        have dx := dx_of0 s.sub _ r e
        cases r with
        | lst q r => exact .inl ⟨_, _, rfl, dx, hk, Post.here p s (.str _)⟩
      · exact p.elim
    · exact p.elim
  · exact .inr (cb_reprX ρ P H h vs _ s w Q p)
theorem jb_reprN (hM : SysD K) (hr : Room k X.A) (hg : X.A.guards = some []) (hK : X.K = K := by rfl) : JBf K E X (.builtin "repr") (rReprN K) reprND := by
  subst hK
  exact ⟨call_reprN hM hg (by have := hr.un; omega), cb_reprN⟩
end
namespace Hd
def sysB : Fb := fun K => match K.lookup sysModules with
  | some o => decide (o.cls = .type "dict")
  | none => false
theorem sys_ok {K : PySem.W.Frag} (h : sysB K = true) : SysD K := by
  unfold sysB at h
  split at h
  · rename_i o e
    exact ⟨o, e, of_decide_eq_true h⟩
  · cases h
end Hd
end Ab

/-! A dict that a block makes and fills: behind the block it never changes any more. -/
namespace Ab
open PySem PySem.Spec L2
section
variable {K : PySem.W.Frag} {E : XK} {X : Cx}
/-- a name's value behind the block: the thing number n is told as d -/
def cutE (n : Nat) (d : D) : Option D → Option D
  | some (.loc k) => if k < n then some (.loc k) else if k = n then some d else none
  | some e => if below n e = true then some e else none
  | none => none
def cutS (n : Nat) (env : En) (h : AH) : SS := match h[n]? with
  | some (.dct kvs) => if (h.take n).all (AO.below n) = true ∧ belowL n (kvs.map (·.2)) = true then .nx (env.map (cutE n (.dic (kvs.map (·.1)) (kvs.map (·.2))))) (h.take n) else .bad
  | _ => .bad
def kCut (n : Nat) : SS → SS
  | .nx env h => cutS n env h
  | r => r
def mCut (m : MS) : MS := fun env h => kCut h.length (m env h)
variable {s0 s1 : Stmt} {sts : List Stmt} {t0 t1 tr : TS} {m0 m1 mr : MS}
end
end Ab

/-! A tuple times 0. -/
namespace Ab
open PySem PySem.Spec L2 PyProof.Rows
section
variable {K : PySem.W.Frag} {E : XK} {X : Cx} {a b : Expr} {ta tb : TE} {ma mb : M D} {pos : Pos}
def rRep0 (K : PySem.W.Frag) : R2 := fun x y H Q => ∃ l xs, x = .ref l ∧ y = .int 0 ∧ SqT K H l xs ∧ xs ≠ [] ∧ ∀ p, H p = none → Q (.ref p) (upd H p (.tup []))
/-- a tuple a number of times, 0 among them -/
def mulZD : D → D → AH → R D
  | .tup (x :: xs), .int 0, h => .ok (.tup []) h
  | a, b, h => mulUD a b h
end
end Ab

/-! len(set(xs)) of a list that holds one text, any number of times. -/
namespace Ab
open PySem PySem.Spec L2 PyProof.Rows
section
variable {prog : Program} {w : World} {A : Around} {R : Result → Shared → Prop} {I S : Addr} {fp wr : List Addr} {G : Array GenState → Array GenState → Prop} {n : Nat} {P : Nat → Value → Prop} {St : Nat → Shared → Prop} {z : Str}
abbrev oneS (z : Str) (i : Nat) : Str → Bool := fun k => decide (0 < i) && decide (k = z)
end
section
variable {prog : Program} {w : World} {A : Around} {E : Value → Shared → Prop} {s : Shared} {z : Str}
end
end Ab

/-! len(set(x)): a tuple of whole numbers, or a list of ours that holds one text. -/
namespace Ab
open PySem PySem.Spec L2 PyProof.Rows PySem.Calls
section
variable {K : PySem.W.Frag} {E : XK} {X : Cx}
def tLenSetU (K : PySem.W.Frag) (ta : TE) : TE := fun σ H Q => ta σ H fun x H1 => (∃ (l : Addr) (ns : List Int), (x = .ref l ∧ ns.length ≤ 1000) ∧ SqT K H1 l (ns.map V.int) ∧ Q (.int ((onceI ns).length : Nat)) H1) ∨
  ∃ (l : Addr) (z : Str) (n : Nat), x = .ref l ∧ SqL K H1 l (List.replicate (n + 1) (V.str z)) ∧ Q (.int 1) H1
/-- the text that all are -/
def oneTx (z : Str) : List D → Bool
  | [] => true
  | .str y :: ds => decide (y = z) && oneTx z ds
  | _ => false
def kLenSetU (d : D) (h : AH) : R D := match d with
  | .loc n => (match h[n]? with
    | some (.lst (.str z :: ds)) => if oneTx z ds = true then .ok (.int 1) h else .bad
    | _ => .bad)
  | d => kLenSet d h
def mLenSetU (m : M D) : M D := fun env h => (m env h).bind kLenSetU
end
end Ab

/-! Dicts whose keys are tuples of tuples of whole numbers, over the model. -/
namespace Ab
open PySem PySem.Spec L2 PyProof.Rows
def nkOf (k : List (List Int)) : NestedKey := .tup (k.map fun t => .tup (t.map .num))
section
variable {P : Program} {w : World} {H H' : Hp} {h : Heap} {a b : Addr}
/-- the entries -/
def rowsN (xs : List (List (List Int) × Addr × V)) (ys : List Value) : List (NestedKey × Addr × Value) := (xs.zip ys).map fun p => (nkOf p.1.1, p.1.2.1, p.2)
def valN (xs : List (List (List Int) × Addr × V)) (k : List (List Int)) : Option V := (xs.find? fun x => decide (x.1 = k)).map (·.2.2)
end
section
variable {X : Cx} {pins : List (Addr × Obj)} {σ : L2.St} {H : Hp} {s : Shared} {a b : Addr} {y v : V} {u r : Value} {A : Around} {E : Value → Shared → Prop} {xs : List (List (List Int) × Addr × V)} {k : List (List Int)}
end
end Ab

/-! Dicts whose keys are tuples of tuples: what is put, and the abstract layer. -/
namespace Ab
open PySem PySem.Spec L2 PyProof.Rows
abbrev NdL := List (List (List Int) × Addr × V)
section
variable {X : Cx} {pins : List (Addr × Obj)} {σ : L2.St} {H : Hp} {s : Shared} {a b : Addr} {y v : V} {u r : Value} {A : Around} {E : Value → Shared → Prop} {xs : NdL} {k : List (List Int)}
end
/-! over the abstract layer -/
section
variable {K : PySem.W.Frag} {E : XK} {ρ ρ' ρ1 : Ro} {P H P' H' P1 H1 : Hp}
def key2L : List D → Option (List (List Int))
  | [] => some []
  | d :: ds => match intsT d, key2L ds with
    | some k, some ks => some (k :: ks)
    | _, _ => none
def key2 (d : D) : Option (List (List Int)) := match d with
  | .tup ds => key2L ds
  | _ => none
/-- fast -/
def intEq : Int → Int → Bool
  | .ofNat a, .ofNat b => Nat.beq a b
  | .negSucc a, .negSucc b => Nat.beq a b
  | _, _ => false
def rowEq : List Int → List Int → Bool
  | [], [] => true
  | a :: r, b :: s => match intEq a b with
    | true => rowEq r s
    | false => false
  | _, _ => false
def lotEq : List (List Int) → List (List Int) → Bool
  | [], [] => true
  | a :: r, b :: s => match rowEq a b with
    | true => lotEq r s
    | false => false
  | _, _ => false
/-- what stands at a key -/
def getN : List (List (List Int) × D) → List (List Int) → Option D
  | [], _ => none
  | p :: l, k => match lotEq p.1 k with
    | true => some p.2
    | false => getN l k
/-- the dict that a value is -/
def ndD (d : D) (h : AH) : Option (List (List (List Int) × D)) := match d with
  | .loc n => (match h[n]? with
    | some (.ndt kvs) => some kvs
    | _ => none)
  | _ => none
end
end Ab

/-! Dicts whose keys are tuples of tuples: d[k], k in d, d[k] = v, d.get(k), {k: v}. -/
namespace Ab
open PySem PySem.Spec L2 PyProof.Rows
section
variable {K : PySem.W.Frag} {E : XK} {ρ ρ' ρ1 : Ro} {P H P' H' P1 H1 : Hp} {X : Cx} {a b e kx vx : Expr} {es : List Expr} {ta tb tk tv : TE} {t : TA} {ma mb mk mv : M D} {m : M (List D)} {pos cpos apos : Pos} {k : Nat} {name : Str}
/-- what a dict of that kind at a tells of the key at b -/
def NGet (H : Hp) (a : Addr) (y : V) (o : Option V) : Prop := ∃ b xs k, y = .ref b ∧ H a = some (NdO a xs) ∧ (∀ x ∈ xs, NK H x.2.1 x.1) ∧ NK H b k ∧ o = valN xs k
/-! d[k] -/
abbrev rIxN : R2 := fun x y H Q => ∃ a v, x = .ref a ∧ NGet H a y (some v) ∧ Q v H
def ixND (a b : D) (h : AH) : R D := match ndD a h with
  | some kvs => (match key2 b with
    | some k => (match getN kvs k with
      | some v => .ok v h
      | none => .bad)
    | none => .bad)
  | none => .bad
/-! k in d -/
def rNin (neg : Bool) : R2 := fun y x H Q => ∃ a o, x = .ref a ∧ NGet H a y o ∧ Q (.bl (if neg then !o.isSome else o.isSome)) H
def inND (neg : Bool) (a b : D) (h : AH) : R D := match ndD b h with
  | some kvs => (match key2 a with
    | some k => .ok (.bl (if neg then !(getN kvs k).isSome else (getN kvs k).isSome)) h
    | none => .bad)
  | none => .bad
/-! d[k] = v, a new key -/
def rSetN : TSet := fun o i v H Q => ∃ a b xs k, o = .ref a ∧ i = .ref b ∧ H a = some (NdO a xs) ∧ (∀ x ∈ xs, NK H x.2.1 x.1) ∧ NK H b k ∧ valN xs k = none ∧ xs.length < sizeLine ∧ Q (upd H a (NdO a (xs ++ [(k, b, v)])))
def mgSubN (mo mi : M D) : MG := fun d env h => (mo env h).bind fun o h1 => (mi env h1).bind fun i h2 => match o with
  | .loc n => (match h2[n]? with
    | some (.ndt kvs) => (match key2 i with
      | some k => (match getN kvs k with
        | none => if kvs.length < sizeLine then .ok env (h2.set n (.ndt (kvs ++ [(k, d)]))) else .bad
        | some _ => .bad)
      | none => .bad)
    | _ => .bad)
  | _ => .bad
/-! d.get(k) -/
def rGetN : V → List V → Hp → VK → Prop := fun x xs H Q => ∃ a y o, x = .ref a ∧ xs = [y] ∧ NGet H a y o ∧ Q (o.getD .non) H
def tGetN (to : TE) (t : TA) : TE := fun σ H Q => to σ H fun x H1 => (∃ a xs, x = .ref a ∧ H1 a = some (NdO a xs)) ∧ t σ H1 fun xs H2 => rGetN x xs H2 Q
def isNd (d : D) (h : AH) : Bool := (ndD d h).isSome
def getND : D → List D → AH → R D := fun o ds h => match ds with
  | [d] => (match ndD o h, key2 d with
    | some kvs, some k => .ok ((getN kvs k).getD .non) h
    | _, _ => .bad)
  | _ => .bad
/-! {k: v} -/
def tDispN (tk tv : TE) : TE := fun σ H Q => ∀ p, H p = none → tk σ (upd H p (NdO p [])) fun y H1 => tv σ H1 fun z H2 => ∃ b ks, y = .ref b ∧ NK H2 b ks ∧ H2 p = some (NdO p []) ∧ Q (.ref p) (upd H2 p (NdO p [(ks, b, z)]))
def mDispN (mk mv : M D) : M D := fun env h => (mk env h).bind fun y h1 => (mv env h1).bind fun z h2 => match key2 y with
  | some ks => .ok (.loc h2.length) (h2 ++ [.ndt [(ks, z)]])
  | none => .bad
end
end Ab

/-! Dict comprehensions whose keys are tuples of tuples. -/
namespace Ab
open PySem PySem.Spec L2 PyProof.Rows
/-- a pair whose key is a tuple of tuples is put -/
def taNT (tk tv : TE) : TAct := fun D σ H Q => tk σ H fun y H1 => tv σ H1 fun z H2 => ∃ b xs ks, y = .ref b ∧ NK H2 b ks ∧ H2 D = some (NdO D xs) ∧ (∀ x ∈ xs, NK H2 x.2.1 x.1) ∧ valN xs ks = none ∧ xs.length < sizeLine ∧ Q (upd H2 D (NdO D (xs ++ [(ks, b, z)])))
section
variable {X : Cx}
end
section
variable {K : PySem.W.Frag} {E : XK} {ρ ρ' ρ1 : Ro} {P H P' H' P1 H1 : Hp}
def accN (K : PySem.W.Frag) : Acc K (List (List (List Int) × D)) where
  R kvs ρ P D o := ∃ xs : NdL, o = NdO D xs ∧ xs.map (·.1) = kvs.map (·.1) ∧ (∀ x ∈ xs, NK P x.2.1 x.1) ∧ RepL K ρ P (kvs.map (·.2)) (xs.map (·.2.2))
  up := by
    rintro a ρ P D o ρ' P' ⟨kws, e, ek, kk, r⟩ hm hp
    exact ⟨kws, e, ek, fun x hx => (kk x hx).up hp, r.up hm hp⟩
  noT := fun ⟨kws, e, _, _, _⟩ => by subst e; exact ⟨rfl, noC_nd⟩
def acN (mk mv : M D) : List (List (List Int) × D) → En → AH → R (List (List (List Int) × D)) := fun acc env h => (mk env h).bind fun k h1 => (mv env h1).bind fun v h2 => match key2 k with
  | some ks => (match getN acc ks with
    | none => if acc.length < sizeLine then .ok (acc ++ [(ks, v)]) h2 else .bad
    | some _ => .bad)
  | none => .bad
def mNdO (m : M (List (List (List Int) × D))) : M D := fun env h => (m env h).bind fun kvs h1 => .ok (.loc h1.length) (h1 ++ [.ndt kvs])
end
section
variable {K : PySem.W.Frag} {E : XK} {X : Cx} {kx vx tg iter tg1 iter1 ex : Expr} {ifs ifs1 : List Expr} {scope : Scope} {own : List (PySem.Str × Nat)} {vs1 : List Nat} {pos pn : Pos} {wi wi1 : TI} {g g1 : TG} {tt tt1 : TT} {tk tv te : TE} {mi mi1 : MI} {mg mg1 : MG} {mt mt1 : M Bool} {mk mv me : M D} {k : Nat}
end
end Ab

namespace K01
open PySem PySem.Spec PyProof.Rows L2 Ab
def top (i : Nat) : Stmt := PySem.Challenge.pw_turnedblind_k01_errors_and_limits.main.body.getD i (.Pass ⟨0, 0, 0, 0⟩)
def clsBody : Stmt → List Stmt
  | .ClassDef _ _ _ b .. => b
  | _ => []
def topM (i j : Nat) : Stmt := (clsBody (top i)).getD j (.Pass ⟨0, 0, 0, 0⟩)
abbrev FnP (K : PySem.W.Frag) (x q : Str) (st : Stmt) (f : Addr) (fd : FuncData) : Prop := FunD K x q (defArgs st) (defBody st) (defScope st) [] [] f fd
def xT : XTb := [("WrongValue", ["WrongValue", "ValueError", "Exception", "BaseException", "object"]), ("InvalidText", ["InvalidText", "WrongValue", "ValueError", "Exception", "BaseException", "object"]), ("InvalidNumber", ["InvalidNumber", "WrongValue", "ValueError", "Exception", "BaseException", "object"]), ("InvalidStanding", ["InvalidStanding", "WrongValue", "ValueError", "Exception", "BaseException", "object"]), ("InvalidMove", ["InvalidMove", "WrongValue", "ValueError", "Exception", "BaseException", "object"]), ("InvalidTurn", ["InvalidTurn", "WrongValue", "ValueError", "Exception", "BaseException", "object"]), ("InvalidLot", ["InvalidLot", "WrongValue", "ValueError", "Exception", "BaseException", "object"]), ("InvalidName", ["InvalidName", "WrongValue", "ValueError", "Exception", "BaseException", "object"]), ("InvalidWish", ["InvalidWish", "WrongValue", "ValueError", "Exception", "BaseException", "object"]), ("NotATable", ["NotATable", "WrongValue", "ValueError", "Exception", "BaseException", "object"]), ("InvalidRows", ["InvalidRows", "WrongValue", "ValueError", "Exception", "BaseException", "object"]), ("InvalidPlan", ["InvalidPlan", "WrongValue", "ValueError", "Exception", "BaseException", "object"]), ("InvalidTurns", ["InvalidTurns", "WrongValue", "ValueError", "Exception", "BaseException", "object"]), ("InvalidChain", ["InvalidChain", "WrongValue", "ValueError", "Exception", "BaseException", "object"]), ("InvalidExchanges", ["InvalidExchanges", "WrongValue", "ValueError", "Exception", "BaseException", "object"]), ("InvalidWishes", ["InvalidWishes", "WrongValue", "ValueError", "Exception", "BaseException", "object"]), ("WrongName", ["WrongName", "LookupError", "Exception", "BaseException", "object"]), ("UnknownName", ["UnknownName", "WrongName", "LookupError", "Exception", "BaseException", "object"]), ("InUse", ["InUse", "WrongName", "LookupError", "Exception", "BaseException", "object"]), ("NoAnswer", ["NoAnswer", "ArithmeticError", "Exception", "BaseException", "object"]), ("TooMany", ["TooMany", "NoAnswer", "ArithmeticError", "Exception", "BaseException", "object"]), ("Broken", ["Broken", "NoAnswer", "ArithmeticError", "Exception", "BaseException", "object"]), ("NothingToUndo", ["NothingToUndo", "NoAnswer", "ArithmeticError", "Exception", "BaseException", "object"])]
def xTs : List Str := ["WrongValue", "InvalidText", "InvalidNumber", "InvalidStanding", "InvalidMove", "InvalidTurn", "InvalidLot", "InvalidName", "InvalidWish", "NotATable", "InvalidRows", "InvalidPlan", "InvalidTurns", "InvalidChain", "InvalidExchanges", "InvalidWishes", "WrongName", "UnknownName", "InUse", "NoAnswer", "TooMany", "Broken", "NothingToUndo"]
def xNs : List String := ["ValueError", "LookupError", "ArithmeticError"]
def xCl_given : List Str := ["InvalidText", "InvalidNumber", "InvalidStanding", "InvalidMove", "InvalidTurn", "InvalidLot", "InvalidName", "InvalidWish", "NotATable", "UnknownName", "TooMany"]
def xCl_index : List Str := ["InvalidRows", "InvalidPlan", "InvalidTurns", "InvalidChain", "InvalidExchanges", "InvalidWishes", "InUse", "Broken"]
def xCl_shown : List Str := ["Broken"]
/-! what each def computes -/
abbrev s__law_spring : Stmt := top 32
def m__law_spring : MS :=
  (mSeq (mAsg (mIf (mBl (mBin (cmpD fun i j => decide (i < j)) (mVar 1) (mCB lenUD (mCons (mVar 0) mNil)))) (mBin ixUD (mVar 0) (mVar 1)) (mBin addUD (mBin mulUD (mC (.int 7)) (mVar 1)) (mC (.int 2)))) (mgName 2))
  (mSeq (mAsg (mBin addUD (mC (.int 90001)) (mBin mulUD (mC (.int 7919)) (mVar 1))) (mgName 3))
  (mSeq (mFor (miU (mFrz (mBinF catD (mFrz (mSlL (mVar 0) mNoPart (mPart (mC (.int 8))))) (mFrz (mLst (mCons (mVar 2) mNil)))))) (mgName 4) (mAsg (mBin modD (mCB intUD (mCons (mBin addUD (mBin addUD (mBin mulUD (mVar 3) (mC (.int 48271))) (mCB intUD (mCons (mVar 4) mNil))) (mBin mulUD (mC (.int 11)) (mVar 1))) mNil)) (mC (.int 2147483647))) (mgName 3)))
  (mRet (mOwn (mLst (mCons (mIf (mOrT (mBl (mBin (cmpD fun i j => decide (i < j)) (mVar 2) (mC (.int 0)))) (mBl (mBin (cmpD fun i j => decide (j ≤ i)) (mVar 2) (mBin powD (mC (.int 10)) (mC (.int 18)))))) (mCB absD (mCons (mVar 2) mNil)) (mC (.int 0))) (mCons (mVar 3) (mCons (mC (.int 0)) mNil)))))))))
def F__law_spring : Fn := mFnK 5 m__law_spring
abbrev s__law_draw : Stmt := top 33
def m__law_draw : MS :=
  (mSeq (mAsg (mBin addUD (mBin ixUD (mVar 0) (mC (.int 2))) (mC (.int 1))) (mgSubU (mVar 0) (mC (.int 2))))
  (mSeq (mAsg (mBin modD (mCB intUD (mCons (mBin addUD (mBin addUD (mBin mulUD (mBin ixUD (mVar 0) (mC (.int 1))) (mC (.int 69621))) (mBin mulUD (mC (.int 40503)) (mBin ixUD (mVar 0) (mC (.int 2))))) (mC (.int 1))) mNil)) (mC (.int 2147483647))) (mgSubU (mVar 0) (mC (.int 1))))
  (mSeq (mIfS (mBl (mBin (cmpD fun i j => decide (j < i)) (mBin ixUD (mVar 0) (mC (.int 0))) (mC (.int 0)))) (mSeq (mAsg (mCB divmodD (mCons (mBin ixUD (mVar 0) (mC (.int 0))) (mCons (mVar 1) mNil))) (mgSeq 2 (mgCons (mgSubU (mVar 0) (mC (.int 0))) (mgCons (mgName 2) mgNil))))
  (mRet (mVar 2))) mNext)
  (mSeq (mAsg (mBin addUD (mBin ixUD (mVar 0) (mC (.int 1))) (mC (.int 12345))) (mgName 3))
  (mSeq (mAsg (mBin modD (mCB intUD (mCons (mBin addUD (mBin mulUD (mVar 3) (mBin ixUD (mVar 0) (mC (.int 1)))) (mBin ixUD (mVar 0) (mC (.int 2)))) mNil)) (mC (.int 2147483629))) (mgName 4))
  (mRet (mBin modD (mCB intUD (mCons (mBin divD (mVar 4) (mC (.int 256))) mNil)) (mVar 1))))))))
def F__law_draw : Fn := mFnT 5 m__law_draw
abbrev s__law_error : Stmt := top 35
def m__law_error : MS :=
  (mSeq (mAsg (mFrz (mLst (mCons (mCB (isXD xT xTs xNs) (mCons (mVar 0) (mCons (mC (.glo "InvalidText")) mNil))) (mCons (mCB (isXD xT xTs xNs) (mCons (mVar 0) (mCons (mC (.glo "InvalidNumber")) mNil))) (mCons (mCB (isXD xT xTs xNs) (mCons (mVar 0) (mCons (mC (.glo "InvalidStanding")) mNil))) mNil))))) (mgName 1))
  (mSeq (mAsg (mFrz (mBinF catD (mVar 1) (mFrz (mLst (mCons (mCB (isXD xT xTs xNs) (mCons (mVar 0) (mCons (mC (.glo "InvalidMove")) mNil))) (mCons (mCB (isXD xT xTs xNs) (mCons (mVar 0) (mCons (mC (.glo "InvalidTurn")) mNil))) (mCons (mCB (isXD xT xTs xNs) (mCons (mVar 0) (mCons (mC (.glo "InvalidLot")) mNil))) mNil))))))) (mgName 1))
  (mSeq (mAsg (mFrz (mBinF catD (mVar 1) (mFrz (mLst (mCons (mCB (isXD xT xTs xNs) (mCons (mVar 0) (mCons (mC (.glo "InvalidName")) mNil))) (mCons (mCB (isXD xT xTs xNs) (mCons (mVar 0) (mCons (mC (.glo "InvalidWish")) mNil))) (mCons (mCB (isXD xT xTs xNs) (mCons (mVar 0) (mCons (mC (.glo "NotATable")) mNil))) mNil))))))) (mgName 1))
  (mSeq (mAsg (mFrz (mBinF catD (mVar 1) (mFrz (mLst (mCons (mCB (isXD xT xTs xNs) (mCons (mVar 0) (mCons (mC (.glo "InvalidRows")) mNil))) (mCons (mCB (isXD xT xTs xNs) (mCons (mVar 0) (mCons (mC (.glo "InvalidPlan")) mNil))) (mCons (mCB (isXD xT xTs xNs) (mCons (mVar 0) (mCons (mC (.glo "InvalidTurns")) mNil))) mNil))))))) (mgName 1))
  (mSeq (mAsg (mFrz (mBinF catD (mVar 1) (mFrz (mLst (mCons (mCB (isXD xT xTs xNs) (mCons (mVar 0) (mCons (mC (.glo "InvalidChain")) mNil))) (mCons (mCB (isXD xT xTs xNs) (mCons (mVar 0) (mCons (mC (.glo "InvalidExchanges")) mNil))) mNil)))))) (mgName 1))
  (mSeq (mAsg (mFrz (mBinF catD (mVar 1) (mFrz (mLst (mCons (mCB (isXD xT xTs xNs) (mCons (mVar 0) (mCons (mC (.glo "InvalidWishes")) mNil))) (mCons (mCB (isXD xT xTs xNs) (mCons (mVar 0) (mCons (mC (.glo "UnknownName")) mNil))) (mCons (mCB (isXD xT xTs xNs) (mCons (mVar 0) (mCons (mC (.glo "InUse")) mNil))) mNil))))))) (mgName 1))
  (mSeq (mAsg (mFrz (mBinF catD (mVar 1) (mFrz (mLst (mCons (mCB (isXD xT xTs xNs) (mCons (mVar 0) (mCons (mC (.glo "TooMany")) mNil))) (mCons (mCB (isXD xT xTs xNs) (mCons (mVar 0) (mCons (mC (.glo "Broken")) mNil))) (mCons (mCB (isXD xT xTs xNs) (mCons (mVar 0) (mCons (mC (.glo "NothingToUndo")) mNil))) mNil))))))) (mgName 1))
  (mSeq (mAsg (mFrz (mLst (mCons (mC (.str "InvalidText")) (mCons (mC (.str "InvalidNumber")) (mCons (mC (.str "InvalidStanding")) (mCons (mC (.str "InvalidMove")) (mCons (mC (.str "InvalidTurn")) (mCons (mC (.str "InvalidLot")) mNil)))))))) (mgName 2))
  (mSeq (mAsg (mFrz (mBinF catD (mVar 2) (mFrz (mLst (mCons (mC (.str "InvalidName")) (mCons (mC (.str "InvalidWish")) (mCons (mC (.str "NotATable")) (mCons (mC (.str "InvalidRows")) (mCons (mC (.str "InvalidPlan")) (mCons (mC (.str "InvalidTurns")) mNil)))))))))) (mgName 2))
  (mSeq (mAsg (mFrz (mBinF catD (mVar 2) (mFrz (mLst (mCons (mC (.str "InvalidChain")) (mCons (mC (.str "InvalidExchanges")) (mCons (mC (.str "InvalidWishes")) (mCons (mC (.str "UnknownName")) (mCons (mC (.str "InUse")) (mCons (mC (.str "TooMany")) mNil)))))))))) (mgName 2))
  (mSeq (mAsg (mFrz (mBinF catD (mVar 2) (mFrz (mLst (mCons (mC (.str "Broken")) (mCons (mC (.str "NothingToUndo")) mNil)))))) (mgName 2))
  (mSeq (mAsg (mFrz (mLst (mCons (mCB (isXD xT xTs xNs) (mCons (mVar 0) (mCons (mC (.glo "WrongValue")) mNil))) (mCons (mCB (isXD xT xTs xNs) (mCons (mVar 0) (mCons (mC (.glo "WrongName")) mNil))) (mCons (mCB (isXD xT xTs xNs) (mCons (mVar 0) (mCons (mC (.glo "NoAnswer")) mNil))) mNil))))) (mgName 3))
  (mSeq (mAsg (mFrz (mLst (mCons (mCB (isXD xT xTs xNs) (mCons (mVar 0) (mCons (mC (.ty "ValueError")) mNil))) (mCons (mCB (isXD xT xTs xNs) (mCons (mVar 0) (mCons (mC (.ty "LookupError")) mNil))) (mCons (mCB (isXD xT xTs xNs) (mCons (mVar 0) (mCons (mC (.ty "ArithmeticError")) mNil))) mNil))))) (mgName 4))
  (mSeq (mIfS (mOrT (mBl (mBin neD (mMethT isLst countD (mVar 1) (mCons (mC (.bl true)) mNil)) (mC (.int 1)))) (mBl (mBin neD (mVar 3) (mVar 4)))) (mRet (mC (.str ""))) mNext)
  (mSeq (mAsg (mMethT isLst indexD (mVar 1) (mCons (mC (.bl true)) mNil)) (mgName 5))
  (mRet (mIf (mBl (mBin eqD (mVar 3) (mFrz (mLst (mCons (mBin (cmpD fun i j => decide (i < j)) (mVar 5) (mC (.int 15))) (mCons (mChain (cmpD fun i j => decide (i < j)) (cmpD fun i j => decide (i < j)) (mC (.int 14)) (mVar 5) (mC (.int 17))) (mCons (mBin (cmpD fun i j => decide (j < i)) (mVar 5) (mC (.int 16))) mNil))))))) (mBin ixUD (mVar 2) (mVar 5)) (mC (.str "")))))))))))))))))))
def F__law_error : Fn := mFnT 6 m__law_error
abbrev s__law_field : Stmt := top 36
def m__law_field : MS :=
  (mSeq (mIfS (mBl (mBin (inUD false) (mVar 1) (mFrz (mLst (mCons (mC (.str "InvalidRows")) (mCons (mC (.str "InvalidPlan")) (mCons (mC (.str "InvalidTurns")) (mCons (mC (.str "InvalidChain")) (mCons (mC (.str "InvalidExchanges")) mNil))))))))) (mRet (mUn (xatD xCl_index "index") (mVar 0))) mNext)
  (mSeq (mIfS (mBl (mBin (inUD false) (mVar 1) (mFrz (mLst (mCons (mC (.str "InvalidWishes")) (mCons (mC (.str "InUse")) mNil)))))) (mRet (mUn (xatD xCl_index "index") (mVar 0))) mNext)
  (mSeq (mIfS (mBl (mBin eqD (mVar 1) (mC (.str "Broken")))) (mRet (mFrz (mLst (mCons (mUn (xatD xCl_index "index") (mVar 0)) (mCons (mUn (xatD xCl_shown "shown") (mVar 0)) mNil))))) mNext)
  (mRet (mIf (mBl (mBin (inUD false) (mVar 1) (mFrz (mLst (mCons (mC (.str "NothingToUndo")) (mCons (mC (.str "")) mNil)))))) (mC .non) (mUn (xatD xCl_given "given") (mVar 0)))))))
def F__law_field : Fn := mFnT 2 m__law_field
abbrev s__law_of : Stmt := top 34
def m__law_of : MS :=
  (mRet (mBin ixUD (mVar 1) (mCall 2 F__law_draw (mCons (mVar 0) (mCons (mCB lenUD (mCons (mVar 1) mNil)) mNil)))))
def F__law_of : Fn := mFnT 2 m__law_of
abbrev s__law_odd : Stmt := top 37
def m__law_odd : MS :=
  (mSeq (mAsg (mFrz (mLst (mCons (mC .non) (mCons (mC (.bl true)) (mCons (mC (.bl false)) (mCons (mC (.int 0)) (mCons (mC (.int 1)) (mCons (mUn negD (mC (.int 1))) (mCons (mC (.int 7)) (mCons (mBin powD (mC (.int 10)) (mC (.int 39))) (mCons (mC (.str "")) (mCons (mC (.str "a")) (mCons (mC (.str "x")) (mCons (mC (.str "dials 3 marks 2")) (mCons (mC (.str "turn ring")) (mCons (mC (.str "turn over")) mNil)))))))))))))))) (mgName 1))
  (mSeq (mAsg (mFrz (mBinF catD (mVar 1) (mFrz (mLst (mCons (mC (.str "turn 0 1 2")) (mCons (mTup mNil) (mCons (mTup (mCons (mC (.int 0)) mNil)) (mCons (mTup (mCons (mC (.int 0)) (mCons (mC (.int 1)) mNil))) (mCons (mTup (mCons (mC (.int 0)) (mCons (mC (.int 0)) (mCons (mC (.int 1)) mNil)))) (mCons (mTup (mCons (mC (.int 0)) (mCons (mC (.int 1)) (mCons (mC (.int 0)) (mCons (mC (.int 1)) mNil))))) (mCons (mTup (mCons (mC (.bl true)) (mCons (mC (.int 0)) (mCons (mC (.int 1)) mNil)))) (mCons (mTup (mCons (mTup (mCons (mC (.int 0)) (mCons (mC (.int 0)) (mCons (mC (.int 1)) mNil)))) mNil)) (mCons (mTup (mCons (mTup (mCons (mC (.int 0)) (mCons (mC (.int 1)) mNil))) mNil)) mNil))))))))))))) (mgName 1))
  (mSeq (mAsg (mFrz (mBinF catD (mVar 1) (mFrz (mLst (mCons (mFrz (mLst mNil)) (mCons (mFrz (mLst (mCons (mC (.int 0)) mNil))) (mCons (mFrz (mLst (mCons (mC (.str "x")) mNil))) (mCons (mDk []) (mCons (mDk [("a", 0)]) (mCons (mTup (mCons (mFrz (mLst mNil)) mNil)) (mCons (mTup (mCons (mC .non) mNil)) (mCons (mTup (mCons (mTup mNil) mNil)) (mCons (mTup (mCons (mTup (mCons (mC (.int 2)) (mCons (mTup (mCons (mC (.int 0)) (mCons (mC (.int 1)) mNil))) mNil))) mNil)) (mCons (mTup (mCons (mC (.str "can")) mNil)) (mCons (mTup (mCons (mC (.str "never")) mNil)) mNil))))))))))))))) (mgName 1))
  (mRet (mCall 2 F__law_of (mCons (mVar 0) (mCons (mFrz (mBinF catD (mVar 1) (mFrz (mLst (mCons (mTup (mCons (mC (.str "surely")) (mCons (mTup mNil) mNil))) (mCons (mTup (mCons (mC (.str "moves")) (mCons (mC (.int 3)) mNil))) (mCons (mTup (mCons (mC (.str "alike")) (mCons (mC (.str "a")) (mCons (mC (.str "b")) mNil)))) (mCons (mTup (mCons (mC (.str "a")) (mCons (mTup (mCons (mC (.str "can")) mNil)) mNil))) (mCons (mTup (mCons (mC (.bl true)) mNil)) mNil))))))))) mNil)))))))
def F__law_odd : Fn := mFnT 2 m__law_odd
abbrev s__law_errors : Stmt := top 38
def m__law_errors : MS :=
  (mSeq (mAsg (mFrz (mLst (mCons (mExv "InvalidText" "given" (mVar 0)) (mCons (mExvK "InvalidText" "given" (mCons (mVar 0) mNil)) (mCons (mExv "InvalidNumber" "given" (mVar 0)) (mCons (mExvK "InvalidNumber" "given" (mCons (mVar 0) mNil)) mNil)))))) (mgName 1))
  (mSeq (mAsg (mFrz (mBinF catD (mVar 1) (mFrz (mLst (mCons (mExv "InvalidStanding" "given" (mVar 0)) (mCons (mExvK "InvalidStanding" "given" (mCons (mVar 0) mNil)) (mCons (mExv "InvalidMove" "given" (mVar 0)) (mCons (mExvK "InvalidMove" "given" (mCons (mVar 0) mNil)) mNil)))))))) (mgName 1))
  (mSeq (mAsg (mFrz (mBinF catD (mVar 1) (mFrz (mLst (mCons (mExv "InvalidTurn" "given" (mVar 0)) (mCons (mExvK "InvalidTurn" "given" (mCons (mVar 0) mNil)) (mCons (mExv "InvalidLot" "given" (mVar 0)) (mCons (mExvK "InvalidLot" "given" (mCons (mVar 0) mNil)) mNil)))))))) (mgName 1))
  (mSeq (mAsg (mFrz (mBinF catD (mVar 1) (mFrz (mLst (mCons (mExv "InvalidName" "given" (mVar 0)) (mCons (mExvK "InvalidName" "given" (mCons (mVar 0) mNil)) (mCons (mExv "InvalidWish" "given" (mVar 0)) (mCons (mExvK "InvalidWish" "given" (mCons (mVar 0) mNil)) mNil)))))))) (mgName 1))
  (mSeq (mAsg (mFrz (mBinF catD (mVar 1) (mFrz (mLst (mCons (mExv "NotATable" "given" (mVar 0)) (mCons (mExvK "NotATable" "given" (mCons (mVar 0) mNil)) (mCons (mExv "InvalidRows" "index" (mVar 0)) (mCons (mExvK "InvalidRows" "index" (mCons (mVar 0) mNil)) mNil)))))))) (mgName 1))
  (mSeq (mAsg (mFrz (mBinF catD (mVar 1) (mFrz (mLst (mCons (mExv "InvalidPlan" "index" (mVar 0)) (mCons (mExvK "InvalidPlan" "index" (mCons (mVar 0) mNil)) (mCons (mExv "InvalidTurns" "index" (mVar 0)) (mCons (mExvK "InvalidTurns" "index" (mCons (mVar 0) mNil)) mNil)))))))) (mgName 1))
  (mSeq (mAsg (mFrz (mBinF catD (mVar 1) (mFrz (mLst (mCons (mExv "InvalidChain" "index" (mVar 0)) (mCons (mExvK "InvalidChain" "index" (mCons (mVar 0) mNil)) (mCons (mExv "InvalidExchanges" "index" (mVar 0)) mNil))))))) (mgName 1))
  (mSeq (mAsg (mFrz (mBinF catD (mVar 1) (mFrz (mLst (mCons (mExvK "InvalidExchanges" "index" (mCons (mVar 0) mNil)) (mCons (mExv "InvalidWishes" "index" (mVar 0)) (mCons (mExvK "InvalidWishes" "index" (mCons (mVar 0) mNil)) mNil))))))) (mgName 1))
  (mSeq (mAsg (mFrz (mBinF catD (mVar 1) (mFrz (mLst (mCons (mExv "UnknownName" "given" (mVar 0)) (mCons (mExvK "UnknownName" "given" (mCons (mVar 0) mNil)) (mCons (mExv "InUse" "index" (mVar 0)) (mCons (mExvK "InUse" "index" (mCons (mVar 0) mNil)) mNil)))))))) (mgName 1))
  (mRet (mFrz (mBinF catD (mVar 1) (mFrz (mLst (mCons (mExv "TooMany" "given" (mVar 0)) (mCons (mExvK "TooMany" "given" (mCons (mVar 0) mNil)) mNil))))))))))))))))
def F__law_errors : Fn := mFnT 2 m__law_errors
abbrev s__law_right : Stmt := top 39
def b__law_right_1 : MS :=
  (mSeq (mAsg (mCallP 1 F__law_error (mCons (mBin ixUD (mVar 4) (mVar 5)) mNil)) (mgName 6))
  (mIfS (mOrT (mBl (mBin neD (mVar 6) (mBin ixUD (mVar 3) (mBin divD (mVar 5) (mC (.int 2)))))) (mBl (mBin neD (mCB reprND (mCons (mCallP 2 F__law_field (mCons (mBin ixUD (mVar 4) (mVar 5)) (mCons (mVar 6) mNil))) mNil)) (mCB reprND (mCons (mVar 1) mNil))))) (mRet (mC (.bl false))) mNext))
def m__law_right : MS :=
  (mSeq (mPar 1 2 (mCons (mCall 1 F__law_odd (mCons (mVar 0) mNil)) (mCons (mCall 1 F__law_odd (mCons (mVar 0) mNil)) mNil)))
  (mSeq (mAsg (mFrz (mLst (mCons (mC (.str "InvalidText")) (mCons (mC (.str "InvalidNumber")) (mCons (mC (.str "InvalidStanding")) (mCons (mC (.str "InvalidMove")) (mCons (mC (.str "InvalidTurn")) (mCons (mC (.str "InvalidLot")) mNil)))))))) (mgName 3))
  (mSeq (mAsg (mFrz (mBinF catD (mVar 3) (mFrz (mLst (mCons (mC (.str "InvalidName")) (mCons (mC (.str "InvalidWish")) (mCons (mC (.str "NotATable")) (mCons (mC (.str "InvalidRows")) (mCons (mC (.str "InvalidPlan")) (mCons (mC (.str "InvalidTurns")) mNil)))))))))) (mgName 3))
  (mSeq (mAsg (mFrz (mBinF catD (mVar 3) (mFrz (mLst (mCons (mC (.str "InvalidChain")) (mCons (mC (.str "InvalidExchanges")) (mCons (mC (.str "InvalidWishes")) (mCons (mC (.str "UnknownName")) (mCons (mC (.str "InUse")) (mCons (mC (.str "TooMany")) mNil)))))))))) (mgName 3))
  (mSeq (mAsg (mCallP 1 F__law_errors (mCons (mVar 1) mNil)) (mgName 4))
  (mSeq (mFor (miRng1 (mCons (mCB lenUD (mCons (mVar 4) mNil)) mNil)) (mgName 5) b__law_right_1)
  (mSeq (mAsg (mFrz (mLst (mCons (mExv2 "Broken" "index" "shown" (mVar 1) (mVar 2)) (mCons (mExvK2 "Broken" "index" "shown" (mCons (mVar 2) (mCons (mVar 1) mNil))) mNil)))) (mgName 7))
  (mSeq (mIfS (mBl (mBin neD (mFrz (mLc (miU (mVar 7)) (mgName 8) (fun _ h => .ok true h) (mCallP 1 F__law_error (mCons (mVar 8) mNil)) [8])) (mFrz (mLst (mCons (mC (.str "Broken")) (mCons (mC (.str "Broken")) mNil)))))) (mRet (mC (.bl false))) mNext)
  (mSeq (mIfS (mBl (mBin neD (mCB reprND (mCons (mFrz (mLc (miU (mVar 7)) (mgName 8) (fun _ h => .ok true h) (mCallP 2 F__law_field (mCons (mVar 8) (mCons (mC (.str "Broken")) mNil))) [8])) mNil)) (mCB reprND (mCons (mFrz (mLst (mCons (mFrz (mLst (mCons (mVar 1) (mCons (mVar 2) mNil)))) (mCons (mFrz (mLst (mCons (mVar 1) (mCons (mVar 2) mNil)))) mNil)))) mNil)))) (mRet (mC (.bl false))) mNext)
  (mRet (mBin eqD (mCallP 1 F__law_error (mCons (mExv0 "NothingToUndo") mNil)) (mC (.str "NothingToUndo")))))))))))))
def F__law_right : Fn := mFnT 9 m__law_right
abbrev s_law : Stmt := top 40
def m_law : MS :=
  (mSeq (mAsg (mFrz (mLst (mCons (mC (.int 6)) (mCons (mC (.int 9)) (mCons (mC (.int 32)) (mCons (mC (.int 3)) (mCons (mC (.int 12)) (mCons (mC (.int 1000000000)) (mCons (mC (.int 5)) mNil))))))))) (mgName 1))
  (mSeq (mIfS (mBl (mBin neD (mCB reprND (mCons (mVar 1) mNil)) (mCB reprND (mCons (mFrz (mLst (mCons (mC (.int 6)) (mCons (mC (.int 9)) (mCons (mC (.int 32)) (mCons (mC (.int 3)) (mCons (mC (.int 12)) (mCons (mBin powD (mC (.int 10)) (mC (.int 9))) (mCons (mC (.int 5)) mNil))))))))) mNil)))) (mRet (mC (.bl false))) mNext)
  (mSeq (mAsg (mFrz (mLst (mCons (mCB (isXD xT xTs xNs) (mCons (mExv0 "WrongValue") (mCons (mC (.ty "ValueError")) mNil))) (mCons (mCB (isXD xT xTs xNs) (mCons (mExv0 "WrongName") (mCons (mC (.ty "LookupError")) mNil))) mNil)))) (mgName 2))
  (mSeq (mAsg (mFrz (mBinF catD (mVar 2) (mFrz (mLst (mCons (mCB (isXD xT xTs xNs) (mCons (mExv0 "NoAnswer") (mCons (mC (.ty "ArithmeticError")) mNil))) (mCons (mCB (isXD xT xTs xNs) (mCons (mExv0 "NoAnswer") (mCons (mC (.glo "WrongValue")) mNil))) mNil)))))) (mgName 2))
  (mSeq (mIfS (mBl (mBin neD (mVar 2) (mFrz (mLst (mCons (mC (.bl true)) (mCons (mC (.bl true)) (mCons (mC (.bl true)) (mCons (mC (.bl false)) mNil)))))))) (mRet (mC (.bl false))) mNext)
  (mRet (mCB (allD false) (mCons (mFrz (mLc (miRng1 (mCons (mCB max2D (mCons (mC (.int 2)) (mCons (mCB min2D (mCons (mCB lenUD (mCons (mVar 0) mNil)) (mCons (mC (.int 4)) mNil))) mNil))) mNil)) (mgName 3) (fun _ h => .ok true h) (mCall 1 F__law_right (mCons (mCall 2 F__law_spring (mCons (mVar 0) (mCons (mVar 3) mNil))) mNil)) [3])) mNil))))))))
def F_law : Fn := mFnT 4 m_law
end K01

/-! The head's run, shown in parts (each asks less of the kernel's memory than the whole). -/
namespace Ab
open PySem PySem.Spec PySem.W HandSHeadRun
noncomputable abbrev endR (r : OpenRow) (M : Nat) (w : World) (os : OsState) : Option SharedT := endF (stepQ (denQ tabQ) r.prog w) M r.prog w os
theorem run_of {r : OpenRow} {q : Program} {H : Hook} {ob : SharedT → H.α} {M : Nat} {loose : List PySem.Str} {w : World}
    (a : ∀ os, (endR r M w os).map (fun s => (looksF r.prog (boot_heap w.params) s.abs, seenQ q loose (importedModules r.prog.main.body) (fun s => xlAt q [] s && recOk r.toRowW.records s) s.abs)) = some (true, openGood q loose))
    (b : ∀ os, (endR r M w os).map ob = some (H.val w)) : RunEq r q H ob M loose w := fun os => by
  have a := a os
  have b := b os
  show (endR r M w os).map _ = _
  cases e : endR r M w os with
  | none => rw [e] at a; cases a
  | some s =>
    rw [e] at a b
    have a := Option.some.inj a
    have b := Option.some.inj b
    have a1 := congrArg Prod.fst a
    have a2 := congrArg Prod.snd a
    exact congrArg some (Prod.ext a1 (Prod.ext a2 b))
def RunA (r : OpenRow) (q : Program) (M : Nat) (loose : List PySem.Str) (w : World) : Prop :=
  ∀ os, (endR r M w os).map (fun s => (looksF r.prog (boot_heap w.params) s.abs, seenQ q loose (importedModules r.prog.main.body) (fun s => xlAt q [] s && recOk r.toRowW.records s) s.abs)) = some (true, openGood q loose)
def RunB (r : OpenRow) (M : Nat) (as : List Addr) (fb : List Hd.Fb) (w : World) : Prop :=
  ∀ os, (endR r M w os).map (fun s => fb.all fun f => f (He.frG (getT s) as)) = some true
def RunC (r : OpenRow) (M : Nat) (as : List Addr) (fn : List He5.DefA) (w : World) : Prop :=
  ∀ os, (endR r M w os).map (fun s => fn.all fun d => d.ok (He.frG (getT s) as)) = some true
def RunD (r : OpenRow) (M : Nat) (as : List Addr) (w : World) : Prop :=
  ∀ os, (endR r M w os).map (fun s => (tabs3 (He.frG (getT s) as)).all fun p => Hd.tabE (getT s p.2.1)) = some true
def RunE (r : OpenRow) (M : Nat) (as : List Addr) (fn : List He5.DefA) (xn : List Hd.ExA) (w : World) : Prop :=
  ∀ os, (endR r M w os).map (fun s => (fn.map fun d => He5.fnA (He.frG (getT s) as) (d.at_ (He.frG (getT s) as))) ++ xn.map fun x => Hd.exW (He.frG (getT s) as) (x.at_ (He.frG (getT s) as))) = some (fn.map He5.DefA.val ++ xn.map Hd.ExA.val)
theorem run_of6 {r : OpenRow} {q : Program} {as : List Addr} {fb : List Hd.Fb} {fn : List He5.DefA} {xn : List Hd.ExA} {M : Nat} {loose : List PySem.Str} {w : World}
    (a : RunA r q M loose w) (k : Nat) (b1 : RunB r M as (fb.take k) w) (b2 : RunB r M as (fb.drop k) w) (c : RunC r M as fn w) (d : RunD r M as w) (e : RunE r M as fn xn w) : RunEq r q (Hd.hookX as fb fn xn) (fun s => Hd.obsXL as fb fn xn (getT s)) M loose w :=
  run_of (H := Hd.hookX as fb fn xn) a fun os => by
    have b1 := b1 os
    have b2 := b2 os
    have c := c os
    have d := d os
    have e := e os
    cases z : endR r M w os with
    | none => rw [z] at b1; cases b1
    | some s =>
      rw [z] at b1 b2 c d e
      have b1 : ((fb.take k).all fun f => f (He.frG (getT s) as)) = true := Option.some.inj b1
      have b2 : ((fb.drop k).all fun f => f (He.frG (getT s) as)) = true := Option.some.inj b2
      have b : (fb.all fun f => f (He.frG (getT s) as)) = true := by
        rw [← List.take_append_drop k fb, List.all_append, b1, b2]; rfl
      have c : (fn.all fun d => d.ok (He.frG (getT s) as)) = true := Option.some.inj c
      have d : ((tabs3 (He.frG (getT s) as)).all fun p => Hd.tabE (getT s p.2.1)) = true := Option.some.inj d
      have e := Option.some.inj e
      refine congrArg some (Prod.ext ?_ e)
      show (((fb.all fun f => f (He.frG (getT s) as)) && fn.all fun d => d.ok (He.frG (getT s) as)) && (tabs3 (He.frG (getT s) as)).all fun p => Hd.tabE (getT s p.2.1)) = true
      rw [b, c, d]
      rfl
theorem RunB.app {r : OpenRow} {M : Nat} {as : List Addr} {l1 l2 : List Hd.Fb} {w : World} (a : RunB r M as l1 w) (b : RunB r M as l2 w) : RunB r M as (l1 ++ l2) w := fun os => by
  have a := a os
  have b := b os
  cases z : endR r M w os with
  | none => rw [z] at a; cases a
  | some s =>
    rw [z] at a b
    have a : (l1.all fun f => f (He.frG (getT s) as)) = true := Option.some.inj a
    have b : (l2.all fun f => f (He.frG (getT s) as)) = true := Option.some.inj b
    show some ((l1 ++ l2).all fun f => f (He.frG (getT s) as)) = some true
    rw [List.all_append, a, b]
    rfl
end Ab

/-! The head's facts of own exception classes that keep two. -/
namespace Ab
namespace Hd
open PySem PySem.W PySem.Calls PyProof.Rows
/-- what the text says of such an __init__ -/
structure IniL2 (qual f f2 : Str) (params : Arguments) (body : List Stmt) (scope : Scope) : Prop where
  ex : ∃ p0 p1 p2 p3 p4 p5 p6 p7 p8 p9 p10 p11 p12, body = [.Expr (.Call (.Attribute (.Call (.Name "super" p0) [] [] p1) "__init__" p2) [] [] p3) p4, .Assign [.Attribute (.Name "self" p5) f p6] (.Name f p7) p8, .Assign [.Attribute (.Name "self" p9) f2 p10] (.Name f2 p11) p12] ∧
    (∃ ar, (params.posonlyargs ++ params.args).head? = some ar ∧ ar.arg = ("self" : Str)) ∧ (∀ (a b b2 kV doc pm : Value) (an : Option Addr) (cda : Addr) (ct : Value) (cc : Addr), bindArgs (ksFn "__init__" qual params body scope .none kV doc pm an (.ref cda) ct cc) ⟨[a, b, b2], []⟩ = pure [(("self" : Str), a), (f, b), (f2, b2)]) ∧
    scope.names.lookup ("super" : Str) = some .globalImplicit ∧ scope.names.lookup ("__class__" : Str) = some .free ∧ scope.names.lookup ("self" : Str) = some .local ∧ scope.names.lookup f = some .local ∧ scope.names.lookup f2 = some .local ∧ scope.kind = .function ∧ (∀ x ∈ scope.names, x.2 ≠ .cell) ∧ scope.isCoroutine = false ∧ scope.isGenerator = false ∧
    (∀ L fI cda cc : Addr, swapsWith (.Name f p7) (some (.Attribute (.Name "self" p5) f p6)) p8.line (ksEnv qual scope L fI (.ref cda) cc) = pure false) ∧
    (∀ L fI cda cc : Addr, swapsWith (.Name f2 p11) (some (.Attribute (.Name "self" p9) f2 p10)) p12.line (ksEnv qual scope L fI (.ref cda) cc) = pure false) ∧
    (∀ L fI cda cc : Addr, swapsWith (.Call (.Attribute (.Call (.Name "super" p0) [] [] p1) "__init__" p2) [] [] p3) none p4.line (ksEnv qual scope L fI (.ref cda) cc) = pure false) ∧
    ∀ L fI cda cc : Addr, ∃ pl : Sem Bool, eval (.Call (.Attribute (.Call (.Name "super" p0) [] [] p1) "__init__" p2) [] [] p3) (ksEnv qual scope L fI (.ref cda) cc) = (do
      let ov ← attributeBase (.Call (.Name "super" p0) [] [] p1) "__init__" (ksEnv qual scope L fI (.ref cda) cc) (eval (.Call (.Name "super" p0) [] [] p1) (ksEnv qual scope L fI (.ref cda) cc))
      standAt p2.atName
      let (f, first) ← holding [ov] (getMethod ov "__init__" pl)
      callWith p3 f first (backTo p3 (starEach [] (ksEnv qual scope L fI (.ref cda) cc))) [])
theorem xfn_ok2 {K : Frag} {P : Program} {C fI : Addr} {qual file f : Str} {params : Arguments} {body : List Stmt} {scope : Scope} {c : Str} (e : exW K fI = ExA.val ⟨c, f, qual, params, body, scope⟩) (h : xfnB K C fI qual file = true) (hf : P.main.file = file) :
    ∃ oc od params' scope' dV kV doc pm an cda ct cc osl body', K.lookup fI = some ⟨oc, od, .func (ksFn "__init__" qual params' body' scope' dV kV doc pm an (.ref cda) ct cc), osl⟩ ∧ params' = params ∧ scope' = scope ∧ body' = body ∧ dV = .none ∧ codeIn K (.ref cda) qual = true ∧
      (∃ ccl cdd vs ccs file tf, K.lookup cda = some ⟨ccl, cdd, .fields vs, ccs⟩ ∧ vs[2]? = some (.str file tf) ∧ ((P.main.file : Str) == file) = true) ∧ (∃ cl cld csl, K.lookup cc = some ⟨cl, cld, .cell (some (.ref C)), csl⟩) := by
  unfold exW He5.fnA ExA.val at e
  unfold xfnB at h
  cases q : K.lookup fI with
  | none => rw [q] at h; cases h
  | some o =>
    obtain ⟨oc, od, dt, osl⟩ := o
    rw [q] at h e
    cases dt with
    | func fd =>
      obtain ⟨n1, n2, n3, n4, n5, n6, n7, n8, n9, n10, n11, n12, n13, n14, n15⟩ := fd
      simp only [Option.some.injEq, Prod.mk.injEq] at e
      obtain ⟨e1, e2, e3, e4, e5, e6, e7, e8⟩ := e
      subst e1 e2 e3 e4 e5 e6 e8
      simp only [Bool.and_eq_true, decide_eq_true_eq] at h
      obtain ⟨h1, h2, h3, h4⟩ := h
      subst h2
      match n7, e7, h4 with
      | [(nm, cc)], e7, h4 =>
        have enm : nm = "__class__" := by simpa using e7
        subst enm
        cases n13 with
        | ref cda =>
          dsimp only at h1 h3
          refine ⟨oc, od, _, _, _, n9, n10, n11, n12, cda, n14, cc, osl, _, rfl, rfl, rfl, rfl, rfl, h1, ?_, ?_⟩
          · cases q2 : K.lookup cda with
            | none => rw [q2] at h3; cases h3
            | some o2 =>
              obtain ⟨ccl, cdd, dt2, ccs⟩ := o2
              rw [q2] at h3
              cases dt2 with
              | fields vs =>
                dsimp only at h3
                split at h3
                · rename_i fl tf ev
                  exact ⟨ccl, cdd, vs, ccs, fl, tf, rfl, ev, by rw [hf]; exact h3⟩
                · cases h3
              | _ => cases h3
          · dsimp only at h4
            split at h4
            · rename_i c1 c2 C' c3 ev
              have : C' = C := by simpa using h4
              subst this
              exact ⟨_, _, _, ev⟩
            · cases h4
        | _ => cases h3
    | _ => cases h
open PySem PySem.Spec PySem.Calls PyProof.Rows PySem.W
/-- all of such a class -/
def exBB2 (B newId initId : String) (tl : List Value) (c f f2 qual file : Str) : Fb := fun K => xclBB newId tl K (He.ga K c) && (decide (findIn K (.ref (He.ga K c)) "__init__" = some (some (.ref (He.ma K (He.ga K c) "__init__")))) && (decide (typeIn K (.ref (He.ma K (He.ga K c) "__init__")) = some (.type "function")) &&
  (xfnB K (He.ga K c) (He.ma K (He.ga K c) "__init__") qual file && (decide (ks_superIn K (He.ga K c) (He.ga K c) "__init__" = some (some (.builtin initId))) && (decide (subIn K (.ref (He.ga K c)) (.type B) = some true) && (decide (mroIn K (He.ga K c) (.ref (He.ga K c)) = some true) &&
  (decide (nsIn K cStatics "thirdparty.any" = some none) && (decide (findIn K (.ref (He.ga K c)) "__setattr__" = some (some (.builtin "object.__setattr__"))) && (decide (findIn K (.ref (He.ga K c)) f = some none) && (decide (findIn K (.ref (He.ga K c)) f2 = some none) && (decide (subIn K (.ref (He.ga K c)) (.type "BaseException") = some true) &&
  (decide (typeIn K (.ref (He.ga K c)) = some (.type "type")) && keepIn K (.ref (He.ga K c))))))))))))))
theorem ex_okB2 {B newId initId : String} {tl : List Value} (XF : Exb.XbF B newId initId tl) {K : Frag} {P : Program} {mg : Str → Option Value} {c f f2 qual file : Str} {params : Arguments} {body : List Stmt} {scope : Scope} (h : exBB2 B newId initId tl c f f2 qual file K = true) (e : exW K (He.ma K (He.ga K c) "__init__") = ExA.val ⟨c, f, qual, params, body, scope⟩) (hf : P.main.file = file)
    (ht : (P.main.scope.names.lookup ("super" : Str)).isSome = false) (T : IniL2 qual f f2 params body scope) (hm : mg c = some (.ref (He.ga K c))) (hs : mg "super" = none) (n1 : f ≠ "self" := by decide) (n2 : (f == ("__debug__" : Str)) = false := by decide) (n3 : f2 ≠ "self" := by decide) (n4 : f2 ≠ f := by decide) (n5 : (f2 == ("__debug__" : Str)) = false := by decide) : ExKB2 P K mg c f f2 := by
  unfold exBB2 at h
  simp only [Bool.and_eq_true, decide_eq_true_eq] at h
  obtain ⟨h1, h2, h3, h4, h5, h6, h7, h8, h9, h10, h10b, h11, h12, h13⟩ := h
  have hc := xclBB_ok h1
  obtain ⟨oc, od, params', scope', dV, kV, doc, pm, an, cda, ct, cc, osl, body', lk, e1, e2, e3, e4, hcd, hcode, hcell⟩ := xfn_ok2 e h4 hf
  subst e1 e2 e3 e4
  obtain ⟨p0, p1, p2, p3, p4, p5, p6, p7, p8, p9, p10, p11, p12, eb, har, hbind, k1, k2, k3, k4, k4b, k5, k6, k7, k8, sw1, sw1b, sw2, hev⟩ := T.ex
  subst eb
  exact ⟨B, newId, initId, tl, _, XF, ⟨hc, ⟨oc, od, qual, params', scope', .none, kV, doc, pm, an, cda, ct, cc, osl, p0, p1, p2, p3, p4, p5, p6, p7, p8, p9, p10, p11, p12, lk, hcd, hcode, hcell, har, fun a b b2 => hbind a b b2 kV doc pm an cda ct cc, k1, k2, k3, k4, k4b, k5, k6, k7, k8,
    fun L => sw1 L _ cda cc, fun L => sw1b L _ cda cc, fun L => sw2 L _ cda cc, fun L => hev L _ cda cc⟩, h5, h6, h7, h8, h9, h10, h10b, ht, n1, n3, n4, n2, n5⟩, h2, h3, ⟨hc, h11, h12, h13⟩, hm, hs⟩
end Hd
end Ab

/-! The head's facts: keywords of own exceptions. -/
namespace Ab
namespace Exb
open PySem PySem.Spec PySem.Calls PyProof.Rows PySem.W
abbrev veTail : List Value := [.type "ValueError", .type "Exception", .type "BaseException", .type "object"]
theorem xb_VE : XbF "ValueError" "ValueError.__new__" "ValueError.__init__" veTail := ⟨F.excBase_ValueError, kxs_ValueError, F.store_ValueError.passes, by decide +kernel⟩
end Exb
namespace Hd
open PySem PySem.Spec PySem.Calls PyProof.Rows PySem.W
theorem kw_ok {B newId initId : String} {tl : List Value} {K : Frag} {P : Program} {c f qual file : Str} {params : Arguments} {body : List Stmt} {scope : Scope} (h : exBB B newId initId tl c f qual file K = true) (e : exW K (He.ma K (He.ga K c) "__init__") = ExA.val ⟨c, f, qual, params, body, scope⟩) (hf : P.main.file = file)
    (T : IniL qual f params body scope) (T2 : ∀ (a b kV doc pm : Value) (an : Option Addr) (cda : Addr) (ct : Value) (cc : Addr), bindArgs (ksFn "__init__" qual params body scope .none kV doc pm an (.ref cda) ct cc) ⟨[a], [(f, b)]⟩ = pure [(("self" : Str), a), (f, b)]) : KwI K c [f] ["self", f] (fun l => l) := by
  unfold exBB at h
  simp only [Bool.and_eq_true, decide_eq_true_eq] at h
  obtain ⟨h1, h2, h3, h4, h5, h6, h7, h8, h9, h10, h11, h12, h13⟩ := h
  obtain ⟨oc, od, params', scope', dV, kV, doc, pm, an, cda, ct, cc, osl, body', lk, e1, e2, e3, e4, hcd, hcode, hcell⟩ := xfn_ok e h4 hf T
  subst e1 e2 e3 e4
  intro fI fd hfI lk2 a ws hl
  rw [h2] at hfI
  cases hfI
  obtain ⟨oc2, od2, osl2, lk2⟩ := lk2
  rw [lk] at lk2
  cases lk2
  match ws, hl with
  | [b], _ => exact T2 a b kV doc pm an cda ct cc
theorem kw_ok2 {B newId initId : String} {tl : List Value} {K : Frag} {P : Program} {c f f2 qual file : Str} {params : Arguments} {body : List Stmt} {scope : Scope} (h : exBB2 B newId initId tl c f f2 qual file K = true) (e : exW K (He.ma K (He.ga K c) "__init__") = ExA.val ⟨c, f, qual, params, body, scope⟩) (hf : P.main.file = file)
    (T2 : ∀ (a b b2 kV doc pm : Value) (an : Option Addr) (cda : Addr) (ct : Value) (cc : Addr), bindArgs (ksFn "__init__" qual params body scope .none kV doc pm an (.ref cda) ct cc) ⟨[a], [(f2, b2), (f, b)]⟩ = pure [(("self" : Str), a), (f, b), (f2, b2)]) : KwI K c [f2, f] ["self", f, f2] (fun l => l.reverse) := by
  unfold exBB2 at h
  simp only [Bool.and_eq_true, decide_eq_true_eq] at h
  obtain ⟨h1, h2, h3, h4, h5, h6, h7, h8, h9, h10, h10b, h11, h12, h13⟩ := h
  obtain ⟨oc, od, params', scope', dV, kV, doc, pm, an, cda, ct, cc, osl, body', lk, e1, e2, e3, e4, hcd, hcode, hcell⟩ := xfn_ok2 e h4 hf
  subst e1 e2 e3 e4
  intro fI fd hfI lk2 a ws hl
  rw [h2] at hfI
  cases hfI
  obtain ⟨oc2, od2, osl2, lk2⟩ := lk2
  rw [lk] at lk2
  cases lk2
  match ws, hl with
  | [b2, b], _ => exact T2 a b b2 kV doc pm an cda ct cc
end Hd
end Ab

namespace K01
open PySem PySem.Spec PyProof.Rows L2 Ab
/-! each def is walked -/
theorem sc__law_spring : FnScope ["_law_cells", "_law_k", "_law_cell", "_law_mixed", "_law_number"] ["_law_cells", "_law_k"] (defScope s__law_spring) := ⟨rfl, rfl, rfl, by decide +kernel, rfl, by decide +kernel, by decide +kernel⟩
theorem sc__law_draw : FnScope ["_law_spring_here", "_law_size", "_law_digit", "_law_far", "_law_mixed"] ["_law_spring_here", "_law_size"] (defScope s__law_draw) := ⟨rfl, rfl, rfl, by decide +kernel, rfl, by decide +kernel, by decide +kernel⟩
theorem sc__law_error : FnScope ["_law_e", "_law_fits_here", "_law_words", "_law_bases", "_law_plain_ones", "_law_at"] ["_law_e"] (defScope s__law_error) := ⟨rfl, rfl, rfl, by decide +kernel, rfl, by decide +kernel, by decide +kernel⟩
theorem sc__law_field : FnScope ["_law_e", "_law_word_now"] ["_law_e", "_law_word_now"] (defScope s__law_field) := ⟨rfl, rfl, rfl, by decide +kernel, rfl, by decide +kernel, by decide +kernel⟩
theorem sc__law_of : FnScope ["_law_spring_here", "_law_menu"] ["_law_spring_here", "_law_menu"] (defScope s__law_of) := ⟨rfl, rfl, rfl, by decide +kernel, rfl, by decide +kernel, by decide +kernel⟩
theorem sc__law_odd : FnScope ["_law_spring_here", "_law_some"] ["_law_spring_here"] (defScope s__law_odd) := ⟨rfl, rfl, rfl, by decide +kernel, rfl, by decide +kernel, by decide +kernel⟩
theorem sc__law_errors : FnScope ["_law_thing", "_law_some"] ["_law_thing"] (defScope s__law_errors) := ⟨rfl, rfl, rfl, by decide +kernel, rfl, by decide +kernel, by decide +kernel⟩
theorem sc__law_right : FnScope ["_law_spring_here", "_law_thing", "_law_mate", "_law_words", "_law_some", "_law_k", "_law_word_now", "_law_pairs", "_law_each"] ["_law_spring_here"] (defScope s__law_right) := ⟨rfl, rfl, rfl, by decide +kernel, rfl, by decide +kernel, by decide +kernel⟩
theorem sc_law : FnScope ["_law_script", "_law_told", "_law_bases", "_law_k"] ["_law_script"] (defScope s_law) := ⟨rfl, rfl, rfl, by decide +kernel, rfl, by decide +kernel, by decide +kernel⟩
section
variable {P : Program} {w : World} {K : PySem.W.Frag} {mg : Str → Option Value} {base : Heap} {f : Addr} {fd : FuncData}
theorem ok__law_spring (F : FnP K "_law_spring" "_law_spring" s__law_spring f fd) (g_abs : mg "abs" = none) (g_int : mg "int" = none) (g_len : mg "len" = none) :
    FnG P w K mg base (L2.CX P w) 1 f fd ["_law_cells", "_law_k"] (spD K 2 F__law_spring) := by
  refine fn_okKG F sc__law_spring fun cdv A outer s H E hr hgu => ?_
  exact JSs.b (K := K) (m := m__law_spring) (jss_cons (js_set 2 sc__law_spring.nd (je_if (jt_cmp jc_lt (je_v 1) (je_b jb_lenU g_len (ja_cons (je_v 0) ja_nil))) (je_ixU hr (je_v 0) (je_v 1)) (je_addU (je_mulU je_int (je_v 1)) je_int)))
    (jss_cons (js_set 3 sc__law_spring.nd (je_addU je_int (je_mulU je_int (je_v 1))))
    (jss_cons (js_for (ji_U (JF.f (jf_cat (JF.f (jf_sl (je_v 0) jo_none (jo_some je_int))) (JF.f (jf_lst (ja_cons (je_v 2) ja_nil)))))) (jg_n 4 sc__law_spring.nd) (jss_one (js_set 3 sc__law_spring.nd (je_mod (je_t jb_intU g_int (ja_cons (je_addU (je_addU (je_mulU (je_v 3) je_int) (je_t jb_intU g_int (ja_cons (je_v 4) ja_nil))) (je_mulU je_int (je_v 1))) ja_nil)) je_int))))
    (jss_one (js_ret (JF.o (jf_lst (ja_cons (je_if (JW.jt (jw_or (jt_cmp jc_lt (je_v 2) je_int) (jw_or1 (jt_cmp jc_ge (je_v 2) (je_pow je_int je_int))))) (je_b jb_abs g_abs (ja_cons (je_v 2) ja_nil)) je_int) (ja_cons (je_v 3) (ja_cons je_int ja_nil))))))))))
theorem ok__law_draw (F : FnP K "_law_draw" "_law_draw" s__law_draw f fd) (g_divmod : mg "divmod" = none) (g_int : mg "int" = none) :
    FnG P w K mg base (L2.CX P w) 1 f fd ["_law_spring_here", "_law_size"] (spD K 2 F__law_draw) := by
  refine fn_okTG F sc__law_draw fun cdv A outer s H E hr hgu => ?_
  exact JSs.b (K := K) (m := m__law_draw) (jss_cons (js_asg (je_addU (je_ixU hr (je_v 0) je_int) je_int) (jg_subU hr (je_v 0) je_int))
    (jss_cons (js_asg (je_mod (je_t jb_intU g_int (ja_cons (je_addU (je_addU (je_mulU (je_ixU hr (je_v 0) je_int) je_int) (je_mulU je_int (je_ixU hr (je_v 0) je_int))) je_int) ja_nil)) je_int) (jg_subU hr (je_v 0) je_int))
    (jss_cons (js_if (jt_cmp jc_gt (je_ixU hr (je_v 0) je_int) je_int) (jss_cons (js_asg (je_b jb_divmod g_divmod (ja_cons (je_ixU hr (je_v 0) je_int) (ja_cons (je_v 1) ja_nil))) (jg_seqT (jgs_cons (jg_subU hr (je_v 0) je_int) (jgs_cons (jg_n 2 sc__law_draw.nd) jgs_nil))))
    (jss_one (js_ret (je_v 2)))) jss_nil)
    (jss_cons (js_set 3 sc__law_draw.nd (je_addU (je_ixU hr (je_v 0) je_int) je_int))
    (jss_cons (js_set 4 sc__law_draw.nd (je_mod (je_t jb_intU g_int (ja_cons (je_addU (je_mulU (je_v 3) (je_ixU hr (je_v 0) je_int)) (je_ixU hr (je_v 0) je_int)) ja_nil)) je_int))
    (jss_one (js_ret (je_mod (je_t jb_intU g_int (ja_cons (je_div (je_v 4) je_int) ja_nil)) (je_v 1)))))))))
theorem ok__law_error (F : FnP K "_law_error" "_law_error" s__law_error f fd) (g_Broken : mg "Broken" = some (.ref (He.ga K "Broken"))) (g_InUse : mg "InUse" = some (.ref (He.ga K "InUse"))) (g_InvalidChain : mg "InvalidChain" = some (.ref (He.ga K "InvalidChain"))) (g_InvalidExchanges : mg "InvalidExchanges" = some (.ref (He.ga K "InvalidExchanges"))) (g_InvalidLot : mg "InvalidLot" = some (.ref (He.ga K "InvalidLot"))) (g_InvalidMove : mg "InvalidMove" = some (.ref (He.ga K "InvalidMove"))) (g_InvalidName : mg "InvalidName" = some (.ref (He.ga K "InvalidName"))) (g_InvalidNumber : mg "InvalidNumber" = some (.ref (He.ga K "InvalidNumber"))) (g_InvalidPlan : mg "InvalidPlan" = some (.ref (He.ga K "InvalidPlan"))) (g_InvalidRows : mg "InvalidRows" = some (.ref (He.ga K "InvalidRows"))) (g_InvalidStanding : mg "InvalidStanding" = some (.ref (He.ga K "InvalidStanding"))) (g_InvalidText : mg "InvalidText" = some (.ref (He.ga K "InvalidText"))) (g_InvalidTurn : mg "InvalidTurn" = some (.ref (He.ga K "InvalidTurn"))) (g_InvalidTurns : mg "InvalidTurns" = some (.ref (He.ga K "InvalidTurns"))) (g_InvalidWish : mg "InvalidWish" = some (.ref (He.ga K "InvalidWish"))) (g_InvalidWishes : mg "InvalidWishes" = some (.ref (He.ga K "InvalidWishes"))) (g_NoAnswer : mg "NoAnswer" = some (.ref (He.ga K "NoAnswer"))) (g_NotATable : mg "NotATable" = some (.ref (He.ga K "NotATable"))) (g_NothingToUndo : mg "NothingToUndo" = some (.ref (He.ga K "NothingToUndo"))) (g_TooMany : mg "TooMany" = some (.ref (He.ga K "TooMany"))) (g_UnknownName : mg "UnknownName" = some (.ref (He.ga K "UnknownName"))) (g_WrongName : mg "WrongName" = some (.ref (He.ga K "WrongName"))) (g_WrongValue : mg "WrongValue" = some (.ref (He.ga K "WrongValue"))) (xis_T : XIs K xT xTs xNs) (g_ArithmeticError : mg "ArithmeticError" = none) (g_LookupError : mg "LookupError" = none) (g_ValueError : mg "ValueError" = none) (g_isinstance : mg "isinstance" = none) :
    FnG P w K mg base (L2.CX P w) 1 f fd ["_law_e"] (spD K 1 F__law_error) := by
  refine fn_okTG F sc__law_error fun cdv A outer s H E hr hgu => ?_
  exact JSs.b (K := K) (m := m__law_error) (jss_cons (js_set 1 sc__law_error.nd (JF.f (jf_lst (ja_cons (je_b (jb_isX xis_T) g_isinstance (ja_cons (je_v 0) (ja_cons (je_glo g_InvalidText) ja_nil))) (ja_cons (je_b (jb_isX xis_T) g_isinstance (ja_cons (je_v 0) (ja_cons (je_glo g_InvalidNumber) ja_nil))) (ja_cons (je_b (jb_isX xis_T) g_isinstance (ja_cons (je_v 0) (ja_cons (je_glo g_InvalidStanding) ja_nil))) ja_nil))))))
    (jss_cons (js_set 1 sc__law_error.nd (JF.f (jf_cat (je_v 1) (JF.f (jf_lst (ja_cons (je_b (jb_isX xis_T) g_isinstance (ja_cons (je_v 0) (ja_cons (je_glo g_InvalidMove) ja_nil))) (ja_cons (je_b (jb_isX xis_T) g_isinstance (ja_cons (je_v 0) (ja_cons (je_glo g_InvalidTurn) ja_nil))) (ja_cons (je_b (jb_isX xis_T) g_isinstance (ja_cons (je_v 0) (ja_cons (je_glo g_InvalidLot) ja_nil))) ja_nil))))))))
    (jss_cons (js_set 1 sc__law_error.nd (JF.f (jf_cat (je_v 1) (JF.f (jf_lst (ja_cons (je_b (jb_isX xis_T) g_isinstance (ja_cons (je_v 0) (ja_cons (je_glo g_InvalidName) ja_nil))) (ja_cons (je_b (jb_isX xis_T) g_isinstance (ja_cons (je_v 0) (ja_cons (je_glo g_InvalidWish) ja_nil))) (ja_cons (je_b (jb_isX xis_T) g_isinstance (ja_cons (je_v 0) (ja_cons (je_glo g_NotATable) ja_nil))) ja_nil))))))))
    (jss_cons (js_set 1 sc__law_error.nd (JF.f (jf_cat (je_v 1) (JF.f (jf_lst (ja_cons (je_b (jb_isX xis_T) g_isinstance (ja_cons (je_v 0) (ja_cons (je_glo g_InvalidRows) ja_nil))) (ja_cons (je_b (jb_isX xis_T) g_isinstance (ja_cons (je_v 0) (ja_cons (je_glo g_InvalidPlan) ja_nil))) (ja_cons (je_b (jb_isX xis_T) g_isinstance (ja_cons (je_v 0) (ja_cons (je_glo g_InvalidTurns) ja_nil))) ja_nil))))))))
    (jss_cons (js_set 1 sc__law_error.nd (JF.f (jf_cat (je_v 1) (JF.f (jf_lst (ja_cons (je_b (jb_isX xis_T) g_isinstance (ja_cons (je_v 0) (ja_cons (je_glo g_InvalidChain) ja_nil))) (ja_cons (je_b (jb_isX xis_T) g_isinstance (ja_cons (je_v 0) (ja_cons (je_glo g_InvalidExchanges) ja_nil))) ja_nil)))))))
    (jss_cons (js_set 1 sc__law_error.nd (JF.f (jf_cat (je_v 1) (JF.f (jf_lst (ja_cons (je_b (jb_isX xis_T) g_isinstance (ja_cons (je_v 0) (ja_cons (je_glo g_InvalidWishes) ja_nil))) (ja_cons (je_b (jb_isX xis_T) g_isinstance (ja_cons (je_v 0) (ja_cons (je_glo g_UnknownName) ja_nil))) (ja_cons (je_b (jb_isX xis_T) g_isinstance (ja_cons (je_v 0) (ja_cons (je_glo g_InUse) ja_nil))) ja_nil))))))))
    (jss_cons (js_set 1 sc__law_error.nd (JF.f (jf_cat (je_v 1) (JF.f (jf_lst (ja_cons (je_b (jb_isX xis_T) g_isinstance (ja_cons (je_v 0) (ja_cons (je_glo g_TooMany) ja_nil))) (ja_cons (je_b (jb_isX xis_T) g_isinstance (ja_cons (je_v 0) (ja_cons (je_glo g_Broken) ja_nil))) (ja_cons (je_b (jb_isX xis_T) g_isinstance (ja_cons (je_v 0) (ja_cons (je_glo g_NothingToUndo) ja_nil))) ja_nil))))))))
    (jss_cons (js_set 2 sc__law_error.nd (JF.f (jf_lst (ja_cons je_str (ja_cons je_str (ja_cons je_str (ja_cons je_str (ja_cons je_str (ja_cons je_str ja_nil)))))))))
    (jss_cons (js_set 2 sc__law_error.nd (JF.f (jf_cat (je_v 2) (JF.f (jf_lst (ja_cons je_str (ja_cons je_str (ja_cons je_str (ja_cons je_str (ja_cons je_str (ja_cons je_str ja_nil)))))))))))
    (jss_cons (js_set 2 sc__law_error.nd (JF.f (jf_cat (je_v 2) (JF.f (jf_lst (ja_cons je_str (ja_cons je_str (ja_cons je_str (ja_cons je_str (ja_cons je_str (ja_cons je_str ja_nil)))))))))))
    (jss_cons (js_set 2 sc__law_error.nd (JF.f (jf_cat (je_v 2) (JF.f (jf_lst (ja_cons je_str (ja_cons je_str ja_nil)))))))
    (jss_cons (js_set 3 sc__law_error.nd (JF.f (jf_lst (ja_cons (je_b (jb_isX xis_T) g_isinstance (ja_cons (je_v 0) (ja_cons (je_glo g_WrongValue) ja_nil))) (ja_cons (je_b (jb_isX xis_T) g_isinstance (ja_cons (je_v 0) (ja_cons (je_glo g_WrongName) ja_nil))) (ja_cons (je_b (jb_isX xis_T) g_isinstance (ja_cons (je_v 0) (ja_cons (je_glo g_NoAnswer) ja_nil))) ja_nil))))))
    (jss_cons (js_set 4 sc__law_error.nd (JF.f (jf_lst (ja_cons (je_b (jb_isX xis_T) g_isinstance (ja_cons (je_v 0) (ja_cons (je_ty g_ValueError) ja_nil))) (ja_cons (je_b (jb_isX xis_T) g_isinstance (ja_cons (je_v 0) (ja_cons (je_ty g_LookupError) ja_nil))) (ja_cons (je_b (jb_isX xis_T) g_isinstance (ja_cons (je_v 0) (ja_cons (je_ty g_ArithmeticError) ja_nil))) ja_nil))))))
    (jss_cons (js_if (JW.jt (jw_or (jt_cmp (jc_ne hr) (je_m PySem.F.plainAttrs_list PySem.F.slot_list_count PySem.F.type_list_count (jm_count hr) (je_v 1) (ja_cons je_bl ja_nil)) je_int) (jw_or1 (jt_cmp (jc_ne hr) (je_v 3) (je_v 4))))) (jss_one (js_ret je_str)) jss_nil)
    (jss_cons (js_set 5 sc__law_error.nd (je_m PySem.F.plainAttrs_list PySem.F.slot_list_index PySem.F.type_list_index (jm_index hr) (je_v 1) (ja_cons je_bl ja_nil)))
    (jss_one (js_ret (je_if (jt_cmp (jc_eq hr) (je_v 3) (JF.f (jf_lst (ja_cons (je_cmp jc_lt (je_v 5) je_int) (ja_cons (je_chain jc_lt jc_lt je_int (je_v 5) je_int) (ja_cons (je_cmp jc_gt (je_v 5) je_int) ja_nil)))))) (je_ixU hr (je_v 2) (je_v 5)) je_str))))))))))))))))))
theorem ok__law_field (F : FnP K "_law_field" "_law_field" s__law_field f fd) (xa_given : XAt K xCl_given "given") (xa_index : XAt K xCl_index "index") (xa_shown : XAt K xCl_shown "shown") :
    FnG P w K mg base (L2.CX P w) 1 f fd ["_law_e", "_law_word_now"] (spD K 2 F__law_field) := by
  refine fn_okTG F sc__law_field fun cdv A outer s H E hr hgu => ?_
  exact JSs.b (K := K) (m := m__law_field) (jss_cons (js_if (jt_cmp (jc_inU hr) (je_v 1) (JF.f (jf_lst (ja_cons je_str (ja_cons je_str (ja_cons je_str (ja_cons je_str (ja_cons je_str ja_nil)))))))) (jss_one (js_ret (je_xat xa_index (je_v 0)))) jss_nil)
    (jss_cons (js_if (jt_cmp (jc_inU hr) (je_v 1) (JF.f (jf_lst (ja_cons je_str (ja_cons je_str ja_nil))))) (jss_one (js_ret (je_xat xa_index (je_v 0)))) jss_nil)
    (jss_cons (js_if (jt_cmp (jc_eq hr) (je_v 1) je_str) (jss_one (js_ret (JF.f (jf_lst (ja_cons (je_xat xa_index (je_v 0)) (ja_cons (je_xat xa_shown (je_v 0)) ja_nil)))))) jss_nil)
    (jss_one (js_ret (je_if (jt_cmp (jc_inU hr) (je_v 1) (JF.f (jf_lst (ja_cons je_str (ja_cons je_str ja_nil))))) je_non (je_xat xa_given (je_v 0))))))))
theorem ok__law_of (F : FnP K "_law_of" "_law_of" s__law_of f fd) (C__law_draw : Cal P w K mg base 1 "_law_draw" ["_law_spring_here", "_law_size"] F__law_draw s__law_draw) (g_len : mg "len" = none) :
    FnG P w K mg base (L2.CX P w) 2 f fd ["_law_spring_here", "_law_menu"] (spD K 2 F__law_of) := by
  refine fn_okTG F sc__law_of fun cdv A outer s H E hr hgu => ?_
  exact JSs.b (K := K) (m := m__law_of) (jss_one (js_ret (je_ixU hr (je_v 1) (je_call C__law_draw (hr.mono (by decide)) hgu (ja_cons (je_v 0) (ja_cons (je_b jb_lenU g_len (ja_cons (je_v 1) ja_nil)) ja_nil))))))
theorem ok__law_odd (F : FnP K "_law_odd" "_law_odd" s__law_odd f fd) (C__law_of : Cal P w K mg base 2 "_law_of" ["_law_spring_here", "_law_menu"] F__law_of s__law_of) :
    FnG P w K mg base (L2.CX P w) 3 f fd ["_law_spring_here"] (spD K 1 F__law_odd) := by
  refine fn_okTG F sc__law_odd fun cdv A outer s H E hr hgu => ?_
  exact JSs.b (K := K) (m := m__law_odd) (jss_cons (js_set 1 sc__law_odd.nd (JF.f (jf_lst (ja_cons je_non (ja_cons je_bl (ja_cons je_bl (ja_cons je_int (ja_cons je_int (ja_cons (je_neg je_int) (ja_cons je_int (ja_cons (je_pow je_int je_int) (ja_cons je_str (ja_cons je_str (ja_cons je_str (ja_cons je_str (ja_cons je_str (ja_cons je_str ja_nil)))))))))))))))))
    (jss_cons (js_set 1 sc__law_odd.nd (JF.f (jf_cat (je_v 1) (JF.f (jf_lst (ja_cons je_str (ja_cons (je_tup ja_nil) (ja_cons (je_tup (ja_cons je_int ja_nil)) (ja_cons (je_tup (ja_cons je_int (ja_cons je_int ja_nil))) (ja_cons (je_tup (ja_cons je_int (ja_cons je_int (ja_cons je_int ja_nil)))) (ja_cons (je_tup (ja_cons je_int (ja_cons je_int (ja_cons je_int (ja_cons je_int ja_nil))))) (ja_cons (je_tup (ja_cons je_bl (ja_cons je_int (ja_cons je_int ja_nil)))) (ja_cons (je_tup (ja_cons (je_tup (ja_cons je_int (ja_cons je_int (ja_cons je_int ja_nil)))) ja_nil)) (ja_cons (je_tup (ja_cons (je_tup (ja_cons je_int (ja_cons je_int ja_nil))) ja_nil)) ja_nil))))))))))))))
    (jss_cons (js_set 1 sc__law_odd.nd (JF.f (jf_cat (je_v 1) (JF.f (jf_lst (ja_cons (JF.f (jf_lst ja_nil)) (ja_cons (JF.f (jf_lst (ja_cons je_int ja_nil))) (ja_cons (JF.f (jf_lst (ja_cons je_str ja_nil))) (ja_cons je_dk0 (ja_cons (je_dk1 je_str je_int) (ja_cons (je_tup (ja_cons (JF.f (jf_lst ja_nil)) ja_nil)) (ja_cons (je_tup (ja_cons je_non ja_nil)) (ja_cons (je_tup (ja_cons (je_tup ja_nil) ja_nil)) (ja_cons (je_tup (ja_cons (je_tup (ja_cons je_int (ja_cons (je_tup (ja_cons je_int (ja_cons je_int ja_nil))) ja_nil))) ja_nil)) (ja_cons (je_tup (ja_cons je_str ja_nil)) (ja_cons (je_tup (ja_cons je_str ja_nil)) ja_nil))))))))))))))))
    (jss_one (js_ret (je_call C__law_of (hr.mono (by decide)) hgu (ja_cons (je_v 0) (ja_cons (JF.f (jf_cat (je_v 1) (JF.f (jf_lst (ja_cons (je_tup (ja_cons je_str (ja_cons (je_tup ja_nil) ja_nil))) (ja_cons (je_tup (ja_cons je_str (ja_cons je_int ja_nil))) (ja_cons (je_tup (ja_cons je_str (ja_cons je_str (ja_cons je_str ja_nil)))) (ja_cons (je_tup (ja_cons je_str (ja_cons (je_tup (ja_cons je_str ja_nil)) ja_nil))) (ja_cons (je_tup (ja_cons je_bl ja_nil)) ja_nil))))))))) ja_nil))))))))
theorem ok__law_errors (F : FnP K "_law_errors" "_law_errors" s__law_errors f fd) (x_InUse : ExKB P K mg "InUse" "index") (x_InvalidChain : ExKB P K mg "InvalidChain" "index") (x_InvalidExchanges : ExKB P K mg "InvalidExchanges" "index") (x_InvalidLot : ExKB P K mg "InvalidLot" "given") (x_InvalidMove : ExKB P K mg "InvalidMove" "given") (x_InvalidName : ExKB P K mg "InvalidName" "given") (x_InvalidNumber : ExKB P K mg "InvalidNumber" "given") (x_InvalidPlan : ExKB P K mg "InvalidPlan" "index") (x_InvalidRows : ExKB P K mg "InvalidRows" "index") (x_InvalidStanding : ExKB P K mg "InvalidStanding" "given") (x_InvalidText : ExKB P K mg "InvalidText" "given") (x_InvalidTurn : ExKB P K mg "InvalidTurn" "given") (x_InvalidTurns : ExKB P K mg "InvalidTurns" "index") (x_InvalidWish : ExKB P K mg "InvalidWish" "given") (x_InvalidWishes : ExKB P K mg "InvalidWishes" "index") (x_NotATable : ExKB P K mg "NotATable" "given") (x_TooMany : ExKB P K mg "TooMany" "given") (x_UnknownName : ExKB P K mg "UnknownName" "given") (w_InUse : KwI K "InUse" ["index"] ["self", "index"] (fun l => l)) (w_InvalidChain : KwI K "InvalidChain" ["index"] ["self", "index"] (fun l => l)) (w_InvalidExchanges : KwI K "InvalidExchanges" ["index"] ["self", "index"] (fun l => l)) (w_InvalidLot : KwI K "InvalidLot" ["given"] ["self", "given"] (fun l => l)) (w_InvalidMove : KwI K "InvalidMove" ["given"] ["self", "given"] (fun l => l)) (w_InvalidName : KwI K "InvalidName" ["given"] ["self", "given"] (fun l => l)) (w_InvalidNumber : KwI K "InvalidNumber" ["given"] ["self", "given"] (fun l => l)) (w_InvalidPlan : KwI K "InvalidPlan" ["index"] ["self", "index"] (fun l => l)) (w_InvalidRows : KwI K "InvalidRows" ["index"] ["self", "index"] (fun l => l)) (w_InvalidStanding : KwI K "InvalidStanding" ["given"] ["self", "given"] (fun l => l)) (w_InvalidText : KwI K "InvalidText" ["given"] ["self", "given"] (fun l => l)) (w_InvalidTurn : KwI K "InvalidTurn" ["given"] ["self", "given"] (fun l => l)) (w_InvalidTurns : KwI K "InvalidTurns" ["index"] ["self", "index"] (fun l => l)) (w_InvalidWish : KwI K "InvalidWish" ["given"] ["self", "given"] (fun l => l)) (w_InvalidWishes : KwI K "InvalidWishes" ["index"] ["self", "index"] (fun l => l)) (w_NotATable : KwI K "NotATable" ["given"] ["self", "given"] (fun l => l)) (w_TooMany : KwI K "TooMany" ["given"] ["self", "given"] (fun l => l)) (w_UnknownName : KwI K "UnknownName" ["given"] ["self", "given"] (fun l => l)) :
    FnG P w K mg base (L2.CX P w) 3 f fd ["_law_thing"] (spD K 1 F__law_errors) := by
  refine fn_okTG F sc__law_errors fun cdv A outer s H E hr hgu => ?_
  exact JSs.b (K := K) (m := m__law_errors) (jss_cons (js_set 1 sc__law_errors.nd (JF.f (jf_lst (ja_cons (je_exv (k := 0) x_InvalidText (hr.mono (by decide)) (je_v 0)) (ja_cons (je_exvK (k := 0) x_InvalidText w_InvalidText (hr.mono (by decide)) (jk_cons (je_v 0) jk_nil)) (ja_cons (je_exv (k := 0) x_InvalidNumber (hr.mono (by decide)) (je_v 0)) (ja_cons (je_exvK (k := 0) x_InvalidNumber w_InvalidNumber (hr.mono (by decide)) (jk_cons (je_v 0) jk_nil)) ja_nil)))))))
    (jss_cons (js_set 1 sc__law_errors.nd (JF.f (jf_cat (je_v 1) (JF.f (jf_lst (ja_cons (je_exv (k := 0) x_InvalidStanding (hr.mono (by decide)) (je_v 0)) (ja_cons (je_exvK (k := 0) x_InvalidStanding w_InvalidStanding (hr.mono (by decide)) (jk_cons (je_v 0) jk_nil)) (ja_cons (je_exv (k := 0) x_InvalidMove (hr.mono (by decide)) (je_v 0)) (ja_cons (je_exvK (k := 0) x_InvalidMove w_InvalidMove (hr.mono (by decide)) (jk_cons (je_v 0) jk_nil)) ja_nil)))))))))
    (jss_cons (js_set 1 sc__law_errors.nd (JF.f (jf_cat (je_v 1) (JF.f (jf_lst (ja_cons (je_exv (k := 0) x_InvalidTurn (hr.mono (by decide)) (je_v 0)) (ja_cons (je_exvK (k := 0) x_InvalidTurn w_InvalidTurn (hr.mono (by decide)) (jk_cons (je_v 0) jk_nil)) (ja_cons (je_exv (k := 0) x_InvalidLot (hr.mono (by decide)) (je_v 0)) (ja_cons (je_exvK (k := 0) x_InvalidLot w_InvalidLot (hr.mono (by decide)) (jk_cons (je_v 0) jk_nil)) ja_nil)))))))))
    (jss_cons (js_set 1 sc__law_errors.nd (JF.f (jf_cat (je_v 1) (JF.f (jf_lst (ja_cons (je_exv (k := 0) x_InvalidName (hr.mono (by decide)) (je_v 0)) (ja_cons (je_exvK (k := 0) x_InvalidName w_InvalidName (hr.mono (by decide)) (jk_cons (je_v 0) jk_nil)) (ja_cons (je_exv (k := 0) x_InvalidWish (hr.mono (by decide)) (je_v 0)) (ja_cons (je_exvK (k := 0) x_InvalidWish w_InvalidWish (hr.mono (by decide)) (jk_cons (je_v 0) jk_nil)) ja_nil)))))))))
    (jss_cons (js_set 1 sc__law_errors.nd (JF.f (jf_cat (je_v 1) (JF.f (jf_lst (ja_cons (je_exv (k := 0) x_NotATable (hr.mono (by decide)) (je_v 0)) (ja_cons (je_exvK (k := 0) x_NotATable w_NotATable (hr.mono (by decide)) (jk_cons (je_v 0) jk_nil)) (ja_cons (je_exv (k := 0) x_InvalidRows (hr.mono (by decide)) (je_v 0)) (ja_cons (je_exvK (k := 0) x_InvalidRows w_InvalidRows (hr.mono (by decide)) (jk_cons (je_v 0) jk_nil)) ja_nil)))))))))
    (jss_cons (js_set 1 sc__law_errors.nd (JF.f (jf_cat (je_v 1) (JF.f (jf_lst (ja_cons (je_exv (k := 0) x_InvalidPlan (hr.mono (by decide)) (je_v 0)) (ja_cons (je_exvK (k := 0) x_InvalidPlan w_InvalidPlan (hr.mono (by decide)) (jk_cons (je_v 0) jk_nil)) (ja_cons (je_exv (k := 0) x_InvalidTurns (hr.mono (by decide)) (je_v 0)) (ja_cons (je_exvK (k := 0) x_InvalidTurns w_InvalidTurns (hr.mono (by decide)) (jk_cons (je_v 0) jk_nil)) ja_nil)))))))))
    (jss_cons (js_set 1 sc__law_errors.nd (JF.f (jf_cat (je_v 1) (JF.f (jf_lst (ja_cons (je_exv (k := 0) x_InvalidChain (hr.mono (by decide)) (je_v 0)) (ja_cons (je_exvK (k := 0) x_InvalidChain w_InvalidChain (hr.mono (by decide)) (jk_cons (je_v 0) jk_nil)) (ja_cons (je_exv (k := 0) x_InvalidExchanges (hr.mono (by decide)) (je_v 0)) ja_nil))))))))
    (jss_cons (js_set 1 sc__law_errors.nd (JF.f (jf_cat (je_v 1) (JF.f (jf_lst (ja_cons (je_exvK (k := 0) x_InvalidExchanges w_InvalidExchanges (hr.mono (by decide)) (jk_cons (je_v 0) jk_nil)) (ja_cons (je_exv (k := 0) x_InvalidWishes (hr.mono (by decide)) (je_v 0)) (ja_cons (je_exvK (k := 0) x_InvalidWishes w_InvalidWishes (hr.mono (by decide)) (jk_cons (je_v 0) jk_nil)) ja_nil))))))))
    (jss_cons (js_set 1 sc__law_errors.nd (JF.f (jf_cat (je_v 1) (JF.f (jf_lst (ja_cons (je_exv (k := 0) x_UnknownName (hr.mono (by decide)) (je_v 0)) (ja_cons (je_exvK (k := 0) x_UnknownName w_UnknownName (hr.mono (by decide)) (jk_cons (je_v 0) jk_nil)) (ja_cons (je_exv (k := 0) x_InUse (hr.mono (by decide)) (je_v 0)) (ja_cons (je_exvK (k := 0) x_InUse w_InUse (hr.mono (by decide)) (jk_cons (je_v 0) jk_nil)) ja_nil)))))))))
    (jss_one (js_ret (JF.f (jf_cat (je_v 1) (JF.f (jf_lst (ja_cons (je_exv (k := 0) x_TooMany (hr.mono (by decide)) (je_v 0)) (ja_cons (je_exvK (k := 0) x_TooMany w_TooMany (hr.mono (by decide)) (jk_cons (je_v 0) jk_nil)) ja_nil)))))))))))))))))
theorem ok__law_right (F : FnP K "_law_right" "_law_right" s__law_right f fd) (C__law_error : Cal P w K mg base 1 "_law_error" ["_law_e"] F__law_error s__law_error) (C__law_errors : Cal P w K mg base 3 "_law_errors" ["_law_thing"] F__law_errors s__law_errors) (C__law_field : Cal P w K mg base 1 "_law_field" ["_law_e", "_law_word_now"] F__law_field s__law_field) (C__law_odd : Cal P w K mg base 3 "_law_odd" ["_law_spring_here"] F__law_odd s__law_odd) (x_Broken : ExKB2 P K mg "Broken" "index" "shown") (x_NothingToUndo : ExK0 K mg "NothingToUndo") (w_Broken : KwI K "Broken" ["shown", "index"] ["self", "index", "shown"] (fun l => l.reverse)) (sys_T : SysD K) (g_len : mg "len" = none) (g_range : mg "range" = none) (g_repr : mg "repr" = none) :
    FnG P w K mg base (L2.CX P w) 4 f fd ["_law_spring_here"] (spD K 1 F__law_right) := by
  refine fn_okTG F sc__law_right fun cdv A outer s H E hr hgu => ?_
  exact JSs.b (K := K) (m := m__law_right) (jss_cons (js_par 1 2 sc__law_right.nd (ja_cons (je_call C__law_odd (hr.mono (by decide)) hgu (ja_cons (je_v 0) ja_nil)) (ja_cons (je_call C__law_odd (hr.mono (by decide)) hgu (ja_cons (je_v 0) ja_nil)) ja_nil)))
    (jss_cons (js_set 3 sc__law_right.nd (JF.f (jf_lst (ja_cons je_str (ja_cons je_str (ja_cons je_str (ja_cons je_str (ja_cons je_str (ja_cons je_str ja_nil)))))))))
    (jss_cons (js_set 3 sc__law_right.nd (JF.f (jf_cat (je_v 3) (JF.f (jf_lst (ja_cons je_str (ja_cons je_str (ja_cons je_str (ja_cons je_str (ja_cons je_str (ja_cons je_str ja_nil)))))))))))
    (jss_cons (js_set 3 sc__law_right.nd (JF.f (jf_cat (je_v 3) (JF.f (jf_lst (ja_cons je_str (ja_cons je_str (ja_cons je_str (ja_cons je_str (ja_cons je_str (ja_cons je_str ja_nil)))))))))))
    (jss_cons (js_set 4 sc__law_right.nd (je_callP C__law_errors (hr.mono (by decide)) hgu (ja_cons (je_v 1) ja_nil)))
    (jss_cons (js_for (ji_rng1 g_range (ja_cons (je_b jb_lenU g_len (ja_cons (je_v 4) ja_nil)) ja_nil)) (jg_n 5 sc__law_right.nd) (jss_cons (js_set 6 sc__law_right.nd (je_callP C__law_error (hr.mono (by decide)) hgu (ja_cons (je_ixU hr (je_v 4) (je_v 5)) ja_nil)))
    (jss_one (js_if (JW.jt (jw_or (jt_cmp (jc_ne hr) (je_v 6) (je_ixU hr (je_v 3) (je_div (je_v 5) je_int))) (jw_or1 (jt_cmp (jc_ne hr) (je_b (jb_reprN sys_T hr hgu) g_repr (ja_cons (je_callP C__law_field (hr.mono (by decide)) hgu (ja_cons (je_ixU hr (je_v 4) (je_v 5)) (ja_cons (je_v 6) ja_nil))) ja_nil)) (je_b (jb_reprN sys_T hr hgu) g_repr (ja_cons (je_v 1) ja_nil)))))) (jss_one (js_ret je_bl)) jss_nil))))
    (jss_cons (js_set 7 sc__law_right.nd (JF.f (jf_lst (ja_cons (je_exv2 (k := 0) x_Broken (hr.mono (by decide)) (je_v 1) (je_v 2)) (ja_cons (je_exvK2 (k := 0) x_Broken w_Broken (hr.mono (by decide)) (jk_cons (je_v 2) (jk_cons (je_v 1) jk_nil))) ja_nil)))))
    (jss_cons (js_if (jt_cmp (jc_ne hr) (JF.f (jf_lc sc__law_right.nd (ji_U (je_v 7)) (own := [("_law_each", 8)]) (blkOk_by (N := ["_law_spring_here", "_law_thing", "_law_mate", "_law_words", "_law_some", "_law_k", "_law_word_now", "_law_pairs", "_law_each"]) (sc := defScope s__law_right) (by decide +kernel)) (gw_name (by decide)) (fun _ _ _ _ _ => (jg_n 8 sc__law_right.nd)) (fun _ _ _ _ _ => jts_nil) (fun _ _ _ _ _ => (je_callP C__law_error (hr.mono (by decide)) hgu (ja_cons (je_v 8) ja_nil))))) (JF.f (jf_lst (ja_cons je_str (ja_cons je_str ja_nil))))) (jss_one (js_ret je_bl)) jss_nil)
    (jss_cons (js_if (jt_cmp (jc_ne hr) (je_b (jb_reprN sys_T hr hgu) g_repr (ja_cons (JF.f (jf_lc sc__law_right.nd (ji_U (je_v 7)) (own := [("_law_each", 8)]) (blkOk_by (N := ["_law_spring_here", "_law_thing", "_law_mate", "_law_words", "_law_some", "_law_k", "_law_word_now", "_law_pairs", "_law_each"]) (sc := defScope s__law_right) (by decide +kernel)) (gw_name (by decide)) (fun _ _ _ _ _ => (jg_n 8 sc__law_right.nd)) (fun _ _ _ _ _ => jts_nil) (fun _ _ _ _ _ => (je_callP C__law_field (hr.mono (by decide)) hgu (ja_cons (je_v 8) (ja_cons je_str ja_nil)))))) ja_nil)) (je_b (jb_reprN sys_T hr hgu) g_repr (ja_cons (JF.f (jf_lst (ja_cons (JF.f (jf_lst (ja_cons (je_v 1) (ja_cons (je_v 2) ja_nil)))) (ja_cons (JF.f (jf_lst (ja_cons (je_v 1) (ja_cons (je_v 2) ja_nil)))) ja_nil)))) ja_nil))) (jss_one (js_ret je_bl)) jss_nil)
    (jss_one (js_ret (je_cmp (jc_eq hr) (je_callP C__law_error (hr.mono (by decide)) hgu (ja_cons (je_exv0 x_NothingToUndo) ja_nil)) je_str))))))))))))
theorem ok_law (F : FnP K "law" "law" s_law f fd) (C__law_right : Cal P w K mg base 4 "_law_right" ["_law_spring_here"] F__law_right s__law_right) (C__law_spring : Cal P w K mg base 1 "_law_spring" ["_law_cells", "_law_k"] F__law_spring s__law_spring) (x_NoAnswer : ExK0 K mg "NoAnswer") (x_WrongName : ExK0 K mg "WrongName") (x_WrongValue : ExK0 K mg "WrongValue") (g_WrongValue : mg "WrongValue" = some (.ref (He.ga K "WrongValue"))) (sys_T : SysD K) (xis_T : XIs K xT xTs xNs) (g_ArithmeticError : mg "ArithmeticError" = none) (g_LookupError : mg "LookupError" = none) (g_MOST_DIALS : ∃ t, mg "MOST_DIALS" = some (.int 6 t)) (g_MOST_EXCHANGES : ∃ t, mg "MOST_EXCHANGES" = some (.int 5 t)) (g_MOST_KINDS : ∃ t, mg "MOST_KINDS" = some (.int 12 t)) (g_MOST_MARKS : ∃ t, mg "MOST_MARKS" = some (.int 9 t)) (g_MOST_RING : ∃ t, mg "MOST_RING" = some (.int 1000000000 t)) (g_MOST_STANDINGS : ∃ t, mg "MOST_STANDINGS" = some (.int 32 t)) (g_MOST_TURNS : ∃ t, mg "MOST_TURNS" = some (.int 3 t)) (g_ValueError : mg "ValueError" = none) (g_all : mg "all" = none) (g_isinstance : mg "isinstance" = none) (g_len : mg "len" = none) (g_max : mg "max" = none) (g_min : mg "min" = none) (g_range : mg "range" = none) (g_repr : mg "repr" = none) :
    FnG P w K mg base (L2.CX P w) 5 f fd ["_law_script"] (spD K 1 F_law) := by
  refine fn_okTG F sc_law fun cdv A outer s H E hr hgu => ?_
  exact JSs.b (K := K) (m := m_law) (jss_cons (js_set 1 sc_law.nd (JF.f (jf_lst (ja_cons (je_gint g_MOST_DIALS) (ja_cons (je_gint g_MOST_MARKS) (ja_cons (je_gint g_MOST_STANDINGS) (ja_cons (je_gint g_MOST_TURNS) (ja_cons (je_gint g_MOST_KINDS) (ja_cons (je_gint g_MOST_RING) (ja_cons (je_gint g_MOST_EXCHANGES) ja_nil))))))))))
    (jss_cons (js_if (jt_cmp (jc_ne hr) (je_b (jb_reprN sys_T hr hgu) g_repr (ja_cons (je_v 1) ja_nil)) (je_b (jb_reprN sys_T hr hgu) g_repr (ja_cons (JF.f (jf_lst (ja_cons je_int (ja_cons je_int (ja_cons je_int (ja_cons je_int (ja_cons je_int (ja_cons (je_pow je_int je_int) (ja_cons je_int ja_nil))))))))) ja_nil))) (jss_one (js_ret je_bl)) jss_nil)
    (jss_cons (js_set 2 sc_law.nd (JF.f (jf_lst (ja_cons (je_b (jb_isX xis_T) g_isinstance (ja_cons (je_exv0 x_WrongValue) (ja_cons (je_ty g_ValueError) ja_nil))) (ja_cons (je_b (jb_isX xis_T) g_isinstance (ja_cons (je_exv0 x_WrongName) (ja_cons (je_ty g_LookupError) ja_nil))) ja_nil)))))
    (jss_cons (js_set 2 sc_law.nd (JF.f (jf_cat (je_v 2) (JF.f (jf_lst (ja_cons (je_b (jb_isX xis_T) g_isinstance (ja_cons (je_exv0 x_NoAnswer) (ja_cons (je_ty g_ArithmeticError) ja_nil))) (ja_cons (je_b (jb_isX xis_T) g_isinstance (ja_cons (je_exv0 x_NoAnswer) (ja_cons (je_glo g_WrongValue) ja_nil))) ja_nil)))))))
    (jss_cons (js_if (jt_cmp (jc_ne hr) (je_v 2) (JF.f (jf_lst (ja_cons je_bl (ja_cons je_bl (ja_cons je_bl (ja_cons je_bl ja_nil))))))) (jss_one (js_ret je_bl)) jss_nil)
    (jss_one (js_ret (je_b jb_all g_all (ja_cons (JF.f (jf_lc sc_law.nd (ji_rng1 g_range (ja_cons (je_b jb_max2 g_max (ja_cons je_int (ja_cons (je_b jb_min2 g_min (ja_cons (je_b jb_lenU g_len (ja_cons (je_v 0) ja_nil)) (ja_cons je_int ja_nil))) ja_nil))) ja_nil)) (own := [("_law_k", 3)]) (blkOk_by (N := ["_law_script", "_law_told", "_law_bases", "_law_k"]) (sc := defScope s_law) (by decide +kernel)) (gw_name (by decide)) (fun _ _ _ _ _ => (jg_n 3 sc_law.nd)) (fun _ _ _ _ _ => jts_nil) (fun _ _ _ _ _ => (je_call C__law_right (hr.mono (by decide)) hgu (ja_cons (je_call C__law_spring (hr.mono (by decide)) hgu (ja_cons (je_v 0) (ja_cons (je_v 3) ja_nil))) ja_nil))))) ja_nil)))))))))
end
/-! the head -/
def d__law_spring : He5.DefA := ⟨Hd.atG "_law_spring", "_law_spring", "_law_spring", defArgs s__law_spring, defBody s__law_spring, defScope s__law_spring, [], []⟩
def d__law_draw : He5.DefA := ⟨Hd.atG "_law_draw", "_law_draw", "_law_draw", defArgs s__law_draw, defBody s__law_draw, defScope s__law_draw, [], []⟩
def d__law_error : He5.DefA := ⟨Hd.atG "_law_error", "_law_error", "_law_error", defArgs s__law_error, defBody s__law_error, defScope s__law_error, [], []⟩
def d__law_field : He5.DefA := ⟨Hd.atG "_law_field", "_law_field", "_law_field", defArgs s__law_field, defBody s__law_field, defScope s__law_field, [], []⟩
def d__law_of : He5.DefA := ⟨Hd.atG "_law_of", "_law_of", "_law_of", defArgs s__law_of, defBody s__law_of, defScope s__law_of, [], []⟩
def d__law_odd : He5.DefA := ⟨Hd.atG "_law_odd", "_law_odd", "_law_odd", defArgs s__law_odd, defBody s__law_odd, defScope s__law_odd, [], []⟩
def d__law_errors : He5.DefA := ⟨Hd.atG "_law_errors", "_law_errors", "_law_errors", defArgs s__law_errors, defBody s__law_errors, defScope s__law_errors, [], []⟩
def d__law_right : He5.DefA := ⟨Hd.atG "_law_right", "_law_right", "_law_right", defArgs s__law_right, defBody s__law_right, defScope s__law_right, [], []⟩
def d_law : He5.DefA := ⟨Hd.atG "law", "law", "law", defArgs s_law, defBody s_law, defScope s_law, [], []⟩
def fn : List He5.DefA := [d__law_spring, d__law_draw, d__law_error, d__law_field, d__law_of, d__law_odd, d__law_errors, d__law_right, d_law]
def xFile : PySem.Str := PySem.Challenge.pw_turnedblind_k01_errors_and_limits.main.file
abbrev si_InvalidText : Stmt := topM 2 0
theorem il_InvalidText : Hd.IniL "InvalidText.__init__" "given" (defArgs si_InvalidText) (defBody si_InvalidText) (defScope si_InvalidText) := ⟨⟨_, _, _, _, _, _, _, _, _, rfl, ⟨_, rfl, rfl⟩, fun _ _ _ _ _ _ _ _ _ => rfl, rfl, rfl, rfl, rfl, rfl, by decide +kernel, rfl, rfl, fun _ _ _ _ => rfl, fun _ _ _ _ => rfl, fun _ _ _ _ => ⟨_, rfl⟩⟩⟩
abbrev si_InvalidNumber : Stmt := topM 3 0
theorem il_InvalidNumber : Hd.IniL "InvalidNumber.__init__" "given" (defArgs si_InvalidNumber) (defBody si_InvalidNumber) (defScope si_InvalidNumber) := ⟨⟨_, _, _, _, _, _, _, _, _, rfl, ⟨_, rfl, rfl⟩, fun _ _ _ _ _ _ _ _ _ => rfl, rfl, rfl, rfl, rfl, rfl, by decide +kernel, rfl, rfl, fun _ _ _ _ => rfl, fun _ _ _ _ => rfl, fun _ _ _ _ => ⟨_, rfl⟩⟩⟩
abbrev si_InvalidStanding : Stmt := topM 4 0
theorem il_InvalidStanding : Hd.IniL "InvalidStanding.__init__" "given" (defArgs si_InvalidStanding) (defBody si_InvalidStanding) (defScope si_InvalidStanding) := ⟨⟨_, _, _, _, _, _, _, _, _, rfl, ⟨_, rfl, rfl⟩, fun _ _ _ _ _ _ _ _ _ => rfl, rfl, rfl, rfl, rfl, rfl, by decide +kernel, rfl, rfl, fun _ _ _ _ => rfl, fun _ _ _ _ => rfl, fun _ _ _ _ => ⟨_, rfl⟩⟩⟩
abbrev si_InvalidMove : Stmt := topM 5 0
theorem il_InvalidMove : Hd.IniL "InvalidMove.__init__" "given" (defArgs si_InvalidMove) (defBody si_InvalidMove) (defScope si_InvalidMove) := ⟨⟨_, _, _, _, _, _, _, _, _, rfl, ⟨_, rfl, rfl⟩, fun _ _ _ _ _ _ _ _ _ => rfl, rfl, rfl, rfl, rfl, rfl, by decide +kernel, rfl, rfl, fun _ _ _ _ => rfl, fun _ _ _ _ => rfl, fun _ _ _ _ => ⟨_, rfl⟩⟩⟩
abbrev si_InvalidTurn : Stmt := topM 6 0
theorem il_InvalidTurn : Hd.IniL "InvalidTurn.__init__" "given" (defArgs si_InvalidTurn) (defBody si_InvalidTurn) (defScope si_InvalidTurn) := ⟨⟨_, _, _, _, _, _, _, _, _, rfl, ⟨_, rfl, rfl⟩, fun _ _ _ _ _ _ _ _ _ => rfl, rfl, rfl, rfl, rfl, rfl, by decide +kernel, rfl, rfl, fun _ _ _ _ => rfl, fun _ _ _ _ => rfl, fun _ _ _ _ => ⟨_, rfl⟩⟩⟩
abbrev si_InvalidLot : Stmt := topM 7 0
theorem il_InvalidLot : Hd.IniL "InvalidLot.__init__" "given" (defArgs si_InvalidLot) (defBody si_InvalidLot) (defScope si_InvalidLot) := ⟨⟨_, _, _, _, _, _, _, _, _, rfl, ⟨_, rfl, rfl⟩, fun _ _ _ _ _ _ _ _ _ => rfl, rfl, rfl, rfl, rfl, rfl, by decide +kernel, rfl, rfl, fun _ _ _ _ => rfl, fun _ _ _ _ => rfl, fun _ _ _ _ => ⟨_, rfl⟩⟩⟩
abbrev si_InvalidName : Stmt := topM 8 0
theorem il_InvalidName : Hd.IniL "InvalidName.__init__" "given" (defArgs si_InvalidName) (defBody si_InvalidName) (defScope si_InvalidName) := ⟨⟨_, _, _, _, _, _, _, _, _, rfl, ⟨_, rfl, rfl⟩, fun _ _ _ _ _ _ _ _ _ => rfl, rfl, rfl, rfl, rfl, rfl, by decide +kernel, rfl, rfl, fun _ _ _ _ => rfl, fun _ _ _ _ => rfl, fun _ _ _ _ => ⟨_, rfl⟩⟩⟩
abbrev si_InvalidWish : Stmt := topM 9 0
theorem il_InvalidWish : Hd.IniL "InvalidWish.__init__" "given" (defArgs si_InvalidWish) (defBody si_InvalidWish) (defScope si_InvalidWish) := ⟨⟨_, _, _, _, _, _, _, _, _, rfl, ⟨_, rfl, rfl⟩, fun _ _ _ _ _ _ _ _ _ => rfl, rfl, rfl, rfl, rfl, rfl, by decide +kernel, rfl, rfl, fun _ _ _ _ => rfl, fun _ _ _ _ => rfl, fun _ _ _ _ => ⟨_, rfl⟩⟩⟩
abbrev si_NotATable : Stmt := topM 10 0
theorem il_NotATable : Hd.IniL "NotATable.__init__" "given" (defArgs si_NotATable) (defBody si_NotATable) (defScope si_NotATable) := ⟨⟨_, _, _, _, _, _, _, _, _, rfl, ⟨_, rfl, rfl⟩, fun _ _ _ _ _ _ _ _ _ => rfl, rfl, rfl, rfl, rfl, rfl, by decide +kernel, rfl, rfl, fun _ _ _ _ => rfl, fun _ _ _ _ => rfl, fun _ _ _ _ => ⟨_, rfl⟩⟩⟩
abbrev si_InvalidRows : Stmt := topM 11 0
theorem il_InvalidRows : Hd.IniL "InvalidRows.__init__" "index" (defArgs si_InvalidRows) (defBody si_InvalidRows) (defScope si_InvalidRows) := ⟨⟨_, _, _, _, _, _, _, _, _, rfl, ⟨_, rfl, rfl⟩, fun _ _ _ _ _ _ _ _ _ => rfl, rfl, rfl, rfl, rfl, rfl, by decide +kernel, rfl, rfl, fun _ _ _ _ => rfl, fun _ _ _ _ => rfl, fun _ _ _ _ => ⟨_, rfl⟩⟩⟩
abbrev si_InvalidPlan : Stmt := topM 12 0
theorem il_InvalidPlan : Hd.IniL "InvalidPlan.__init__" "index" (defArgs si_InvalidPlan) (defBody si_InvalidPlan) (defScope si_InvalidPlan) := ⟨⟨_, _, _, _, _, _, _, _, _, rfl, ⟨_, rfl, rfl⟩, fun _ _ _ _ _ _ _ _ _ => rfl, rfl, rfl, rfl, rfl, rfl, by decide +kernel, rfl, rfl, fun _ _ _ _ => rfl, fun _ _ _ _ => rfl, fun _ _ _ _ => ⟨_, rfl⟩⟩⟩
abbrev si_InvalidTurns : Stmt := topM 13 0
theorem il_InvalidTurns : Hd.IniL "InvalidTurns.__init__" "index" (defArgs si_InvalidTurns) (defBody si_InvalidTurns) (defScope si_InvalidTurns) := ⟨⟨_, _, _, _, _, _, _, _, _, rfl, ⟨_, rfl, rfl⟩, fun _ _ _ _ _ _ _ _ _ => rfl, rfl, rfl, rfl, rfl, rfl, by decide +kernel, rfl, rfl, fun _ _ _ _ => rfl, fun _ _ _ _ => rfl, fun _ _ _ _ => ⟨_, rfl⟩⟩⟩
abbrev si_InvalidChain : Stmt := topM 14 0
theorem il_InvalidChain : Hd.IniL "InvalidChain.__init__" "index" (defArgs si_InvalidChain) (defBody si_InvalidChain) (defScope si_InvalidChain) := ⟨⟨_, _, _, _, _, _, _, _, _, rfl, ⟨_, rfl, rfl⟩, fun _ _ _ _ _ _ _ _ _ => rfl, rfl, rfl, rfl, rfl, rfl, by decide +kernel, rfl, rfl, fun _ _ _ _ => rfl, fun _ _ _ _ => rfl, fun _ _ _ _ => ⟨_, rfl⟩⟩⟩
abbrev si_InvalidExchanges : Stmt := topM 15 0
theorem il_InvalidExchanges : Hd.IniL "InvalidExchanges.__init__" "index" (defArgs si_InvalidExchanges) (defBody si_InvalidExchanges) (defScope si_InvalidExchanges) := ⟨⟨_, _, _, _, _, _, _, _, _, rfl, ⟨_, rfl, rfl⟩, fun _ _ _ _ _ _ _ _ _ => rfl, rfl, rfl, rfl, rfl, rfl, by decide +kernel, rfl, rfl, fun _ _ _ _ => rfl, fun _ _ _ _ => rfl, fun _ _ _ _ => ⟨_, rfl⟩⟩⟩
abbrev si_InvalidWishes : Stmt := topM 16 0
theorem il_InvalidWishes : Hd.IniL "InvalidWishes.__init__" "index" (defArgs si_InvalidWishes) (defBody si_InvalidWishes) (defScope si_InvalidWishes) := ⟨⟨_, _, _, _, _, _, _, _, _, rfl, ⟨_, rfl, rfl⟩, fun _ _ _ _ _ _ _ _ _ => rfl, rfl, rfl, rfl, rfl, rfl, by decide +kernel, rfl, rfl, fun _ _ _ _ => rfl, fun _ _ _ _ => rfl, fun _ _ _ _ => ⟨_, rfl⟩⟩⟩
abbrev si_UnknownName : Stmt := topM 18 0
theorem il_UnknownName : Hd.IniL "UnknownName.__init__" "given" (defArgs si_UnknownName) (defBody si_UnknownName) (defScope si_UnknownName) := ⟨⟨_, _, _, _, _, _, _, _, _, rfl, ⟨_, rfl, rfl⟩, fun _ _ _ _ _ _ _ _ _ => rfl, rfl, rfl, rfl, rfl, rfl, by decide +kernel, rfl, rfl, fun _ _ _ _ => rfl, fun _ _ _ _ => rfl, fun _ _ _ _ => ⟨_, rfl⟩⟩⟩
abbrev si_InUse : Stmt := topM 19 0
theorem il_InUse : Hd.IniL "InUse.__init__" "index" (defArgs si_InUse) (defBody si_InUse) (defScope si_InUse) := ⟨⟨_, _, _, _, _, _, _, _, _, rfl, ⟨_, rfl, rfl⟩, fun _ _ _ _ _ _ _ _ _ => rfl, rfl, rfl, rfl, rfl, rfl, by decide +kernel, rfl, rfl, fun _ _ _ _ => rfl, fun _ _ _ _ => rfl, fun _ _ _ _ => ⟨_, rfl⟩⟩⟩
abbrev si_TooMany : Stmt := topM 21 0
theorem il_TooMany : Hd.IniL "TooMany.__init__" "given" (defArgs si_TooMany) (defBody si_TooMany) (defScope si_TooMany) := ⟨⟨_, _, _, _, _, _, _, _, _, rfl, ⟨_, rfl, rfl⟩, fun _ _ _ _ _ _ _ _ _ => rfl, rfl, rfl, rfl, rfl, rfl, by decide +kernel, rfl, rfl, fun _ _ _ _ => rfl, fun _ _ _ _ => rfl, fun _ _ _ _ => ⟨_, rfl⟩⟩⟩
abbrev si_Broken : Stmt := topM 22 0
theorem il_Broken : Hd.IniL2 "Broken.__init__" "index" "shown" (defArgs si_Broken) (defBody si_Broken) (defScope si_Broken) := ⟨⟨_, _, _, _, _, _, _, _, _, _, _, _, _, rfl, ⟨_, rfl, rfl⟩, fun _ _ _ _ _ _ _ _ _ _ => rfl, rfl, rfl, rfl, rfl, rfl, rfl, by decide +kernel, rfl, rfl, fun _ _ _ _ => rfl, fun _ _ _ _ => rfl, fun _ _ _ _ => rfl, fun _ _ _ _ => ⟨_, rfl⟩⟩⟩
theorem ik_InvalidText : ∀ (a b kV doc pm : Value) (an : Option Addr) (cda : Addr) (ct : Value) (cc : Addr), bindArgs (PySem.W.ksFn "__init__" "InvalidText.__init__" (defArgs si_InvalidText) (defBody si_InvalidText) (defScope si_InvalidText) .none kV doc pm an (.ref cda) ct cc) ⟨[a], [("given", b)]⟩ = pure [(("self" : PySem.Str), a), ("given", b)] := fun _ _ _ _ _ _ _ _ _ => rfl
theorem ik_InvalidNumber : ∀ (a b kV doc pm : Value) (an : Option Addr) (cda : Addr) (ct : Value) (cc : Addr), bindArgs (PySem.W.ksFn "__init__" "InvalidNumber.__init__" (defArgs si_InvalidNumber) (defBody si_InvalidNumber) (defScope si_InvalidNumber) .none kV doc pm an (.ref cda) ct cc) ⟨[a], [("given", b)]⟩ = pure [(("self" : PySem.Str), a), ("given", b)] := fun _ _ _ _ _ _ _ _ _ => rfl
theorem ik_InvalidStanding : ∀ (a b kV doc pm : Value) (an : Option Addr) (cda : Addr) (ct : Value) (cc : Addr), bindArgs (PySem.W.ksFn "__init__" "InvalidStanding.__init__" (defArgs si_InvalidStanding) (defBody si_InvalidStanding) (defScope si_InvalidStanding) .none kV doc pm an (.ref cda) ct cc) ⟨[a], [("given", b)]⟩ = pure [(("self" : PySem.Str), a), ("given", b)] := fun _ _ _ _ _ _ _ _ _ => rfl
theorem ik_InvalidMove : ∀ (a b kV doc pm : Value) (an : Option Addr) (cda : Addr) (ct : Value) (cc : Addr), bindArgs (PySem.W.ksFn "__init__" "InvalidMove.__init__" (defArgs si_InvalidMove) (defBody si_InvalidMove) (defScope si_InvalidMove) .none kV doc pm an (.ref cda) ct cc) ⟨[a], [("given", b)]⟩ = pure [(("self" : PySem.Str), a), ("given", b)] := fun _ _ _ _ _ _ _ _ _ => rfl
theorem ik_InvalidTurn : ∀ (a b kV doc pm : Value) (an : Option Addr) (cda : Addr) (ct : Value) (cc : Addr), bindArgs (PySem.W.ksFn "__init__" "InvalidTurn.__init__" (defArgs si_InvalidTurn) (defBody si_InvalidTurn) (defScope si_InvalidTurn) .none kV doc pm an (.ref cda) ct cc) ⟨[a], [("given", b)]⟩ = pure [(("self" : PySem.Str), a), ("given", b)] := fun _ _ _ _ _ _ _ _ _ => rfl
theorem ik_InvalidLot : ∀ (a b kV doc pm : Value) (an : Option Addr) (cda : Addr) (ct : Value) (cc : Addr), bindArgs (PySem.W.ksFn "__init__" "InvalidLot.__init__" (defArgs si_InvalidLot) (defBody si_InvalidLot) (defScope si_InvalidLot) .none kV doc pm an (.ref cda) ct cc) ⟨[a], [("given", b)]⟩ = pure [(("self" : PySem.Str), a), ("given", b)] := fun _ _ _ _ _ _ _ _ _ => rfl
theorem ik_InvalidName : ∀ (a b kV doc pm : Value) (an : Option Addr) (cda : Addr) (ct : Value) (cc : Addr), bindArgs (PySem.W.ksFn "__init__" "InvalidName.__init__" (defArgs si_InvalidName) (defBody si_InvalidName) (defScope si_InvalidName) .none kV doc pm an (.ref cda) ct cc) ⟨[a], [("given", b)]⟩ = pure [(("self" : PySem.Str), a), ("given", b)] := fun _ _ _ _ _ _ _ _ _ => rfl
theorem ik_InvalidWish : ∀ (a b kV doc pm : Value) (an : Option Addr) (cda : Addr) (ct : Value) (cc : Addr), bindArgs (PySem.W.ksFn "__init__" "InvalidWish.__init__" (defArgs si_InvalidWish) (defBody si_InvalidWish) (defScope si_InvalidWish) .none kV doc pm an (.ref cda) ct cc) ⟨[a], [("given", b)]⟩ = pure [(("self" : PySem.Str), a), ("given", b)] := fun _ _ _ _ _ _ _ _ _ => rfl
theorem ik_NotATable : ∀ (a b kV doc pm : Value) (an : Option Addr) (cda : Addr) (ct : Value) (cc : Addr), bindArgs (PySem.W.ksFn "__init__" "NotATable.__init__" (defArgs si_NotATable) (defBody si_NotATable) (defScope si_NotATable) .none kV doc pm an (.ref cda) ct cc) ⟨[a], [("given", b)]⟩ = pure [(("self" : PySem.Str), a), ("given", b)] := fun _ _ _ _ _ _ _ _ _ => rfl
theorem ik_InvalidRows : ∀ (a b kV doc pm : Value) (an : Option Addr) (cda : Addr) (ct : Value) (cc : Addr), bindArgs (PySem.W.ksFn "__init__" "InvalidRows.__init__" (defArgs si_InvalidRows) (defBody si_InvalidRows) (defScope si_InvalidRows) .none kV doc pm an (.ref cda) ct cc) ⟨[a], [("index", b)]⟩ = pure [(("self" : PySem.Str), a), ("index", b)] := fun _ _ _ _ _ _ _ _ _ => rfl
theorem ik_InvalidPlan : ∀ (a b kV doc pm : Value) (an : Option Addr) (cda : Addr) (ct : Value) (cc : Addr), bindArgs (PySem.W.ksFn "__init__" "InvalidPlan.__init__" (defArgs si_InvalidPlan) (defBody si_InvalidPlan) (defScope si_InvalidPlan) .none kV doc pm an (.ref cda) ct cc) ⟨[a], [("index", b)]⟩ = pure [(("self" : PySem.Str), a), ("index", b)] := fun _ _ _ _ _ _ _ _ _ => rfl
theorem ik_InvalidTurns : ∀ (a b kV doc pm : Value) (an : Option Addr) (cda : Addr) (ct : Value) (cc : Addr), bindArgs (PySem.W.ksFn "__init__" "InvalidTurns.__init__" (defArgs si_InvalidTurns) (defBody si_InvalidTurns) (defScope si_InvalidTurns) .none kV doc pm an (.ref cda) ct cc) ⟨[a], [("index", b)]⟩ = pure [(("self" : PySem.Str), a), ("index", b)] := fun _ _ _ _ _ _ _ _ _ => rfl
theorem ik_InvalidChain : ∀ (a b kV doc pm : Value) (an : Option Addr) (cda : Addr) (ct : Value) (cc : Addr), bindArgs (PySem.W.ksFn "__init__" "InvalidChain.__init__" (defArgs si_InvalidChain) (defBody si_InvalidChain) (defScope si_InvalidChain) .none kV doc pm an (.ref cda) ct cc) ⟨[a], [("index", b)]⟩ = pure [(("self" : PySem.Str), a), ("index", b)] := fun _ _ _ _ _ _ _ _ _ => rfl
theorem ik_InvalidExchanges : ∀ (a b kV doc pm : Value) (an : Option Addr) (cda : Addr) (ct : Value) (cc : Addr), bindArgs (PySem.W.ksFn "__init__" "InvalidExchanges.__init__" (defArgs si_InvalidExchanges) (defBody si_InvalidExchanges) (defScope si_InvalidExchanges) .none kV doc pm an (.ref cda) ct cc) ⟨[a], [("index", b)]⟩ = pure [(("self" : PySem.Str), a), ("index", b)] := fun _ _ _ _ _ _ _ _ _ => rfl
theorem ik_InvalidWishes : ∀ (a b kV doc pm : Value) (an : Option Addr) (cda : Addr) (ct : Value) (cc : Addr), bindArgs (PySem.W.ksFn "__init__" "InvalidWishes.__init__" (defArgs si_InvalidWishes) (defBody si_InvalidWishes) (defScope si_InvalidWishes) .none kV doc pm an (.ref cda) ct cc) ⟨[a], [("index", b)]⟩ = pure [(("self" : PySem.Str), a), ("index", b)] := fun _ _ _ _ _ _ _ _ _ => rfl
theorem ik_UnknownName : ∀ (a b kV doc pm : Value) (an : Option Addr) (cda : Addr) (ct : Value) (cc : Addr), bindArgs (PySem.W.ksFn "__init__" "UnknownName.__init__" (defArgs si_UnknownName) (defBody si_UnknownName) (defScope si_UnknownName) .none kV doc pm an (.ref cda) ct cc) ⟨[a], [("given", b)]⟩ = pure [(("self" : PySem.Str), a), ("given", b)] := fun _ _ _ _ _ _ _ _ _ => rfl
theorem ik_InUse : ∀ (a b kV doc pm : Value) (an : Option Addr) (cda : Addr) (ct : Value) (cc : Addr), bindArgs (PySem.W.ksFn "__init__" "InUse.__init__" (defArgs si_InUse) (defBody si_InUse) (defScope si_InUse) .none kV doc pm an (.ref cda) ct cc) ⟨[a], [("index", b)]⟩ = pure [(("self" : PySem.Str), a), ("index", b)] := fun _ _ _ _ _ _ _ _ _ => rfl
theorem ik_TooMany : ∀ (a b kV doc pm : Value) (an : Option Addr) (cda : Addr) (ct : Value) (cc : Addr), bindArgs (PySem.W.ksFn "__init__" "TooMany.__init__" (defArgs si_TooMany) (defBody si_TooMany) (defScope si_TooMany) .none kV doc pm an (.ref cda) ct cc) ⟨[a], [("given", b)]⟩ = pure [(("self" : PySem.Str), a), ("given", b)] := fun _ _ _ _ _ _ _ _ _ => rfl
theorem ik_Broken : ∀ (a b b2 kV doc pm : Value) (an : Option Addr) (cda : Addr) (ct : Value) (cc : Addr), bindArgs (PySem.W.ksFn "__init__" "Broken.__init__" (defArgs si_Broken) (defBody si_Broken) (defScope si_Broken) .none kV doc pm an (.ref cda) ct cc) ⟨[a], [("shown", b2), ("index", b)]⟩ = pure [(("self" : PySem.Str), a), ("index", b), ("shown", b2)] := fun _ _ _ _ _ _ _ _ _ _ => rfl
def xn : List Hd.ExA := [⟨"InvalidText", "given", "InvalidText.__init__", defArgs si_InvalidText, defBody si_InvalidText, defScope si_InvalidText⟩, ⟨"InvalidNumber", "given", "InvalidNumber.__init__", defArgs si_InvalidNumber, defBody si_InvalidNumber, defScope si_InvalidNumber⟩, ⟨"InvalidStanding", "given", "InvalidStanding.__init__", defArgs si_InvalidStanding, defBody si_InvalidStanding, defScope si_InvalidStanding⟩, ⟨"InvalidMove", "given", "InvalidMove.__init__", defArgs si_InvalidMove, defBody si_InvalidMove, defScope si_InvalidMove⟩, ⟨"InvalidTurn", "given", "InvalidTurn.__init__", defArgs si_InvalidTurn, defBody si_InvalidTurn, defScope si_InvalidTurn⟩, ⟨"InvalidLot", "given", "InvalidLot.__init__", defArgs si_InvalidLot, defBody si_InvalidLot, defScope si_InvalidLot⟩, ⟨"InvalidName", "given", "InvalidName.__init__", defArgs si_InvalidName, defBody si_InvalidName, defScope si_InvalidName⟩, ⟨"InvalidWish", "given", "InvalidWish.__init__", defArgs si_InvalidWish, defBody si_InvalidWish, defScope si_InvalidWish⟩, ⟨"NotATable", "given", "NotATable.__init__", defArgs si_NotATable, defBody si_NotATable, defScope si_NotATable⟩, ⟨"InvalidRows", "index", "InvalidRows.__init__", defArgs si_InvalidRows, defBody si_InvalidRows, defScope si_InvalidRows⟩, ⟨"InvalidPlan", "index", "InvalidPlan.__init__", defArgs si_InvalidPlan, defBody si_InvalidPlan, defScope si_InvalidPlan⟩, ⟨"InvalidTurns", "index", "InvalidTurns.__init__", defArgs si_InvalidTurns, defBody si_InvalidTurns, defScope si_InvalidTurns⟩, ⟨"InvalidChain", "index", "InvalidChain.__init__", defArgs si_InvalidChain, defBody si_InvalidChain, defScope si_InvalidChain⟩, ⟨"InvalidExchanges", "index", "InvalidExchanges.__init__", defArgs si_InvalidExchanges, defBody si_InvalidExchanges, defScope si_InvalidExchanges⟩, ⟨"InvalidWishes", "index", "InvalidWishes.__init__", defArgs si_InvalidWishes, defBody si_InvalidWishes, defScope si_InvalidWishes⟩, ⟨"UnknownName", "given", "UnknownName.__init__", defArgs si_UnknownName, defBody si_UnknownName, defScope si_UnknownName⟩, ⟨"InUse", "index", "InUse.__init__", defArgs si_InUse, defBody si_InUse, defScope si_InUse⟩, ⟨"TooMany", "given", "TooMany.__init__", defArgs si_TooMany, defBody si_TooMany, defScope si_TooMany⟩, ⟨"Broken", "index", "Broken.__init__", defArgs si_Broken, defBody si_Broken, defScope si_Broken⟩]
def fb_0 : Hd.Fb := fun K => (He.Fa.glo "_law_spring").ok K
def fb_1 : Hd.Fb := fun K => (He.Fa.glo "_law_draw").ok K
def fb_2 : Hd.Fb := fun K => (He.Fa.glo "_law_error").ok K
def fb_3 : Hd.Fb := fun K => (He.Fa.glo "_law_field").ok K
def fb_4 : Hd.Fb := fun K => (He.Fa.glo "_law_of").ok K
def fb_5 : Hd.Fb := fun K => (He.Fa.glo "_law_odd").ok K
def fb_6 : Hd.Fb := fun K => (He.Fa.glo "_law_errors").ok K
def fb_7 : Hd.Fb := fun K => (He.Fa.glo "_law_right").ok K
def fb_8 : Hd.Fb := fun K => (He.Fa.glo "law").ok K
def fb_9 : Hd.Fb := Hd.exBB2 "ArithmeticError" "ArithmeticError.__new__" "ArithmeticError.__init__" Exb.aeTail "Broken" "index" "shown" "Broken.__init__" xFile
def fb_10 : Hd.Fb := Hd.exBB "LookupError" "LookupError.__new__" "LookupError.__init__" Exb.leTail "InUse" "index" "InUse.__init__" xFile
def fb_11 : Hd.Fb := Hd.exBB "ValueError" "ValueError.__new__" "ValueError.__init__" Exb.veTail "InvalidChain" "index" "InvalidChain.__init__" xFile
def fb_12 : Hd.Fb := Hd.exBB "ValueError" "ValueError.__new__" "ValueError.__init__" Exb.veTail "InvalidExchanges" "index" "InvalidExchanges.__init__" xFile
def fb_13 : Hd.Fb := Hd.exBB "ValueError" "ValueError.__new__" "ValueError.__init__" Exb.veTail "InvalidLot" "given" "InvalidLot.__init__" xFile
def fb_14 : Hd.Fb := Hd.exBB "ValueError" "ValueError.__new__" "ValueError.__init__" Exb.veTail "InvalidMove" "given" "InvalidMove.__init__" xFile
def fb_15 : Hd.Fb := Hd.exBB "ValueError" "ValueError.__new__" "ValueError.__init__" Exb.veTail "InvalidName" "given" "InvalidName.__init__" xFile
def fb_16 : Hd.Fb := Hd.exBB "ValueError" "ValueError.__new__" "ValueError.__init__" Exb.veTail "InvalidNumber" "given" "InvalidNumber.__init__" xFile
def fb_17 : Hd.Fb := Hd.exBB "ValueError" "ValueError.__new__" "ValueError.__init__" Exb.veTail "InvalidPlan" "index" "InvalidPlan.__init__" xFile
def fb_18 : Hd.Fb := Hd.exBB "ValueError" "ValueError.__new__" "ValueError.__init__" Exb.veTail "InvalidRows" "index" "InvalidRows.__init__" xFile
def fb_19 : Hd.Fb := Hd.exBB "ValueError" "ValueError.__new__" "ValueError.__init__" Exb.veTail "InvalidStanding" "given" "InvalidStanding.__init__" xFile
def fb_20 : Hd.Fb := Hd.exBB "ValueError" "ValueError.__new__" "ValueError.__init__" Exb.veTail "InvalidText" "given" "InvalidText.__init__" xFile
def fb_21 : Hd.Fb := Hd.exBB "ValueError" "ValueError.__new__" "ValueError.__init__" Exb.veTail "InvalidTurn" "given" "InvalidTurn.__init__" xFile
def fb_22 : Hd.Fb := Hd.exBB "ValueError" "ValueError.__new__" "ValueError.__init__" Exb.veTail "InvalidTurns" "index" "InvalidTurns.__init__" xFile
def fb_23 : Hd.Fb := Hd.exBB "ValueError" "ValueError.__new__" "ValueError.__init__" Exb.veTail "InvalidWish" "given" "InvalidWish.__init__" xFile
def fb_24 : Hd.Fb := Hd.exBB "ValueError" "ValueError.__new__" "ValueError.__init__" Exb.veTail "InvalidWishes" "index" "InvalidWishes.__init__" xFile
def fb_25 : Hd.Fb := Hd.ex0B "ArithmeticError.__new__" Exb.aeTail "NoAnswer"
def fb_26 : Hd.Fb := Hd.exBB "ValueError" "ValueError.__new__" "ValueError.__init__" Exb.veTail "NotATable" "given" "NotATable.__init__" xFile
def fb_27 : Hd.Fb := Hd.ex0B "ArithmeticError.__new__" Exb.aeTail "NothingToUndo"
def fb_28 : Hd.Fb := Hd.exBB "ArithmeticError" "ArithmeticError.__new__" "ArithmeticError.__init__" Exb.aeTail "TooMany" "given" "TooMany.__init__" xFile
def fb_29 : Hd.Fb := Hd.exBB "LookupError" "LookupError.__new__" "LookupError.__init__" Exb.leTail "UnknownName" "given" "UnknownName.__init__" xFile
def fb_30 : Hd.Fb := Hd.ex0B "LookupError.__new__" Exb.leTail "WrongName"
def fb_31 : Hd.Fb := Hd.ex0B "ValueError.__new__" Exb.veTail "WrongValue"
def fb_32 : Hd.Fb := fun K => (He.Fa.glo "Broken").ok K
def fb_33 : Hd.Fb := fun K => (He.Fa.glo "InUse").ok K
def fb_34 : Hd.Fb := fun K => (He.Fa.glo "InvalidChain").ok K
def fb_35 : Hd.Fb := fun K => (He.Fa.glo "InvalidExchanges").ok K
def fb_36 : Hd.Fb := fun K => (He.Fa.glo "InvalidLot").ok K
def fb_37 : Hd.Fb := fun K => (He.Fa.glo "InvalidMove").ok K
def fb_38 : Hd.Fb := fun K => (He.Fa.glo "InvalidName").ok K
def fb_39 : Hd.Fb := fun K => (He.Fa.glo "InvalidNumber").ok K
def fb_40 : Hd.Fb := fun K => (He.Fa.glo "InvalidPlan").ok K
def fb_41 : Hd.Fb := fun K => (He.Fa.glo "InvalidRows").ok K
def fb_42 : Hd.Fb := fun K => (He.Fa.glo "InvalidStanding").ok K
def fb_43 : Hd.Fb := fun K => (He.Fa.glo "InvalidText").ok K
def fb_44 : Hd.Fb := fun K => (He.Fa.glo "InvalidTurn").ok K
def fb_45 : Hd.Fb := fun K => (He.Fa.glo "InvalidTurns").ok K
def fb_46 : Hd.Fb := fun K => (He.Fa.glo "InvalidWish").ok K
def fb_47 : Hd.Fb := fun K => (He.Fa.glo "InvalidWishes").ok K
def fb_48 : Hd.Fb := fun K => (He.Fa.glo "NoAnswer").ok K
def fb_49 : Hd.Fb := fun K => (He.Fa.glo "NotATable").ok K
def fb_50 : Hd.Fb := fun K => (He.Fa.glo "NothingToUndo").ok K
def fb_51 : Hd.Fb := fun K => (He.Fa.glo "TooMany").ok K
def fb_52 : Hd.Fb := fun K => (He.Fa.glo "UnknownName").ok K
def fb_53 : Hd.Fb := fun K => (He.Fa.glo "WrongName").ok K
def fb_54 : Hd.Fb := fun K => (He.Fa.glo "WrongValue").ok K
def fb_55 : Hd.Fb := Hd.sysB
def fb_56 : Hd.Fb := Hd.xatB xCl_given "given"
def fb_57 : Hd.Fb := Hd.xatB xCl_index "index"
def fb_58 : Hd.Fb := Hd.xatB xCl_shown "shown"
def fb_59 : Hd.Fb := Hd.xisB xT xTs xNs
def fb_60 : Hd.Fb := fun K => (He.Fa.free "ArithmeticError").ok K
def fb_61 : Hd.Fb := fun K => (He.Fa.free "LookupError").ok K
def fb_62 : Hd.Fb := fun K => (He.Fa.int "MOST_DIALS" 6).ok K
def fb_63 : Hd.Fb := fun K => (He.Fa.int "MOST_EXCHANGES" 5).ok K
def fb_64 : Hd.Fb := fun K => (He.Fa.int "MOST_KINDS" 12).ok K
def fb_65 : Hd.Fb := fun K => (He.Fa.int "MOST_MARKS" 9).ok K
def fb_66 : Hd.Fb := fun K => (He.Fa.int "MOST_RING" 1000000000).ok K
def fb_67 : Hd.Fb := fun K => (He.Fa.int "MOST_STANDINGS" 32).ok K
def fb_68 : Hd.Fb := fun K => (He.Fa.int "MOST_TURNS" 3).ok K
def fb_69 : Hd.Fb := fun K => (He.Fa.free "ValueError").ok K
def fb_70 : Hd.Fb := fun K => (He.Fa.free "abs").ok K
def fb_71 : Hd.Fb := fun K => (He.Fa.free "all").ok K
def fb_72 : Hd.Fb := fun K => (He.Fa.free "divmod").ok K
def fb_73 : Hd.Fb := fun K => (He.Fa.free "int").ok K
def fb_74 : Hd.Fb := fun K => (He.Fa.free "isinstance").ok K
def fb_75 : Hd.Fb := fun K => (He.Fa.free "len").ok K
def fb_76 : Hd.Fb := fun K => (He.Fa.free "max").ok K
def fb_77 : Hd.Fb := fun K => (He.Fa.free "min").ok K
def fb_78 : Hd.Fb := fun K => (He.Fa.free "range").ok K
def fb_79 : Hd.Fb := fun K => (He.Fa.free "repr").ok K
def fb_80 : Hd.Fb := fun K => (He.Fa.free "super").ok K
def fb_81 : Hd.Fb := Hd.tab3B
def fb : List Hd.Fb := [fb_0, fb_1, fb_2, fb_3, fb_4, fb_5, fb_6, fb_7, fb_8, fb_9, fb_10, fb_11, fb_12, fb_13, fb_14, fb_15, fb_16, fb_17, fb_18, fb_19, fb_20, fb_21, fb_22, fb_23, fb_24, fb_25, fb_26, fb_27, fb_28, fb_29, fb_30, fb_31, fb_32, fb_33, fb_34, fb_35, fb_36, fb_37, fb_38, fb_39, fb_40, fb_41, fb_42, fb_43, fb_44, fb_45, fb_46, fb_47, fb_48, fb_49, fb_50, fb_51, fb_52, fb_53, fb_54, fb_55, fb_56, fb_57, fb_58, fb_59, fb_60, fb_61, fb_62, fb_63, fb_64, fb_65, fb_66, fb_67, fb_68, fb_69, fb_70, fb_71, fb_72, fb_73, fb_74, fb_75, fb_76, fb_77, fb_78, fb_79, fb_80, fb_81]
abbrev R : PySem.W.OpenRow := PySem.W.OpenLaw.row PySem.Challenge.rw_turnedblind_k01_errors_and_limits
def asL : List PySem.Addr := [2, 1, 3, 6, 4, 24, 46, 67, 88, 109, 130, 151, 172, 193, 214, 235, 256, 277, 298, 319, 340, 352, 374, 395, 407, 429, 450, 462, 471, 478, 485, 492, 499, 506, 513, 518, 523, 0, 23, 45, 66, 87, 108, 129, 150, 171, 192, 213, 234, 255, 276, 297, 318, 339, 351, 373, 394, 406, 428, 449, 461, 470, 477, 484, 491, 498, 505, 512, 517, 522, 22, 25, 43, 44, 64, 65, 85, 86, 106, 107, 127, 128, 148, 149, 169, 170, 190, 191, 211, 212, 232, 233, 253, 254, 274, 275, 295, 296, 316, 317, 337, 338, 350, 353, 371, 372, 392, 393, 405, 408, 426, 427, 447, 448, 460, 465, 466, 467, 468, 469, 472, 473, 474, 475, 476, 479, 480, 481, 482, 483, 486, 487, 488, 489, 490, 493, 494, 495, 496, 497, 500, 501, 502, 503, 504, 507, 508, 509, 510, 511, 514, 515, 516, 519, 520, 521, 42, 31, 63, 52, 84, 73, 105, 94, 126, 115, 147, 136, 168, 157, 189, 178, 210, 199, 231, 220, 252, 241, 273, 262, 294, 283, 315, 304, 336, 325, 370, 359, 391, 380, 425, 414, 446, 435, 37, 38, 39, 40, 41, 58, 59, 60, 61, 62, 79, 80, 81, 82, 83, 100, 101, 102, 103, 104, 121, 122, 123, 124, 125, 142, 143, 144, 145, 146, 163, 164, 165, 166, 167, 184, 185, 186, 187, 188, 205, 206, 207, 208, 209, 226, 227, 228, 229, 230, 247, 248, 249, 250, 251, 268, 269, 270, 271, 272, 289, 290, 291, 292, 293, 310, 311, 312, 313, 314, 331, 332, 333, 334, 335, 365, 366, 367, 368, 369, 386, 387, 388, 389, 390, 420, 421, 422, 423, 424, 441, 442, 443, 444, 445]
-- lambdas: 
abbrev hk : PySem.W.Hook := Hd.hookX asL fb fn xn
def ob (s : PySem.W.SharedT) : He.AlD := Hd.obsXL asL fb fn xn (HandSHeadRun.getT s)
theorem ob_eq (s : PySem.W.SharedT) : ob s = hk.obs s.abs := Hd.obsX_eq (HandSHeadRun.getT_eq s)
def names : List PySem.Str := (["_law_spring", "_law_draw", "_law_of", "_law_error", "_law_field", "_law_odd", "_law_errors", "_law_right"] : List PySem.Str) ++ (["WrongValue", "InvalidText", "InvalidNumber", "InvalidStanding", "InvalidMove", "InvalidTurn", "InvalidLot", "InvalidName"] : List PySem.Str) ++ (["InvalidWish", "NotATable", "InvalidRows", "InvalidPlan", "InvalidTurns", "InvalidChain", "InvalidExchanges", "InvalidWishes"] : List PySem.Str) ++ (["WrongName", "UnknownName", "InUse", "NoAnswer", "TooMany", "Broken", "NothingToUndo", "MOST_DIALS"] : List PySem.Str) ++ (["MOST_MARKS", "MOST_STANDINGS", "MOST_TURNS", "MOST_KINDS", "MOST_RING", "MOST_EXCHANGES"] : List PySem.Str)
theorem runA (w : World) : Ab.RunA R (PySem.W.view R.prog [40]) 20000 names w := by
  intro os
  kernel_rfl
theorem runB1 (w : World) : Ab.RunB R 20000 asL (fb.take 41) w := by
  intro os
  kernel_rfl
theorem runB2 (w : World) : Ab.RunB R 20000 asL (fb.drop 41) w := by
  intro os
  kernel_rfl
theorem runC (w : World) : Ab.RunC R 20000 asL fn w := by
  intro os
  kernel_rfl
theorem runD (w : World) : Ab.RunD R 20000 asL w := by
  intro os
  kernel_rfl
theorem runE (w : World) : Ab.RunE R 20000 asL fn xn w := by
  intro os
  kernel_rfl
theorem run (w : World) : HandSHeadRun.RunEq R (PySem.W.view R.prog [40]) hk ob 20000 names w := Ab.run_of6 (runA w) 41 (runB1 w) (runB2 w) (runC w) (runD w) (runE w)
theorem facts {P : Program} {w : World} {K : PySem.W.Frag} {h : Heap} {mg : Str → Option Value} {f : Addr} (X : K.In h) (G : h.Ns mainGlobals mg) (hfa : mg ("law" : Str) = some (.ref f)) (c : Hd.SaysX fb fn xn K) (hfile : P.main.file = xFile) (htop : (P.main.scope.names.lookup ("super" : Str)).isSome = false) :
    ∃ fd : FuncData, (∀ (s : Shared) (v : Value), BindsTo s fd ⟨[v], []⟩ [("_law_script", v)]) ∧ ∀ base : Heap, K.In base → base.Ns mainGlobals mg → (∀ p ∈ tabs3 K, LamX.TabB base mg p.1 p.2.1) → FnG P w K mg base (L2.CX P w) 5 f fd ["_law_script"] (spD K 1 F_law) := by
  obtain ⟨fd__law_spring, D__law_spring⟩ := c.def_ 0 (d := d__law_spring) rfl
  have D__law_spring : FnP K "_law_spring" "_law_spring" s__law_spring (He.ga K "_law_spring") fd__law_spring := D__law_spring
  obtain ⟨fd__law_draw, D__law_draw⟩ := c.def_ 1 (d := d__law_draw) rfl
  have D__law_draw : FnP K "_law_draw" "_law_draw" s__law_draw (He.ga K "_law_draw") fd__law_draw := D__law_draw
  obtain ⟨fd__law_error, D__law_error⟩ := c.def_ 2 (d := d__law_error) rfl
  have D__law_error : FnP K "_law_error" "_law_error" s__law_error (He.ga K "_law_error") fd__law_error := D__law_error
  obtain ⟨fd__law_field, D__law_field⟩ := c.def_ 3 (d := d__law_field) rfl
  have D__law_field : FnP K "_law_field" "_law_field" s__law_field (He.ga K "_law_field") fd__law_field := D__law_field
  obtain ⟨fd__law_of, D__law_of⟩ := c.def_ 4 (d := d__law_of) rfl
  have D__law_of : FnP K "_law_of" "_law_of" s__law_of (He.ga K "_law_of") fd__law_of := D__law_of
  obtain ⟨fd__law_odd, D__law_odd⟩ := c.def_ 5 (d := d__law_odd) rfl
  have D__law_odd : FnP K "_law_odd" "_law_odd" s__law_odd (He.ga K "_law_odd") fd__law_odd := D__law_odd
  obtain ⟨fd__law_errors, D__law_errors⟩ := c.def_ 6 (d := d__law_errors) rfl
  have D__law_errors : FnP K "_law_errors" "_law_errors" s__law_errors (He.ga K "_law_errors") fd__law_errors := D__law_errors
  obtain ⟨fd__law_right, D__law_right⟩ := c.def_ 7 (d := d__law_right) rfl
  have D__law_right : FnP K "_law_right" "_law_right" s__law_right (He.ga K "_law_right") fd__law_right := D__law_right
  obtain ⟨fd_law, D_law⟩ := c.def_ 8 (d := d_law) rfl
  have D_law : FnP K "law" "law" s_law (He.ga K "law") fd_law := D_law
  have g__law_spring := He.glo_ok X G (c.fact 0 (f := fb_0) rfl)
  have g__law_draw := He.glo_ok X G (c.fact 1 (f := fb_1) rfl)
  have g__law_error := He.glo_ok X G (c.fact 2 (f := fb_2) rfl)
  have g__law_field := He.glo_ok X G (c.fact 3 (f := fb_3) rfl)
  have g__law_of := He.glo_ok X G (c.fact 4 (f := fb_4) rfl)
  have g__law_odd := He.glo_ok X G (c.fact 5 (f := fb_5) rfl)
  have g__law_errors := He.glo_ok X G (c.fact 6 (f := fb_6) rfl)
  have g__law_right := He.glo_ok X G (c.fact 7 (f := fb_7) rfl)
  have g_law := He.glo_ok X G (c.fact 8 (f := fb_8) rfl)
  have eb_Broken := (fun h => h) (c.fact 9 (f := fb_9) rfl)
  have eb_InUse := (fun h => h) (c.fact 10 (f := fb_10) rfl)
  have eb_InvalidChain := (fun h => h) (c.fact 11 (f := fb_11) rfl)
  have eb_InvalidExchanges := (fun h => h) (c.fact 12 (f := fb_12) rfl)
  have eb_InvalidLot := (fun h => h) (c.fact 13 (f := fb_13) rfl)
  have eb_InvalidMove := (fun h => h) (c.fact 14 (f := fb_14) rfl)
  have eb_InvalidName := (fun h => h) (c.fact 15 (f := fb_15) rfl)
  have eb_InvalidNumber := (fun h => h) (c.fact 16 (f := fb_16) rfl)
  have eb_InvalidPlan := (fun h => h) (c.fact 17 (f := fb_17) rfl)
  have eb_InvalidRows := (fun h => h) (c.fact 18 (f := fb_18) rfl)
  have eb_InvalidStanding := (fun h => h) (c.fact 19 (f := fb_19) rfl)
  have eb_InvalidText := (fun h => h) (c.fact 20 (f := fb_20) rfl)
  have eb_InvalidTurn := (fun h => h) (c.fact 21 (f := fb_21) rfl)
  have eb_InvalidTurns := (fun h => h) (c.fact 22 (f := fb_22) rfl)
  have eb_InvalidWish := (fun h => h) (c.fact 23 (f := fb_23) rfl)
  have eb_InvalidWishes := (fun h => h) (c.fact 24 (f := fb_24) rfl)
  have eb_NoAnswer := (fun h => h) (c.fact 25 (f := fb_25) rfl)
  have eb_NotATable := (fun h => h) (c.fact 26 (f := fb_26) rfl)
  have eb_NothingToUndo := (fun h => h) (c.fact 27 (f := fb_27) rfl)
  have eb_TooMany := (fun h => h) (c.fact 28 (f := fb_28) rfl)
  have eb_UnknownName := (fun h => h) (c.fact 29 (f := fb_29) rfl)
  have eb_WrongName := (fun h => h) (c.fact 30 (f := fb_30) rfl)
  have eb_WrongValue := (fun h => h) (c.fact 31 (f := fb_31) rfl)
  have g_Broken := He.glo_ok X G (c.fact 32 (f := fb_32) rfl)
  have g_InUse := He.glo_ok X G (c.fact 33 (f := fb_33) rfl)
  have g_InvalidChain := He.glo_ok X G (c.fact 34 (f := fb_34) rfl)
  have g_InvalidExchanges := He.glo_ok X G (c.fact 35 (f := fb_35) rfl)
  have g_InvalidLot := He.glo_ok X G (c.fact 36 (f := fb_36) rfl)
  have g_InvalidMove := He.glo_ok X G (c.fact 37 (f := fb_37) rfl)
  have g_InvalidName := He.glo_ok X G (c.fact 38 (f := fb_38) rfl)
  have g_InvalidNumber := He.glo_ok X G (c.fact 39 (f := fb_39) rfl)
  have g_InvalidPlan := He.glo_ok X G (c.fact 40 (f := fb_40) rfl)
  have g_InvalidRows := He.glo_ok X G (c.fact 41 (f := fb_41) rfl)
  have g_InvalidStanding := He.glo_ok X G (c.fact 42 (f := fb_42) rfl)
  have g_InvalidText := He.glo_ok X G (c.fact 43 (f := fb_43) rfl)
  have g_InvalidTurn := He.glo_ok X G (c.fact 44 (f := fb_44) rfl)
  have g_InvalidTurns := He.glo_ok X G (c.fact 45 (f := fb_45) rfl)
  have g_InvalidWish := He.glo_ok X G (c.fact 46 (f := fb_46) rfl)
  have g_InvalidWishes := He.glo_ok X G (c.fact 47 (f := fb_47) rfl)
  have g_NoAnswer := He.glo_ok X G (c.fact 48 (f := fb_48) rfl)
  have g_NotATable := He.glo_ok X G (c.fact 49 (f := fb_49) rfl)
  have g_NothingToUndo := He.glo_ok X G (c.fact 50 (f := fb_50) rfl)
  have g_TooMany := He.glo_ok X G (c.fact 51 (f := fb_51) rfl)
  have g_UnknownName := He.glo_ok X G (c.fact 52 (f := fb_52) rfl)
  have g_WrongName := He.glo_ok X G (c.fact 53 (f := fb_53) rfl)
  have g_WrongValue := He.glo_ok X G (c.fact 54 (f := fb_54) rfl)
  have sys_T := Hd.sys_ok (c.fact 55 (f := fb_55) rfl)
  have xa_given := Hd.xat_ok (c.fact 56 (f := fb_56) rfl)
  have xa_index := Hd.xat_ok (c.fact 57 (f := fb_57) rfl)
  have xa_shown := Hd.xat_ok (c.fact 58 (f := fb_58) rfl)
  have xis_T := Hd.xis_ok (c.fact 59 (f := fb_59) rfl)
  have g_ArithmeticError := He.free_ok X G (c.fact 60 (f := fb_60) rfl)
  have g_LookupError := He.free_ok X G (c.fact 61 (f := fb_61) rfl)
  have g_MOST_DIALS := He.int_ok X G (c.fact 62 (f := fb_62) rfl)
  have g_MOST_EXCHANGES := He.int_ok X G (c.fact 63 (f := fb_63) rfl)
  have g_MOST_KINDS := He.int_ok X G (c.fact 64 (f := fb_64) rfl)
  have g_MOST_MARKS := He.int_ok X G (c.fact 65 (f := fb_65) rfl)
  have g_MOST_RING := He.int_ok X G (c.fact 66 (f := fb_66) rfl)
  have g_MOST_STANDINGS := He.int_ok X G (c.fact 67 (f := fb_67) rfl)
  have g_MOST_TURNS := He.int_ok X G (c.fact 68 (f := fb_68) rfl)
  have g_ValueError := He.free_ok X G (c.fact 69 (f := fb_69) rfl)
  have g_abs := He.free_ok X G (c.fact 70 (f := fb_70) rfl)
  have g_all := He.free_ok X G (c.fact 71 (f := fb_71) rfl)
  have g_divmod := He.free_ok X G (c.fact 72 (f := fb_72) rfl)
  have g_int := He.free_ok X G (c.fact 73 (f := fb_73) rfl)
  have g_isinstance := He.free_ok X G (c.fact 74 (f := fb_74) rfl)
  have g_len := He.free_ok X G (c.fact 75 (f := fb_75) rfl)
  have g_max := He.free_ok X G (c.fact 76 (f := fb_76) rfl)
  have g_min := He.free_ok X G (c.fact 77 (f := fb_77) rfl)
  have g_range := He.free_ok X G (c.fact 78 (f := fb_78) rfl)
  have g_repr := He.free_ok X G (c.fact 79 (f := fb_79) rfl)
  have g_super := He.free_ok X G (c.fact 80 (f := fb_80) rfl)
  have x_InvalidText : ExKB P K mg "InvalidText" "given" := Hd.ex_okB Exb.xb_VE eb_InvalidText (c.exc 0 rfl) hfile htop il_InvalidText g_InvalidText g_super
  have x_InvalidNumber : ExKB P K mg "InvalidNumber" "given" := Hd.ex_okB Exb.xb_VE eb_InvalidNumber (c.exc 1 rfl) hfile htop il_InvalidNumber g_InvalidNumber g_super
  have x_InvalidStanding : ExKB P K mg "InvalidStanding" "given" := Hd.ex_okB Exb.xb_VE eb_InvalidStanding (c.exc 2 rfl) hfile htop il_InvalidStanding g_InvalidStanding g_super
  have x_InvalidMove : ExKB P K mg "InvalidMove" "given" := Hd.ex_okB Exb.xb_VE eb_InvalidMove (c.exc 3 rfl) hfile htop il_InvalidMove g_InvalidMove g_super
  have x_InvalidTurn : ExKB P K mg "InvalidTurn" "given" := Hd.ex_okB Exb.xb_VE eb_InvalidTurn (c.exc 4 rfl) hfile htop il_InvalidTurn g_InvalidTurn g_super
  have x_InvalidLot : ExKB P K mg "InvalidLot" "given" := Hd.ex_okB Exb.xb_VE eb_InvalidLot (c.exc 5 rfl) hfile htop il_InvalidLot g_InvalidLot g_super
  have x_InvalidName : ExKB P K mg "InvalidName" "given" := Hd.ex_okB Exb.xb_VE eb_InvalidName (c.exc 6 rfl) hfile htop il_InvalidName g_InvalidName g_super
  have x_InvalidWish : ExKB P K mg "InvalidWish" "given" := Hd.ex_okB Exb.xb_VE eb_InvalidWish (c.exc 7 rfl) hfile htop il_InvalidWish g_InvalidWish g_super
  have x_NotATable : ExKB P K mg "NotATable" "given" := Hd.ex_okB Exb.xb_VE eb_NotATable (c.exc 8 rfl) hfile htop il_NotATable g_NotATable g_super
  have x_InvalidRows : ExKB P K mg "InvalidRows" "index" := Hd.ex_okB Exb.xb_VE eb_InvalidRows (c.exc 9 rfl) hfile htop il_InvalidRows g_InvalidRows g_super
  have x_InvalidPlan : ExKB P K mg "InvalidPlan" "index" := Hd.ex_okB Exb.xb_VE eb_InvalidPlan (c.exc 10 rfl) hfile htop il_InvalidPlan g_InvalidPlan g_super
  have x_InvalidTurns : ExKB P K mg "InvalidTurns" "index" := Hd.ex_okB Exb.xb_VE eb_InvalidTurns (c.exc 11 rfl) hfile htop il_InvalidTurns g_InvalidTurns g_super
  have x_InvalidChain : ExKB P K mg "InvalidChain" "index" := Hd.ex_okB Exb.xb_VE eb_InvalidChain (c.exc 12 rfl) hfile htop il_InvalidChain g_InvalidChain g_super
  have x_InvalidExchanges : ExKB P K mg "InvalidExchanges" "index" := Hd.ex_okB Exb.xb_VE eb_InvalidExchanges (c.exc 13 rfl) hfile htop il_InvalidExchanges g_InvalidExchanges g_super
  have x_InvalidWishes : ExKB P K mg "InvalidWishes" "index" := Hd.ex_okB Exb.xb_VE eb_InvalidWishes (c.exc 14 rfl) hfile htop il_InvalidWishes g_InvalidWishes g_super
  have x_UnknownName : ExKB P K mg "UnknownName" "given" := Hd.ex_okB Exb.xb_LE eb_UnknownName (c.exc 15 rfl) hfile htop il_UnknownName g_UnknownName g_super
  have x_InUse : ExKB P K mg "InUse" "index" := Hd.ex_okB Exb.xb_LE eb_InUse (c.exc 16 rfl) hfile htop il_InUse g_InUse g_super
  have x_TooMany : ExKB P K mg "TooMany" "given" := Hd.ex_okB Exb.xb_AE eb_TooMany (c.exc 17 rfl) hfile htop il_TooMany g_TooMany g_super
  have x_Broken : ExKB2 P K mg "Broken" "index" "shown" := Hd.ex_okB2 Exb.xb_AE eb_Broken (c.exc 18 rfl) hfile htop il_Broken g_Broken g_super
  have w_InvalidText : KwI K "InvalidText" ["given"] ["self", "given"] (fun l => l) := Hd.kw_ok eb_InvalidText (c.exc 0 rfl) hfile il_InvalidText ik_InvalidText
  have w_InvalidNumber : KwI K "InvalidNumber" ["given"] ["self", "given"] (fun l => l) := Hd.kw_ok eb_InvalidNumber (c.exc 1 rfl) hfile il_InvalidNumber ik_InvalidNumber
  have w_InvalidStanding : KwI K "InvalidStanding" ["given"] ["self", "given"] (fun l => l) := Hd.kw_ok eb_InvalidStanding (c.exc 2 rfl) hfile il_InvalidStanding ik_InvalidStanding
  have w_InvalidMove : KwI K "InvalidMove" ["given"] ["self", "given"] (fun l => l) := Hd.kw_ok eb_InvalidMove (c.exc 3 rfl) hfile il_InvalidMove ik_InvalidMove
  have w_InvalidTurn : KwI K "InvalidTurn" ["given"] ["self", "given"] (fun l => l) := Hd.kw_ok eb_InvalidTurn (c.exc 4 rfl) hfile il_InvalidTurn ik_InvalidTurn
  have w_InvalidLot : KwI K "InvalidLot" ["given"] ["self", "given"] (fun l => l) := Hd.kw_ok eb_InvalidLot (c.exc 5 rfl) hfile il_InvalidLot ik_InvalidLot
  have w_InvalidName : KwI K "InvalidName" ["given"] ["self", "given"] (fun l => l) := Hd.kw_ok eb_InvalidName (c.exc 6 rfl) hfile il_InvalidName ik_InvalidName
  have w_InvalidWish : KwI K "InvalidWish" ["given"] ["self", "given"] (fun l => l) := Hd.kw_ok eb_InvalidWish (c.exc 7 rfl) hfile il_InvalidWish ik_InvalidWish
  have w_NotATable : KwI K "NotATable" ["given"] ["self", "given"] (fun l => l) := Hd.kw_ok eb_NotATable (c.exc 8 rfl) hfile il_NotATable ik_NotATable
  have w_InvalidRows : KwI K "InvalidRows" ["index"] ["self", "index"] (fun l => l) := Hd.kw_ok eb_InvalidRows (c.exc 9 rfl) hfile il_InvalidRows ik_InvalidRows
  have w_InvalidPlan : KwI K "InvalidPlan" ["index"] ["self", "index"] (fun l => l) := Hd.kw_ok eb_InvalidPlan (c.exc 10 rfl) hfile il_InvalidPlan ik_InvalidPlan
  have w_InvalidTurns : KwI K "InvalidTurns" ["index"] ["self", "index"] (fun l => l) := Hd.kw_ok eb_InvalidTurns (c.exc 11 rfl) hfile il_InvalidTurns ik_InvalidTurns
  have w_InvalidChain : KwI K "InvalidChain" ["index"] ["self", "index"] (fun l => l) := Hd.kw_ok eb_InvalidChain (c.exc 12 rfl) hfile il_InvalidChain ik_InvalidChain
  have w_InvalidExchanges : KwI K "InvalidExchanges" ["index"] ["self", "index"] (fun l => l) := Hd.kw_ok eb_InvalidExchanges (c.exc 13 rfl) hfile il_InvalidExchanges ik_InvalidExchanges
  have w_InvalidWishes : KwI K "InvalidWishes" ["index"] ["self", "index"] (fun l => l) := Hd.kw_ok eb_InvalidWishes (c.exc 14 rfl) hfile il_InvalidWishes ik_InvalidWishes
  have w_UnknownName : KwI K "UnknownName" ["given"] ["self", "given"] (fun l => l) := Hd.kw_ok eb_UnknownName (c.exc 15 rfl) hfile il_UnknownName ik_UnknownName
  have w_InUse : KwI K "InUse" ["index"] ["self", "index"] (fun l => l) := Hd.kw_ok eb_InUse (c.exc 16 rfl) hfile il_InUse ik_InUse
  have w_TooMany : KwI K "TooMany" ["given"] ["self", "given"] (fun l => l) := Hd.kw_ok eb_TooMany (c.exc 17 rfl) hfile il_TooMany ik_TooMany
  have w_Broken : KwI K "Broken" ["shown", "index"] ["self", "index", "shown"] (fun l => l.reverse) := Hd.kw_ok2 eb_Broken (c.exc 18 rfl) hfile ik_Broken
  have x_WrongValue : ExK0 K mg "WrongValue" := Hd.ex_ok0 Exb.xb_VE eb_WrongValue g_WrongValue
  have x_WrongName : ExK0 K mg "WrongName" := Hd.ex_ok0 Exb.xb_LE eb_WrongName g_WrongName
  have x_NoAnswer : ExK0 K mg "NoAnswer" := Hd.ex_ok0 Exb.xb_AE eb_NoAnswer g_NoAnswer
  have x_NothingToUndo : ExK0 K mg "NothingToUndo" := Hd.ex_ok0 Exb.xb_AE eb_NothingToUndo g_NothingToUndo
  have e := hfa.symm.trans g_law
  cases e
  have b := FunD.bindsA (ps := ["_law_script"]) D_law fun _ _ _ _ _ _ us hl => match us, hl with | [_], _ => rfl
  refine ⟨fd_law, fun s v => b s [v] rfl, fun base _ _ TB => ?_⟩
  have C__law_spring : Cal P w K mg base 1 "_law_spring" ["_law_cells", "_law_k"] F__law_spring s__law_spring := ⟨_, fd__law_spring, ok__law_spring D__law_spring g_abs g_int g_len, g__law_spring, D__law_spring.kp, (FunD.bindsN (ps := ["_law_cells", "_law_k"]) D__law_spring fun _ _ _ _ _ _ us hl => match us, hl with | [_, _], _ => rfl), _, D__law_spring⟩
  have C__law_draw : Cal P w K mg base 1 "_law_draw" ["_law_spring_here", "_law_size"] F__law_draw s__law_draw := ⟨_, fd__law_draw, ok__law_draw D__law_draw g_divmod g_int, g__law_draw, D__law_draw.kp, (FunD.bindsN (ps := ["_law_spring_here", "_law_size"]) D__law_draw fun _ _ _ _ _ _ us hl => match us, hl with | [_, _], _ => rfl), _, D__law_draw⟩
  have C__law_error : Cal P w K mg base 1 "_law_error" ["_law_e"] F__law_error s__law_error := ⟨_, fd__law_error, ok__law_error D__law_error g_Broken g_InUse g_InvalidChain g_InvalidExchanges g_InvalidLot g_InvalidMove g_InvalidName g_InvalidNumber g_InvalidPlan g_InvalidRows g_InvalidStanding g_InvalidText g_InvalidTurn g_InvalidTurns g_InvalidWish g_InvalidWishes g_NoAnswer g_NotATable g_NothingToUndo g_TooMany g_UnknownName g_WrongName g_WrongValue xis_T g_ArithmeticError g_LookupError g_ValueError g_isinstance, g__law_error, D__law_error.kp, (FunD.bindsN (ps := ["_law_e"]) D__law_error fun _ _ _ _ _ _ us hl => match us, hl with | [_], _ => rfl), _, D__law_error⟩
  have C__law_field : Cal P w K mg base 1 "_law_field" ["_law_e", "_law_word_now"] F__law_field s__law_field := ⟨_, fd__law_field, ok__law_field D__law_field xa_given xa_index xa_shown, g__law_field, D__law_field.kp, (FunD.bindsN (ps := ["_law_e", "_law_word_now"]) D__law_field fun _ _ _ _ _ _ us hl => match us, hl with | [_, _], _ => rfl), _, D__law_field⟩
  have C__law_of : Cal P w K mg base 2 "_law_of" ["_law_spring_here", "_law_menu"] F__law_of s__law_of := ⟨_, fd__law_of, ok__law_of D__law_of C__law_draw g_len, g__law_of, D__law_of.kp, (FunD.bindsN (ps := ["_law_spring_here", "_law_menu"]) D__law_of fun _ _ _ _ _ _ us hl => match us, hl with | [_, _], _ => rfl), _, D__law_of⟩
  have C__law_odd : Cal P w K mg base 3 "_law_odd" ["_law_spring_here"] F__law_odd s__law_odd := ⟨_, fd__law_odd, ok__law_odd D__law_odd C__law_of, g__law_odd, D__law_odd.kp, (FunD.bindsN (ps := ["_law_spring_here"]) D__law_odd fun _ _ _ _ _ _ us hl => match us, hl with | [_], _ => rfl), _, D__law_odd⟩
  have C__law_errors : Cal P w K mg base 3 "_law_errors" ["_law_thing"] F__law_errors s__law_errors := ⟨_, fd__law_errors, ok__law_errors D__law_errors x_InUse x_InvalidChain x_InvalidExchanges x_InvalidLot x_InvalidMove x_InvalidName x_InvalidNumber x_InvalidPlan x_InvalidRows x_InvalidStanding x_InvalidText x_InvalidTurn x_InvalidTurns x_InvalidWish x_InvalidWishes x_NotATable x_TooMany x_UnknownName w_InUse w_InvalidChain w_InvalidExchanges w_InvalidLot w_InvalidMove w_InvalidName w_InvalidNumber w_InvalidPlan w_InvalidRows w_InvalidStanding w_InvalidText w_InvalidTurn w_InvalidTurns w_InvalidWish w_InvalidWishes w_NotATable w_TooMany w_UnknownName, g__law_errors, D__law_errors.kp, (FunD.bindsN (ps := ["_law_thing"]) D__law_errors fun _ _ _ _ _ _ us hl => match us, hl with | [_], _ => rfl), _, D__law_errors⟩
  have C__law_right : Cal P w K mg base 4 "_law_right" ["_law_spring_here"] F__law_right s__law_right := ⟨_, fd__law_right, ok__law_right D__law_right C__law_error C__law_errors C__law_field C__law_odd x_Broken x_NothingToUndo w_Broken sys_T g_len g_range g_repr, g__law_right, D__law_right.kp, (FunD.bindsN (ps := ["_law_spring_here"]) D__law_right fun _ _ _ _ _ _ us hl => match us, hl with | [_], _ => rfl), _, D__law_right⟩
  exact ok_law D_law C__law_right C__law_spring x_NoAnswer x_WrongName x_WrongValue g_WrongValue sys_T xis_T g_ArithmeticError g_LookupError g_MOST_DIALS g_MOST_EXCHANGES g_MOST_KINDS g_MOST_MARKS g_MOST_RING g_MOST_STANDINGS g_MOST_TURNS g_ValueError g_all g_isinstance g_len g_max g_min g_range g_repr
end K01
open PySem PySem.W PySem.Calls PyProof.Rows
theorem K01.fits (hl : ∀ ns : List Int, ns.length ≤ 63 → ∃ h', K01.F_law [.scr (ns.map Ab.D.int)] [] = .ok (.bl true) h') : PySem.Challenge.rw_turnedblind_k01_errors_and_limits.Holds := by
  w_on; o_law
  refine HandSHeadRun.head_any (r := OpenLaw.row PySem.Challenge.rw_turnedblind_k01_errors_and_limits) (q := view (OpenLaw.row PySem.Challenge.rw_turnedblind_k01_errors_and_limits).prog [40]) (H := K01.hk) (ob := K01.ob) (M := 20000) (loose := K01.names) (d := HandSHeadRun.topDef (OpenLaw.row PySem.Challenge.rw_turnedblind_k01_errors_and_limits).prog 40) (kwd := []) K01.ob_eq
    (by kernel_rfl) (fun s => by kernel_rfl) K01.run (by kernel_rfl) (by kernel_rfl) (by kernel_rfl) (by rfl) (by first | assumption | decide +kernel) (by decide +kernel) ⟨rfl, rfl, rfl, rfl, rfl, by decide +kernel⟩ ?hw ?hc
  case hw => w_witness2
  case hc =>
    refine Ab.walk_G (l := PySem.Challenge.rw_turnedblind_k01_errors_and_limits) (n := 63) (k := 5) (x := "_law_script") rfl (by decide) (by kernel_rfl) ⟨rfl, by decide, by decide⟩ ?F
    intro w mg fa h Y G hmg0
    obtain ⟨K, KX, c, tb⟩ := Y
    have hmg : mg ("law" : PySem.Str) = some (.ref fa) := by
      have e : (HandSHeadRun.topDef (OpenLaw.row PySem.Challenge.rw_turnedblind_k01_errors_and_limits).prog 40).name = ("law" : PySem.Str) := by kernel_rfl
      rw [← e]
      exact hmg0
    obtain ⟨fd, hb, hF⟩ := K01.facts (P := (PySem.Challenge.rw_turnedblind_k01_errors_and_limits).prog) (w := w) KX G hmg c (by kernel_rfl) (by kernel_rfl)
    exact ⟨K, fd, Ab.spD K 1 K01.F_law, KX, hb, fun H a ns hlen hTb hO hS => Ab.sp_law hl H a ns hlen hTb hO hS, Ab.Hd.tab3_ok KX (c.fact 81 (f := K01.fb_81) rfl) tb, hF⟩

/-! All of the kit's modules that a claim's text imports: names that are told twice show here. -/

/-! What the layer's pieces compute, as rewriting rules. -/
namespace Ab
open PySem PySem.Spec L2
section
variable {α β : Type} {a : α} {h h' : AH} {env env' : En} {x : Str} {fs : List (Str × D)} {d y : D} {ds es : List D} {i j : Int} {n m k : Nat} {b c : Bool}
@[simp] theorem b_ok {f : α → AH → R β} : R.bind (.ok a h) f = f a h := rfl.trans rfl
@[simp] theorem b_bad {f : α → AH → R β} : R.bind .bad f = .bad := rfl.trans rfl
@[simp] theorem t_ok {f : α → AH → SS} : R.then (.ok a h) f = f a h := rfl.trans rfl
@[simp] theorem t_bad {f : α → AH → SS} : R.then .bad f = .bad := rfl.trans rfl
@[simp] theorem e_C : mC d env h = .ok d h := rfl.trans rfl
theorem e_V (e : env[n]? = some (some d)) : mVar n env h = .ok d h := by unfold mVar; rw [e]
@[simp] theorem e_V0 {r : En} : mVar 0 (some d :: r) h = .ok d h := rfl.trans rfl
@[simp] theorem e_VS {o : Option D} {r : En} : mVar (n + 1) (o :: r) h = mVar n r h := rfl.trans rfl
@[simp] theorem e_V1 {o1 : Option D} {r : En} : mVar 1 (o1 :: some d :: r) h = .ok d h := rfl.trans rfl
@[simp] theorem e_V2 {o1 o2 : Option D} {r : En} : mVar 2 (o1 :: o2 :: some d :: r) h = .ok d h := rfl.trans rfl
@[simp] theorem e_V3 {o1 o2 o3 : Option D} {r : En} : mVar 3 (o1 :: o2 :: o3 :: some d :: r) h = .ok d h := rfl.trans rfl
@[simp] theorem e_V4 {o1 o2 o3 o4 : Option D} {r : En} : mVar 4 (o1 :: o2 :: o3 :: o4 :: some d :: r) h = .ok d h := rfl.trans rfl
@[simp] theorem e_V5 {o1 o2 o3 o4 o5 : Option D} {r : En} : mVar 5 (o1 :: o2 :: o3 :: o4 :: o5 :: some d :: r) h = .ok d h := rfl.trans rfl
@[simp] theorem e_V6 {o1 o2 o3 o4 o5 o6 : Option D} {r : En} : mVar 6 (o1 :: o2 :: o3 :: o4 :: o5 :: o6 :: some d :: r) h = .ok d h := rfl.trans rfl
@[simp] theorem e_V7 {o1 o2 o3 o4 o5 o6 o7 : Option D} {r : En} : mVar 7 (o1 :: o2 :: o3 :: o4 :: o5 :: o6 :: o7 :: some d :: r) h = .ok d h := rfl.trans rfl
@[simp] theorem e_V8 {o1 o2 o3 o4 o5 o6 o7 o8 : Option D} {r : En} : mVar 8 (o1 :: o2 :: o3 :: o4 :: o5 :: o6 :: o7 :: o8 :: some d :: r) h = .ok d h := rfl.trans rfl
@[simp] theorem e_V9 {o1 o2 o3 o4 o5 o6 o7 o8 o9 : Option D} {r : En} : mVar 9 (o1 :: o2 :: o3 :: o4 :: o5 :: o6 :: o7 :: o8 :: o9 :: some d :: r) h = .ok d h := rfl.trans rfl
@[simp] theorem e_V10 {o1 o2 o3 o4 o5 o6 o7 o8 o9 o10 : Option D} {r : En} : mVar 10 (o1 :: o2 :: o3 :: o4 :: o5 :: o6 :: o7 :: o8 :: o9 :: o10 :: some d :: r) h = .ok d h := rfl.trans rfl
/-! continuations, each a name, so that what comes later is not touched before its turn -/
def kQ {γ : Type} (q : M α) (env : En) (f : β → α → AH → R γ) : β → AH → R γ := fun a h => (q env h).bind (f a)
@[simp] theorem k_Q {γ : Type} {q : M α} {f : β → α → AH → R γ} {b : β} : kQ q env f b h = (q env h).bind (f b) := rfl.trans rfl
def kBl (d : D) (h : AH) : R Bool := match d with
  | .bl b => .ok b h
  | _ => .bad
@[simp] theorem k_Bl : kBl (.bl b) h = .ok b h := rfl.trans rfl
def kTru (d : D) (h : AH) : R Bool := match truD d h with
  | some b => .ok b h
  | none => .bad
@[simp] theorem k_TruB : kTru (.bl b) h = .ok b h := rfl.trans rfl
@[simp] theorem k_TruI : kTru (.int i) h = .ok (i != 0) h := rfl.trans rfl
@[simp] theorem k_TruN : kTru .non h = .ok false h := rfl.trans rfl
def kNotT (b : Bool) (h : AH) : R Bool := .ok (!b) h
@[simp] theorem k_NotT : kNotT b h = .ok (!b) h := rfl.trans rfl
def kAndT (q : M Bool) (env : En) (b : Bool) (h : AH) : R Bool := if b = true then q env h else .ok false h
@[simp] theorem k_AndT1 {q : M Bool} : kAndT q env true h = q env h := rfl.trans rfl
@[simp] theorem k_AndT0 {q : M Bool} : kAndT q env false h = .ok false h := rfl.trans rfl
def kOrT (q : M Bool) (env : En) (b : Bool) (h : AH) : R Bool := if b = true then .ok true h else q env h
@[simp] theorem k_OrT1 {q : M Bool} : kOrT q env true h = .ok true h := rfl.trans rfl
@[simp] theorem k_OrT0 {q : M Bool} : kOrT q env false h = q env h := rfl.trans rfl
def kAnd (q : M D) (env : En) (a : D) (h : AH) : R D := match truD a h with
  | some true => q env h
  | some false => .ok a h
  | none => .bad
@[simp] theorem k_And1 {q : M D} : kAnd q env (.bl true) h = q env h := rfl.trans rfl
@[simp] theorem k_And0 {q : M D} : kAnd q env (.bl false) h = .ok (.bl false) h := rfl.trans rfl
def kOr (q : M D) (env : En) (a : D) (h : AH) : R D := match truD a h with
  | some true => .ok a h
  | some false => q env h
  | none => .bad
@[simp] theorem k_Or1 {q : M D} : kOr q env (.bl true) h = .ok (.bl true) h := rfl.trans rfl
@[simp] theorem k_Or0 {q : M D} : kOr q env (.bl false) h = q env h := rfl.trans rfl
def kNot (a : D) (h : AH) : R D := match truD a h with
  | some b => .ok (.bl (!b)) h
  | none => .bad
@[simp] theorem k_Not : kNot (.bl b) h = .ok (.bl (!b)) h := rfl.trans rfl
def kIf (p q : M α) (env : En) (b : Bool) (h : AH) : R α := if b = true then p env h else q env h
@[simp] theorem k_If1 {p q : M α} : kIf p q env true h = p env h := rfl.trans rfl
@[simp] theorem k_If0 {p q : M α} : kIf p q env false h = q env h := rfl.trans rfl
def kCons (a : D) (r : List D) (h : AH) : R (List D) := .ok (a :: r) h
@[simp] theorem k_Cons : kCons d ds h = .ok (d :: ds) h := rfl.trans rfl
def kTup (ds : List D) (h : AH) : R D := if ds.length ≤ sizeLine then .ok (.tup ds) h else .bad
@[simp] theorem k_Tup (e : ds.length ≤ 1000) : kTup ds h = .ok (.tup ds) h := if_pos (Nat.le_trans e (by decide))
def kLst (ds : List D) (h : AH) : R (List D) := if ds.length ≤ sizeLine then .ok ds h else .bad
@[simp] theorem k_Lst (e : ds.length ≤ 1000) : kLst ds h = .ok ds h := if_pos (Nat.le_trans e (by decide))
def kFrz (ds : List D) (h : AH) : R D := .ok (.lst ds) h
@[simp] theorem k_Frz : kFrz ds h = .ok (.lst ds) h := rfl.trans rfl
def kOwn (ds : List D) (h : AH) : R D := .ok (.loc h.length) (h ++ [.lst ds])
@[simp] theorem k_Own : kOwn ds h = .ok (.loc h.length) (h ++ [.lst ds]) := rfl.trans rfl
def kCall (n : Nat) (F : Fn) (ds : List D) (h : AH) : R D := if ds.length = n then F ds h else .bad
@[simp] theorem k_Call {F : Fn} (e : ds.length = n) : kCall n F ds h = F ds h := if_pos e
def kCallK (n : Nat) (F : Fn) (g : List D → List D → List D) (ds es : List D) (h : AH) : R D := if (g ds es).length = n then F (g ds es) h else .bad
@[simp] theorem k_CallK {F : Fn} {g : List D → List D → List D} (e : (g ds es).length = n) : kCallK n F g ds es h = F (g ds es) h := if_pos e
def kChain (g : D → D → AH → R D) (c : M D) (env : En) (b : D) (k : D) (h : AH) : R D := match k with
  | .bl true => (c env h).bind (g b)
  | .bl false => .ok (.bl false) h
  | _ => .bad
@[simp] theorem k_Chain1 {g : D → D → AH → R D} {c : M D} : kChain g c env d (.bl true) h = (c env h).bind (g d) := rfl.trans rfl
@[simp] theorem k_Chain0 {g : D → D → AH → R D} {c : M D} : kChain g c env d (.bl false) h = .ok (.bl false) h := rfl.trans rfl
def kChain2 (f g : D → D → AH → R D) (c : M D) (env : En) (a b : D) (h : AH) : R D := (f a b h).bind (kChain g c env b)
@[simp] theorem k_Chain2 {f g : D → D → AH → R D} {c : M D} : kChain2 f g c env d y h = (f d y h).bind (kChain g c env y) := rfl.trans rfl
@[simp] theorem e_Chain {f g : D → D → AH → R D} {p q c : M D} : mChain f g p q c env h = (p env h).bind (kQ q env (kChain2 f g c env)) := rfl.trans rfl
@[simp] theorem e_Bin {f : D → D → AH → R D} {p q : M D} : mBin f p q env h = (p env h).bind (kQ q env f) := rfl.trans rfl
@[simp] theorem e_BinF {f : D → D → AH → R (List D)} {p q : M D} : mBinF f p q env h = (p env h).bind (kQ q env f) := rfl.trans rfl
@[simp] theorem e_Un {f : D → AH → R D} {p : M D} : mUn f p env h = (p env h).bind f := rfl.trans rfl
@[simp] theorem e_Bl {p : M D} : mBl p env h = (p env h).bind kBl := rfl.trans rfl
@[simp] theorem e_Tru {p : M D} : mTru p env h = (p env h).bind kTru := rfl.trans rfl
@[simp] theorem e_NotT {p : M Bool} : mNotT p env h = (p env h).bind kNotT := rfl.trans rfl
@[simp] theorem e_AndT {p q : M Bool} : mAndT p q env h = (p env h).bind (kAndT q env) := rfl.trans rfl
@[simp] theorem e_OrT {p q : M Bool} : mOrT p q env h = (p env h).bind (kOrT q env) := rfl.trans rfl
@[simp] theorem e_And {p q : M D} : mAnd p q env h = (p env h).bind (kAnd q env) := rfl.trans rfl
@[simp] theorem e_Or {p q : M D} : mOr p q env h = (p env h).bind (kOr q env) := rfl.trans rfl
@[simp] theorem e_Not {p : M D} : mNot p env h = (p env h).bind kNot := rfl.trans rfl
@[simp] theorem e_If {c : M Bool} {p q : M D} : mIf c p q env h = (c env h).bind (kIf p q env) := rfl.trans rfl
@[simp] theorem e_Nil : mNil env h = .ok [] h := rfl.trans rfl
@[simp] theorem e_Cons {p : M D} {q : M (List D)} : mCons p q env h = (p env h).bind (kQ q env kCons) := rfl.trans rfl
@[simp] theorem e_Tup {p : M (List D)} : mTup p env h = (p env h).bind kTup := rfl.trans rfl
@[simp] theorem e_Lst {p : M (List D)} : mLst p env h = (p env h).bind kLst := rfl.trans rfl
@[simp] theorem e_Frz {p : M (List D)} : mFrz p env h = (p env h).bind kFrz := rfl.trans rfl
@[simp] theorem e_Own {p : M (List D)} : mOwn p env h = (p env h).bind kOwn := rfl.trans rfl
@[simp] theorem e_CB {f : List D → AH → R D} {p : M (List D)} : mCB f p env h = (p env h).bind f := rfl.trans rfl
@[simp] theorem e_CBF {f : List D → AH → R (List D)} {p : M (List D)} : mCBF f p env h = (p env h).bind f := rfl.trans rfl
@[simp] theorem e_Call {F : Fn} {p : M (List D)} : mCall n F p env h = (p env h).bind (kCall n F) := rfl.trans rfl
@[simp] theorem e_CallP {F : Fn} {p : M (List D)} : mCallP n F p env h = (p env h).bind (callP n F) := rfl.trans rfl
def kCallKP (n : Nat) (F : Fn) (g : List D → List D → List D) (ds es : List D) (h : AH) : R D := callP n F (g ds es) h
@[simp] theorem k_CallKP {F : Fn} {g : List D → List D → List D} : kCallKP n F g ds es h = callP n F (g ds es) h := rfl.trans rfl
@[simp] theorem e_CallKP {F : Fn} {g : List D → List D → List D} {p q : M (List D)} : mCallKP n F g p q env h = (p env h).bind (kQ q env (kCallKP n F g)) := rfl.trans rfl
theorem c_P {F : Fn} {h' : AH} (e : F ds [] = .ok d h') (hl : ds.length = n) (hb : belowL 0 ds = true) (hd : below 0 d = true) : callP n F ds h = .ok d h := by
  unfold callP
  rw [if_pos ⟨hl, hb⟩, e]
  exact if_pos hd
@[simp] theorem e_CallK {F : Fn} {g : List D → List D → List D} {p q : M (List D)} : mCallK n F g p q env h = (p env h).bind (kQ q env (kCallK n F g)) := rfl.trans rfl
def kPart (d : D) (h : AH) : R (Option Int) := match d with
  | .int i => .ok (some i) h
  | _ => .bad
/-! statements -/
def SS.go (r : SS) (q : MS) : SS := match r with
  | .nx env h => q env h
  | r => r
@[simp] theorem go_nx {q : MS} : SS.go (.nx env h) q = q env h := rfl.trans rfl
@[simp] theorem go_rt {q : MS} : SS.go (.rt d h) q = .rt d h := rfl.trans rfl
@[simp] theorem go_bk {q : MS} : SS.go (.bk env h) q = .bk env h := rfl.trans rfl
@[simp] theorem go_ct {q : MS} : SS.go (.ct env h) q = .ct env h := rfl.trans rfl
@[simp] theorem e_Next : mNext env h = .nx env h := rfl.trans rfl
@[simp] theorem e_Seq {p q : MS} : mSeq p q env h = SS.go (p env h) q := rfl.trans rfl
def kDrop (env : En) (d : D) (h : AH) : SS := .nx env h
@[simp] theorem k_Drop : kDrop env d h = .nx env h := rfl.trans rfl
@[simp] theorem e_Drop {p : M D} : mDrop p env h = (p env h).then (kDrop env) := rfl.trans rfl
def kRet (d : D) (h : AH) : SS := .rt d h
@[simp] theorem k_Ret : kRet d h = .rt d h := rfl.trans rfl
@[simp] theorem e_Ret {p : M D} : mRet p env h = (p env h).then kRet := rfl.trans rfl
def kIfS (p q : MS) (env : En) (b : Bool) (h : AH) : SS := if b = true then p env h else q env h
@[simp] theorem k_IfS1 {p q : MS} : kIfS p q env true h = p env h := rfl.trans rfl
@[simp] theorem k_IfS0 {p q : MS} : kIfS p q env false h = q env h := rfl.trans rfl
@[simp] theorem e_IfS {c : M Bool} {p q : MS} : mIfS c p q env h = (c env h).then (kIfS p q env) := rfl.trans rfl
@[simp] theorem g_Name : mgName n d env h = .ok (env.set n (some d)) h := rfl.trans rfl
@[simp] theorem g_Nil : mgNil [] env h = .ok env h := rfl.trans rfl
@[simp] theorem g_Cons {p : MG} {q : List D → En → AH → R En} : mgCons p q (d :: ds) env h = (p d env h).bind (q ds) := rfl.trans rfl
@[simp] theorem g_Tup {q : List D → En → AH → R En} (e : ds.length = n) : mgTup n q (.tup ds) env h = q ds env h := if_pos e
def kNx (env : En) (h : AH) : SS := .nx env h
@[simp] theorem k_Nx : kNx env h = .nx env h := rfl.trans rfl
def kAsg (g : MG) (env : En) (d : D) (h : AH) : SS := (g d env h).then kNx
@[simp] theorem k_Asg {g : MG} : kAsg g env d h = (g d env h).then kNx := rfl.trans rfl
@[simp] theorem e_Asg {p : M D} {g : MG} : mAsg p g env h = (p env h).then (kAsg g env) := rfl.trans rfl
def kPar (n m : Nat) (env : En) (ds : List D) (h : AH) : SS := match ds with
  | [a, b] => .nx ((env.set n (some a)).set m (some b)) h
  | _ => .bad
@[simp] theorem k_Par : kPar n m env [d, y] h = .nx ((env.set n (some d)).set m (some y)) h := rfl.trans rfl
@[simp] theorem e_Par {p : M (List D)} : mPar n m p env h = (p env h).then (kPar n m env) := rfl.trans rfl
def kPar3 (n m l : Nat) (env : En) (ds : List D) (h : AH) : SS := match ds with
  | [a, b, c] => .nx (((env.set n (some a)).set m (some b)).set l (some c)) h
  | _ => .bad
@[simp] theorem k_Par3 {l : Nat} {z : D} : kPar3 n m l env [d, y, z] h = .nx (((env.set n (some d)).set m (some y)).set l (some z)) h := rfl.trans rfl
@[simp] theorem e_Par3 {l : Nat} {p : M (List D)} : mPar3 n m l p env h = (p env h).then (kPar3 n m l env) := rfl.trans rfl
def kAug2 (n : Nat) (f : D → D → AH → R D) (env : En) (x y : D) (h : AH) : SS := (f x y h).then fun z h2 => .nx (env.set n (some z)) h2
@[simp] theorem k_Aug2 {f : D → D → AH → R D} : kAug2 n f env d y h = (f d y h).then fun z h2 => .nx (env.set n (some z)) h2 := rfl.trans rfl
def kAug (n : Nat) (f : D → D → AH → R D) (p : M D) (env : En) (x : D) (h : AH) : SS := (p env h).then (kAug2 n f env x)
@[simp] theorem k_Aug {f : D → D → AH → R D} {p : M D} : kAug n f p env d h = (p env h).then (kAug2 n f env d) := rfl.trans rfl
@[simp] theorem e_Aug {f : D → D → AH → R D} {p : M D} : mAug n f p env h = (mVar n env h).then (kAug n f p env) := rfl.trans rfl
/-! what is walked -/
def kSeq (d : D) (h : AH) : R AI := match d with
  | .str z => .ok (.items (signsD z)) h
  | .lst ds => .ok (.items ds) h
  | .scr ds => .ok (.items ds) h
  | .tup ds => .ok (.items ds) h
  | .loc n => (match h[n]? with
    | some (.lst _) => .ok (.at_ n) h
    | _ => .bad)
  | _ => .bad
@[simp] theorem k_SeqL : kSeq (.lst ds) h = .ok (.items ds) h := rfl.trans rfl
@[simp] theorem k_SeqS : kSeq (.scr ds) h = .ok (.items ds) h := rfl.trans rfl
@[simp] theorem k_SeqT : kSeq (.tup ds) h = .ok (.items ds) h := rfl.trans rfl
@[simp] theorem i_Seq {p : M D} : miSeq p env h = (p env h).bind kSeq := rfl.trans rfl
def kR1 (ds : List D) (h : AH) : R AI := match ds with
    | [.int j] => if InW j then .ok (.items (rngD 0 j)) h else .bad
    | _ => .bad
@[simp] theorem k_R1 (h1 : -(2 ^ 62) ≤ i) (h2 : i < 2 ^ 62) : kR1 [.int i] h = .ok (.items (rngD 0 i)) h := if_pos ⟨h1, h2⟩
@[simp] theorem i_R1 {p : M (List D)} : miRng1 p env h = (p env h).bind kR1 := rfl.trans rfl
def kR2 (ds : List D) (h : AH) : R AI := match ds with
    | [.int i, .int j] => if InW i ∧ InW j then .ok (.items (rngD i j)) h else .bad
    | _ => .bad
@[simp] theorem k_R2 (h1 : -(2 ^ 62) ≤ i) (h2 : i < 2 ^ 62) (h3 : -(2 ^ 62) ≤ j) (h4 : j < 2 ^ 62) : kR2 [.int i, .int j] h = .ok (.items (rngD i j)) h := if_pos ⟨⟨h1, h2⟩, ⟨h3, h4⟩⟩
@[simp] theorem i_R2 {p : M (List D)} : miRng2 p env h = (p env h).bind kR2 := rfl.trans rfl
def kFor (g : MG) (p : MS) (env : En) (a : AI) (h : AH) : SS := match a with
  | .items ds => forItems g p ds env h
  | .at_ n => forAt g p n 1000000 0 env h
@[simp] theorem k_For {g : MG} {p : MS} : kFor g p env (.items ds) h = forItems g p ds env h := rfl.trans rfl
@[simp] theorem e_For {w : MI} {g : MG} {p : MS} : mFor w g p env h = (w env h).then (kFor g p env) := rfl.trans rfl
@[simp] theorem for_nil {g : MG} {p : MS} : forItems g p [] env h = .nx env h := rfl.trans rfl
def SS.lp (r : SS) (q : MS) : SS := match r with
  | .nx env' h' => q env' h'
  | .ct env' h' => q env' h'
  | .bk env' h' => .nx env' h'
  | r => r
@[simp] theorem lp_nx {q : MS} : SS.lp (.nx env h) q = q env h := rfl.trans rfl
@[simp] theorem lp_ct {q : MS} : SS.lp (.ct env h) q = q env h := rfl.trans rfl
@[simp] theorem lp_bk {q : MS} : SS.lp (.bk env h) q = .nx env h := rfl.trans rfl
@[simp] theorem lp_rt {q : MS} : SS.lp (.rt d h) q = .rt d h := rfl.trans rfl
def kTurn (p : MS) (q : MS) (env : En) (h : AH) : SS := SS.lp (p env h) q
@[simp] theorem k_Turn {p q : MS} : kTurn p q env h = SS.lp (p env h) q := rfl.trans rfl
theorem for_cons {g : MG} {p : MS} : forItems g p (d :: ds) env h = (g d env h).then (kTurn p (forItems g p ds)) := rfl.trans rfl
def kLc (g : MG) (c : M Bool) (e : M D) (env : En) (a : AI) (h : AH) : R (List D) := match a with
  | .items ds => if ds.length ≤ sizeLine then lcItems g c e env ds h else .bad
  | .at_ n => lcAt g c e env n 1000000 0 h
@[simp] theorem k_Lc {g : MG} {c : M Bool} {e : M D} (hl : ds.length ≤ sizeLine) : kLc g c e env (.items ds) h = lcItems g c e env ds h := if_pos hl
@[simp] theorem e_Lc {w : MI} {g : MG} {c : M Bool} {e : M D} {vs : List Nat} : mLc w g c e vs env h = (w env h).bind (kLc g c e (wipeE env vs)) := rfl.trans rfl
@[simp] theorem lc_nil {g : MG} {c : M Bool} {e : M D} : lcItems g c e env [] h = .ok [] h := rfl.trans rfl
theorem lc_cons {g : MG} {c : M Bool} {e : M D} : lcItems g c e env (d :: ds) h = (g d env h).bind fun env1 h1 => (c env1 h1).bind fun b h2 => if b = true then (e env1 h2).bind fun y h3 => (lcItems g c e env ds h3).bind fun r h4 => .ok (y :: r) h4 else lcItems g c e env ds h2 := rfl.trans rfl
def kWh (c : M Bool) (p : MS) (n : Nat) (env : En) (k : Bool) (h : AH) : SS := if k = true then SS.lp (p env h) (mWhile c p n) else .nx env h
@[simp] theorem k_Wh1 {c : M Bool} {p : MS} : kWh c p n env true h = SS.lp (p env h) (mWhile c p n) := rfl.trans rfl
@[simp] theorem k_Wh0 {c : M Bool} {p : MS} : kWh c p n env false h = .nx env h := rfl.trans rfl
@[simp] theorem wipe_nil : wipeE env [] = env := rfl.trans rfl
@[simp] theorem wipe_cons {v : Nat} {vs : List Nat} : wipeE env (v :: vs) = (wipeE env vs).set v none := rfl.trans rfl
/-! operators -/
@[simp] theorem o_add : addD (.int i) (.int j) h = .ok (.int (i + j)) h := rfl.trans rfl
@[simp] theorem o_addI : addI (.int i) (.int j) h = .ok (.int (i + j)) h := rfl.trans rfl
@[simp] theorem o_sub : subD (.int i) (.int j) h = .ok (.int (i - j)) h := rfl.trans rfl
theorem o_mul (c : CMul i j) : mulD (.int i) (.int j) h = .ok (.int (i * j)) h := by simp [mulD, c]
theorem o_mulL (h1 : -(2 ^ 64) < i) (h2 : i < 2 ^ 64) : mulD (.int i) (.int j) h = .ok (.int (i * j)) h := o_mul (.inl ⟨h1, h2⟩)
theorem o_mulR (h1 : -(2 ^ 64) < j) (h2 : j < 2 ^ 64) : mulD (.int i) (.int j) h = .ok (.int (i * j)) h := o_mul (.inr ⟨h1, h2⟩)
theorem o_div (h1 : 0 < j) (h2 : j < 1073741824) : divD (.int i) (.int j) h = .ok (.int (i / j)) h := by
  have : CDiv i j := ⟨h1, h2⟩
  simp [divD, this]
theorem o_pow (c : CPow i j) : powD (.int i) (.int j) h = .ok (.int (i ^ j.toNat)) h := by simp [powD, c]
theorem o_mod (h1 : 0 < j) : modD (.int i) (.int j) h = .ok (.int (i % j)) h := by simp [modD, h1]
@[simp] theorem o_cmp {f : Int → Int → Bool} : cmpD f (.int i) (.int j) h = .ok (.bl (f i j)) h := rfl.trans rfl
@[simp] theorem o_neg : negD (.int i) h = .ok (.int (-i)) h := rfl.trans rfl
@[simp] theorem o_eqI : eqD (.int i) (.int j) h = .ok (.bl (decide (i = j))) h := rfl.trans rfl
@[simp] theorem o_eqB : eqD (.bl b) (.bl c) h = .ok (.bl (decide (b = c))) h := rfl.trans rfl
@[simp] theorem o_eqS {s t : Str} : eqD (.str s) (.str t) h = .ok (.bl (decide (s = t))) h := rfl.trans rfl
@[simp] theorem o_neI : neD (.int i) (.int j) h = .ok (.bl (!decide (i = j))) h := rfl.trans rfl
@[simp] theorem o_neB : neD (.bl b) (.bl c) h = .ok (.bl (!decide (b = c))) h := rfl.trans rfl
@[simp] theorem o_neS {s t : Str} : neD (.str s) (.str t) h = .ok (.bl (!decide (s = t))) h := rfl.trans rfl
@[simp] theorem o_isN0 : isND false .non .non h = .ok (.bl true) h := rfl.trans rfl
@[simp] theorem o_isN1 : isND true .non .non h = .ok (.bl false) h := rfl.trans rfl
@[simp] theorem o_isI0 : isND false (.int i) .non h = .ok (.bl false) h := rfl.trans rfl
@[simp] theorem o_isI1 : isND true (.int i) .non h = .ok (.bl true) h := rfl.trans rfl
@[simp] theorem o_int : intD [.int i] h = .ok (.int i) h := rfl.trans rfl
@[simp] theorem o_abs : absD [.int i] h = .ok (.int (if i < 0 then -i else i)) h := rfl.trans rfl
@[simp] theorem o_max2 : max2D [.int i, .int j] h = .ok (.int (if j > i then j else i)) h := rfl.trans rfl
@[simp] theorem o_min2 : min2D [.int i, .int j] h = .ok (.int (if j < i then j else i)) h := rfl.trans rfl
theorem o_divmod (h1 : 0 < j) (h2 : j < 1073741824) : divmodD [.int i, .int j] h = .ok (.tup [.int (i / j), .int (i % j)]) h := by
  have : CDiv i j := ⟨h1, h2⟩
  simp [divmodD, this]
@[simp] theorem o_cat : catD (.lst ds) (.lst es) h = if ds.length + es.length ≤ sizeLine then .ok (ds ++ es) h else .bad := rfl.trans rfl
/-! leaving a def -/
@[simp] theorem f_T {p : MS} : mFnT n p ds h = exitR h.length (bodyR0 (p (initE n ds) h)) := rfl.trans rfl
@[simp] theorem f_K {p : MS} : mFnK n p ds h = bodyR0 (p (initE n ds) h) := rfl.trans rfl
@[simp] theorem r_nx : bodyR0 (.nx env h) = .ok .non h := rfl.trans rfl
@[simp] theorem r_rt : bodyR0 (.rt d h) = .ok d h := rfl.trans rfl
@[simp] theorem x_ok : exitR n (.ok d h) = exitD n d h := rfl.trans rfl
@[simp] theorem bw_int : below n (.int i) = true := by simp [below]
@[simp] theorem bw_bl : below n (.bl b) = true := by simp [below]
@[simp] theorem bw_str : below n (.str x) = true := by simp [below]
@[simp] theorem bw_non : below n .non = true := by simp [below]
@[simp] theorem x_same (hl : h.length = n) (hd : below n d = true) : exitD n d h = .ok d h := by
  subst hl
  unfold exitD
  rw [List.take_length]
  rw [if_pos hd]
  split <;> rfl
end
end Ab

/-! The laws' own source of numbers: what it computes, and that it stays in its bounds. -/
namespace Ab
open PySem PySem.Spec L2
def m_dSpring : MS :=
  (mSeq (mAsg (mIf (mBl (mBin (cmpD fun i j => decide (i < j)) (mVar 1) (mCB lenD (mCons (mVar 0) mNil)))) (mBin ixD (mVar 0) (mVar 1)) (mBin addD (mBin mulD (mC (.int 7)) (mVar 1)) (mC (.int 2)))) (mgName 2))
  (mSeq (mAsg (mBin addD (mC (.int 90001)) (mBin mulD (mC (.int 7919)) (mVar 1))) (mgName 3))
  (mSeq (mFor (miSeq (mFrz (mBinF catD (mFrz (mSlL (mVar 0) mNoPart (mPart (mC (.int 8))))) (mFrz (mLst (mCons (mVar 2) mNil)))))) (mgName 4) (mAsg (mBin modD (mCB intD (mCons (mBin addD (mBin addD (mBin mulD (mVar 3) (mC (.int 48271))) (mCB intD (mCons (mVar 4) mNil))) (mBin mulD (mC (.int 11)) (mVar 1))) mNil)) (mC (.int 2147483647))) (mgName 3)))
  (mRet (mOwn (mLst (mCons (mIf (mOrT (mBl (mBin (cmpD fun i j => decide (i < j)) (mVar 2) (mC (.int 0)))) (mBl (mBin (cmpD fun i j => decide (j ≤ i)) (mVar 2) (mBin powD (mC (.int 10)) (mC (.int 18)))))) (mCB absD (mCons (mVar 2) mNil)) (mC (.int 0))) (mCons (mVar 3) (mCons (mC (.int 0)) mNil)))))))))
def dSpring : Fn := mFnK 5 m_dSpring
def m_dDraw : MS :=
  (mSeq (mAsg (mBin addD (mBin ixD (mVar 0) (mC (.int 2))) (mC (.int 1))) (mgSub (mVar 0) (mC (.int 2))))
  (mSeq (mAsg (mBin modD (mCB intD (mCons (mBin addD (mBin addD (mBin mulD (mBin ixD (mVar 0) (mC (.int 1))) (mC (.int 69621))) (mBin mulD (mC (.int 40503)) (mBin ixD (mVar 0) (mC (.int 2))))) (mC (.int 1))) mNil)) (mC (.int 2147483647))) (mgSub (mVar 0) (mC (.int 1))))
  (mSeq (mIfS (mBl (mBin (cmpD fun i j => decide (j < i)) (mBin ixD (mVar 0) (mC (.int 0))) (mC (.int 0)))) (mSeq (mAsg (mCB divmodD (mCons (mBin ixD (mVar 0) (mC (.int 0))) (mCons (mVar 1) mNil))) (mgTup 2 (mgCons (mgSub (mVar 0) (mC (.int 0))) (mgCons (mgName 2) mgNil))))
  (mRet (mVar 2))) mNext)
  (mSeq (mAsg (mBin addD (mBin ixD (mVar 0) (mC (.int 1))) (mC (.int 12345))) (mgName 3))
  (mSeq (mAsg (mBin modD (mCB intD (mCons (mBin addD (mBin mulD (mVar 3) (mBin ixD (mVar 0) (mC (.int 1)))) (mBin ixD (mVar 0) (mC (.int 2)))) mNil)) (mC (.int 2147483629))) (mgName 4))
  (mRet (mBin modD (mCB intD (mCons (mBin divD (mVar 4) (mC (.int 256))) mNil)) (mVar 1))))))))
def dDraw : Fn := mFnT 5 m_dDraw
def m_dOf : MS :=
  (mRet (mBin ixD (mVar 1) (mCall 2 dDraw (mCons (mVar 0) (mCons (mCB lenD (mCons (mVar 1) mNil)) mNil)))))
def dOf : Fn := mFnT 2 m_dOf
section
variable {h h' : AH} {n m : Nat} {x y z d : D} {env : En} {a b c k : Int}
theorem ix_0 (e : h[n]? = some (.lst [x, y, z])) : ixD (.loc n) (.int 0) h = .ok x h := by simp [ixD, seqD, e, atI, ixN]
theorem ix_1 (e : h[n]? = some (.lst [x, y, z])) : ixD (.loc n) (.int 1) h = .ok y h := by simp [ixD, seqD, e, atI, ixN]
theorem ix_2 (e : h[n]? = some (.lst [x, y, z])) : ixD (.loc n) (.int 2) h = .ok z h := by simp [ixD, seqD, e, atI, ixN]
def kSub (env : En) (d o i : D) (h : AH) : R En := match o, i with
  | .loc n, .int k => (match h[n]? with
    | some (.lst ds) => (match ixN ds.length k with
      | some j => .ok env (h.set n (.lst (ds.set j d)))
      | none => .bad)
    | _ => .bad)
  | _, _ => .bad
@[simp] theorem e_Sub {p q : M D} : mgSub p q d env h = (p env h).bind (kQ q env (kSub env d)) := rfl.trans rfl
theorem k_Sub0 (e : h[n]? = some (.lst [x, y, z])) : kSub env d (.loc n) (.int 0) h = .ok env (h.set n (.lst [d, y, z])) := by simp [kSub, e, ixN]
theorem k_Sub1 (e : h[n]? = some (.lst [x, y, z])) : kSub env d (.loc n) (.int 1) h = .ok env (h.set n (.lst [x, d, z])) := by simp [kSub, e, ixN]
theorem k_Sub2 (e : h[n]? = some (.lst [x, y, z])) : kSub env d (.loc n) (.int 2) h = .ok env (h.set n (.lst [x, y, d])) := by simp [kSub, e, ixN]
@[simp] theorem k_SubS0 (e : n < h.length) : kSub env d (.loc n) (.int 0) (h.set n (.lst [x, y, z])) = .ok env (h.set n (.lst [d, y, z])) := by rw [k_Sub0 (List.getElem?_set_self e), List.set_set]
@[simp] theorem k_SubS1 (e : n < h.length) : kSub env d (.loc n) (.int 1) (h.set n (.lst [x, y, z])) = .ok env (h.set n (.lst [x, d, z])) := by rw [k_Sub1 (List.getElem?_set_self e), List.set_set]
@[simp] theorem k_SubS2 (e : n < h.length) : kSub env d (.loc n) (.int 2) (h.set n (.lst [x, y, z])) = .ok env (h.set n (.lst [x, y, d])) := by rw [k_Sub2 (List.getElem?_set_self e), List.set_set]
@[simp] theorem ix_S0 (e : n < h.length) : ixD (.loc n) (.int 0) (h.set n (.lst [x, y, z])) = .ok x (h.set n (.lst [x, y, z])) := ix_0 (List.getElem?_set_self e)
@[simp] theorem ix_S1 (e : n < h.length) : ixD (.loc n) (.int 1) (h.set n (.lst [x, y, z])) = .ok y (h.set n (.lst [x, y, z])) := ix_1 (List.getElem?_set_self e)
@[simp] theorem ix_S2 (e : n < h.length) : ixD (.loc n) (.int 2) (h.set n (.lst [x, y, z])) = .ok z (h.set n (.lst [x, y, z])) := ix_2 (List.getElem?_set_self e)
@[simp] theorem ixN30 : ixN 3 0 = some 0 := rfl.trans rfl
@[simp] theorem ixN31 : ixN 3 1 = some 1 := rfl.trans rfl
@[simp] theorem ixN32 : ixN 3 2 = some 2 := rfl.trans rfl
theorem lt_of_get {α : Type} {l : List α} {n : Nat} {x : α} (e : l[n]? = some x) : n < l.length := by
  rcases Nat.lt_or_ge n l.length with h | h
  · exact h
  · rw [List.getElem?_eq_none h] at e; cases e
/-- a spring stands at n -/
def Sp3 (h : AH) (n : Nat) : Prop := ∃ a b c : Int, h[n]? = some (.lst [.int a, .int b, .int c]) ∧ 0 ≤ a ∧ 0 ≤ b ∧ b < 2147483647
theorem draw_run (e : h[n]? = some (.lst [.int a, .int b, .int c])) (ha : 0 ≤ a) (hb : 0 ≤ b) (hb2 : b < 2147483647) (hk : 0 < k) (hk2 : k < 1073741824) :
    ∃ d a' b' c' : Int, dDraw [.loc n, .int k] h = .ok (.int d) (h.set n (.lst [.int a', .int b', .int c'])) ∧ 0 ≤ d ∧ d < k ∧ 0 ≤ a' ∧ 0 ≤ b' ∧ b' < 2147483647 := by
  have hn := lt_of_get e
  have m1 : ∀ {h : AH}, mulD (.int b) (.int 69621) h = .ok (.int (b * 69621)) h := o_mulR (by decide) (by decide)
  have m2 : ∀ {h : AH}, mulD (.int 40503) (.int (c + 1)) h = .ok (.int (40503 * (c + 1))) h := o_mulL (by decide) (by decide)
  have d1 : ∀ {i : Int} {h : AH}, modD (.int i) (.int 2147483647) h = .ok (.int (i % 2147483647)) h := o_mod (by decide)
  have d2 : ∀ {i : Int} {h : AH}, modD (.int i) (.int 2147483629) h = .ok (.int (i % 2147483629)) h := o_mod (by decide)
  have d3 : ∀ {i : Int} {h : AH}, divD (.int i) (.int 256) h = .ok (.int (i / 256)) h := o_div (by decide) (by decide)
  have d4 : ∀ {i : Int} {h : AH}, modD (.int i) (.int k) h = .ok (.int (i % k)) h := o_mod hk
  have d5 : ∀ {h : AH}, divmodD [.int a, .int k] h = .ok (.tup [.int (a / k), .int (a % k)]) h := o_divmod hk hk2
  have nb := Int.emod_nonneg (b * 69621 + 40503 * (c + 1) + 1) (show (2147483647 : Int) ≠ 0 by decide)
  have lb := Int.emod_lt_of_pos (b * 69621 + 40503 * (c + 1) + 1) (show (0 : Int) < 2147483647 by decide)
  have m3 : ∀ {h : AH}, mulD (.int ((b * 69621 + 40503 * (c + 1) + 1) % 2147483647 + 12345)) (.int ((b * 69621 + 40503 * (c + 1) + 1) % 2147483647)) h = .ok (.int (((b * 69621 + 40503 * (c + 1) + 1) % 2147483647 + 12345) * ((b * 69621 + 40503 * (c + 1) + 1) % 2147483647))) h := o_mulR (by omega) (by omega)
  have i0 := ix_0 e
  have i1 := ix_1 e
  have i2 := ix_2 e
  have s0 : ∀ {env : En} {d : D}, kSub env d (.loc n) (.int 2) h = .ok env (h.set n (.lst [.int a, .int b, d])) := k_Sub2 e
  by_cases h0 : 0 < a
  · refine ⟨a % k, a / k, (b * 69621 + 40503 * (c + 1) + 1) % 2147483647, c + 1, ?_, Int.emod_nonneg _ (by omega), Int.emod_lt_of_pos _ hk, Int.ediv_nonneg ha (by omega), nb, lb⟩
    simp [dDraw, m_dDraw, initE, i0, i1, i2, s0, hn, m1, m2, m3, d1, d2, d3, d4, d5, h0]
  · refine ⟨(((b * 69621 + 40503 * (c + 1) + 1) % 2147483647 + 12345) * ((b * 69621 + 40503 * (c + 1) + 1) % 2147483647) + (c + 1)) % 2147483629 / 256 % k, a, (b * 69621 + 40503 * (c + 1) + 1) % 2147483647, c + 1, ?_, Int.emod_nonneg _ (by omega), Int.emod_lt_of_pos _ hk, ha, nb, lb⟩
    simp [dDraw, m_dDraw, initE, i0, i1, i2, s0, hn, m1, m2, m3, d1, d2, d3, d4, d5, h0]
/-- what a draw leaves -/
def Dr (h : AH) (n : Nat) (h' : AH) : Prop := Sp3 h' n ∧ h'.length = h.length ∧ ∀ i, i ≠ n → h'[i]? = h[i]?
theorem Dr.trans {h'' : AH} (a : Dr h n h') (b : Dr h' n h'') : Dr h n h'' := ⟨b.1, b.2.1.trans a.2.1, fun i hi => (b.2.2 i hi).trans (a.2.2 i hi)⟩
theorem draw_ok (s : Sp3 h n) (hk : 0 < k) (hk2 : k < 1073741824) : ∃ (d : Int) (h' : AH), dDraw [.loc n, .int k] h = .ok (.int d) h' ∧ 0 ≤ d ∧ d < k ∧ Dr h n h' := by
  obtain ⟨a, b, c, e, ha, hb, hb2⟩ := s
  obtain ⟨d, a', b', c', q, h1, h2, h3, h4, h5⟩ := draw_run e ha hb hb2 hk hk2
  exact ⟨d, _, q, h1, h2, ⟨a', b', c', List.getElem?_set_self (lt_of_get e), h3, h4, h5⟩, List.length_set, fun i hi => List.getElem?_set_ne (Ne.symm hi)⟩
theorem atI_mem {α : Type} {l : List α} {d : Int} (h1 : 0 ≤ d) (h2 : d < l.length) : ∃ x, atI l d = some x ∧ x ∈ l := by
  have h3 : d.toNat < l.length := by omega
  refine ⟨l[d.toNat], ?_, List.getElem_mem h3⟩
  unfold atI ixN
  rw [if_pos h1, if_pos h2]
  exact List.getElem?_eq_getElem h3
/-- one of a menu -/
theorem of_ok {ds : List D} (s : Sp3 h n) (hk : 0 < ds.length) (hk2 : ds.length < 1000000) (hp : ∀ x ∈ ds, ∀ m, below m x = true) : ∃ (x : D) (h' : AH), dOf [.loc n, .lst ds] h = .ok x h' ∧ x ∈ ds ∧ Dr h n h' := by
  obtain ⟨d, h', e, h1, h2, t⟩ := draw_ok (k := (ds.length : Int)) s (by omega) (by omega)
  obtain ⟨x, ex, mx⟩ := atI_mem (l := ds) h1 (by omega)
  have hl : lenD [.lst ds] h = .ok (.int ds.length) h := rfl
  have hx : ixD (.lst ds) (.int d) h' = .ok x h' := by simp [ixD, seqD, ex]
  have hb : below h.length x = true := hp x mx _
  exact ⟨x, h', by simp [dOf, m_dOf, initE, hl, e, hx, t.2.1, hb], mx, t⟩
theorem for_inv {g : MG} {p : MS} (I : En → AH → Prop) : ∀ {ds : List D} {env : En} {h : AH}, I env h → (∀ d ∈ ds, ∀ env h, I env h → ∃ env1 h1 env' h', g d env h = .ok env1 h1 ∧ p env1 h1 = .nx env' h' ∧ I env' h') → ∃ env' h', forItems g p ds env h = .nx env' h' ∧ I env' h'
  | [], env, h, h0, _ => ⟨env, h, rfl, h0⟩
  | d :: ds, env, h, h0, st => by
    obtain ⟨env1, h1, env2, h2, e1, e2, i2⟩ := st d (List.mem_cons_self ..) env h h0
    obtain ⟨env3, h3, e3, i3⟩ := for_inv I (ds := ds) i2 fun d hd => st d (List.mem_cons_of_mem _ hd)
    exact ⟨env3, h3, by rw [for_cons, e1]; simp [e2, e3], i3⟩
theorem rngD_mem {lo hi : Int} {d : D} (m : d ∈ rngD lo hi) : ∃ i : Int, d = .int i ∧ lo ≤ i ∧ i < hi := by
  obtain ⟨i, hi1, rfl⟩ := List.mem_map.mp m
  have := List.mem_range.mp hi1
  exact ⟨lo + (i : Nat), rfl, by omega, by omega⟩
theorem rngD_len {lo hi : Int} : (rngD lo hi).length = (hi - lo).toNat := by simp [rngD]
theorem all_true {n : Nat} : allD false [.lst (List.replicate n (D.bl true))] h = .ok (.bl true) h := by
  have e : blsD (List.replicate n (D.bl true)) = some (List.replicate n true) := by
    induction n with
    | zero => rfl
    | succ n ih => rw [List.replicate_succ]; simp [blsD, ih, List.replicate_succ]
  have e2 : (List.replicate n true).all id = true := by simp
  show (match blsD (List.replicate n (D.bl true)) with | some bs => R.ok (D.bl (if false = true then bs.any id else bs.all id)) h | none => .bad) = _
  rw [e]
  simp
theorem spring_ok {ns : List Int} (hk : 0 ≤ k) (hk2 : k < 1000) (hl : ns.length ≤ 63) : ∃ a b c : Int, dSpring [.scr (ns.map .int), .int k] h = .ok (.loc h.length) (h ++ [.lst [.int a, .int b, .int c]]) ∧ 0 ≤ a ∧ 0 ≤ b ∧ b < 2147483647 := by
  have l1 : lenD [.scr (ns.map .int)] h = .ok (.int ns.length) h := by simp [lenD, seqD]
  have m1 : ∀ {h : AH}, mulD (.int 7) (.int k) h = .ok (.int (7 * k)) h := o_mulL (by decide) (by decide)
  have m2 : ∀ {h : AH}, mulD (.int 7919) (.int k) h = .ok (.int (7919 * k)) h := o_mulL (by decide) (by decide)
  have m4 : ∀ {h : AH}, mulD (.int 11) (.int k) h = .ok (.int (11 * k)) h := o_mulL (by decide) (by decide)
  have m3 : ∀ {i : Int} {h : AH}, mulD (.int i) (.int 48271) h = .ok (.int (i * 48271)) h := o_mulR (by decide) (by decide)
  have d1 : ∀ {i : Int} {h : AH}, modD (.int i) (.int 2147483647) h = .ok (.int (i % 2147483647)) h := o_mod (by decide)
  have p1 : ∀ {h : AH}, powD (.int 10) (.int 18) h = .ok (.int 1000000000000000000) h := fun {h} => (o_pow (by unfold CPow; decide)).trans rfl
  -- the cell
  have hc : ∃ cell : Int, mIf (mBl (mBin (cmpD fun i j => decide (i < j)) (mVar 1) (mCB lenD (mCons (mVar 0) mNil)))) (mBin ixD (mVar 0) (mVar 1)) (mBin addD (mBin mulD (mC (.int 7)) (mVar 1)) (mC (.int 2))) (initE 5 [.scr (ns.map .int), .int k]) h = .ok (.int cell) h := by
    by_cases q : k < ns.length
    · obtain ⟨x, ex, mx⟩ := atI_mem (l := ns.map D.int) hk (by simpa using q)
      obtain ⟨i, _, rfl⟩ := List.mem_map.mp mx
      have hx : ixD (.scr (ns.map .int)) (.int k) h = .ok (.int i) h := by simp [ixD, seqD, ex]
      exact ⟨i, by simp [initE, l1, q, hx]⟩
    · exact ⟨7 * k + 2, by simp [initE, l1, q, m1]⟩
  obtain ⟨cell, hc⟩ := hc
  have sl : mSlL (mVar 0) mNoPart (mPart (mC (.int 8))) [some (.scr (ns.map .int)), some (.int k), some (.int cell), some (.int (90001 + 7919 * k)), none] h = .ok (cutL (ns.map .int) none (some 8)) h := rfl
  have ct : catD (.lst (cutL (ns.map .int) none (some 8))) (.lst [.int cell]) h = .ok (cutL (ns.map .int) none (some 8) ++ [.int cell]) h := by
    rw [o_cat, if_pos]
    have : (cutL (ns.map D.int) none (some 8)).length ≤ 63 := by
      unfold cutL
      simp only [List.length_take, List.length_drop, List.length_map]
      omega
    have : (63 : Nat) + 1 ≤ sizeLine := by decide
    simp
    omega
  have hi : ∀ d ∈ cutL (ns.map D.int) none (some 8) ++ [.int cell], ∃ i, d = .int i := by
    intro d m
    rcases List.mem_append.mp m with m | m
    · obtain ⟨i, _, e⟩ := List.mem_map.mp (List.mem_of_mem_drop (List.mem_of_mem_take m))
      exact ⟨i, e.symm⟩
    · exact ⟨cell, List.mem_singleton.mp m⟩
  obtain ⟨env', h', ef, ⟨b, x, rfl, rfl, hb, hb2⟩⟩ := for_inv (g := mgName 4) (p := mAsg (mBin modD (mCB intD (mCons (mBin addD (mBin addD (mBin mulD (mVar 3) (mC (.int 48271))) (mCB intD (mCons (mVar 4) mNil))) (mBin mulD (mC (.int 11)) (mVar 1))) mNil)) (mC (.int 2147483647))) (mgName 3))
    (fun env h' => ∃ (b : Int) (x : Option D), env = [some (.scr (ns.map .int)), some (.int k), some (.int cell), some (.int b), x] ∧ h' = h ∧ 0 ≤ b ∧ b < 2147483647) (ds := cutL (ns.map D.int) none (some 8) ++ [.int cell])
    (env := [some (.scr (ns.map .int)), some (.int k), some (.int cell), some (.int (90001 + 7919 * k)), none]) (h := h) ⟨_, _, rfl, rfl, by omega, by omega⟩ (by
      intro d md env h1 ⟨b, x, e1, e2, h3, h4⟩
      subst e1 e2
      obtain ⟨i, rfl⟩ := hi d md
      refine ⟨_, _, _, _, rfl, ?_, (b * 48271 + i + 11 * k) % 2147483647, some (.int i), rfl, rfl, Int.emod_nonneg _ (by decide), Int.emod_lt_of_pos _ (by decide)⟩
      simp [m3, m4, d1])
  refine ⟨if cell < 0 ∨ cell ≥ 1000000000000000000 then (if cell < 0 then -cell else cell) else 0, b, 0, ?_, ?_, hb, hb2⟩
  · simp only [dSpring, m_dSpring, f_K, e_Seq, e_Asg, hc]
    by_cases q1 : cell < 0 <;> by_cases q2 : (1000000000000000000 : Int) ≤ cell <;> simp [initE, m2, sl, ct, ef, p1, q1, q2]
  · split
    · split <;> omega
    · omega
theorem sp3_new {a b c : Int} (h1 : 0 ≤ a) (h2 : 0 ≤ b) (h3 : b < 2147483647) : Sp3 (h ++ [.lst [.int a, .int b, .int c]]) h.length := ⟨a, b, c, by simp, h1, h2, h3⟩
end
end Ab

/-! Least factors and powers of one prime, in plain numbers. -/
namespace Ab
open PySem PySem.Spec L2
structure IsMf (v p : Nat) : Prop where
  two : 2 ≤ p
  dvd : p ∣ v
  least : ∀ d, 2 ≤ d → d < p → ¬ d ∣ v
/-- v is a power of its least factor p (some p), or is not (none) -/
def Pp (v : Nat) (o : Option Nat) : Prop := ∃ p, IsMf v p ∧ ((o = some p ∧ ∃ k, v = p ^ k) ∨ (o = none ∧ ¬ ∃ k, v = p ^ k))
def IsRest (p v r : Nat) : Prop := ∃ k, v = p ^ k * r ∧ ¬ p ∣ r
def optD : Option Nat → D
  | none => .non
  | some p => .int p
/-- the prime that both are powers of -/
def shO (a b : Option Nat) : Option Nat := if a = b then a else none
/-- the program's answer -/
def Shp (n m : Nat) (o : Option Nat) : Prop := ((n = 1 ∨ m = 1) ∧ o = none) ∨ (n ≠ 1 ∧ m ≠ 1 ∧ ∃ a b, Pp n a ∧ Pp m b ∧ o = shO a b)
/-! the two loops -/
section
variable {h : AH}
abbrev cPrime : M Bool := mAndT (mBl (mBin (cmpD fun i j => decide (i ≤ j)) (mBin mulD (mVar 1) (mVar 1)) (mVar 0))) (mBl (mBin (cmpD fun i j => decide (j < i)) (mBin modD (mVar 0) (mVar 1)) (mC (.int 0))))
abbrev bPrime : MS := mAug 1 addI (mC (.int 1))
abbrev cRest : M Bool := mBl (mBin eqD (mBin modD (mVar 0) (mVar 1)) (mC (.int 0)))
abbrev bRest : MS := mAsg (mBin divD (mVar 0) (mVar 1)) (mgName 0)
end
end Ab

/-! repr of data, comprehensions with a test, counted loops. -/
namespace Ab
open PySem PySem.Spec L2
section
variable {h : AH} {d : D} {ds : List D} {c c' k n : Nat}
/-- what can be shown, at a cost -/
def Sh (d : D) (c k : Nat) : Prop := ∃ p, toPy0 d = some p ∧ p.showable = true ∧ noDict p = true ∧ cost p ≤ c ∧ p.depth ≤ k
def ShL (ds : List D) (c k : Nat) : Prop := ∃ ps, toPyL ds = some ps ∧ PyData.showableAll ps = true ∧ noDictL ps = true ∧ costL ps ≤ c ∧ PyData.depthAll ps ≤ k
theorem Sh.int {i : Int} (hi : i.natAbs < 2 ^ 200) : Sh (.int i) 2000 1 := by
  refine ⟨.int i, by simp [toPy0], ?_, by simp [noDict], by simp [cost], by simp [PyData.depth]⟩
  have : i.natAbs.log2 < 1920 := by
    by_cases z : i.natAbs = 0
    · rw [z]; decide
    · have := (Nat.log2_lt z).mpr hi
      omega
  simp [PyData.showable, this]
theorem Sh.bl {b : Bool} : Sh (.bl b) 2000 1 := ⟨.bool b, by simp [toPy0], by simp [PyData.showable], by simp [noDict], by simp [cost], by simp [PyData.depth]⟩
theorem Sh.non : Sh .non 2000 1 := ⟨.none, by simp [toPy0], by simp [PyData.showable], by simp [noDict], by simp [cost], by simp [PyData.depth]⟩
theorem ShL.nil : ShL [] 0 0 := ⟨[], by simp [toPyL], by simp [PyData.showableAll], by simp [noDictL], by simp [costL], by simp [PyData.depthAll]⟩
theorem ShL.cons {k' : Nat} (a : Sh d c k) (r : ShL ds c' k') : ShL (d :: ds) (c + 2 + c') (max k k') := by
  obtain ⟨p, e, h1, h2, h3, h4⟩ := a
  obtain ⟨ps, e', g1, g2, g3, g4⟩ := r
  refine ⟨p :: ps, by simp [toPyL, e, e'], by simp [PyData.showableAll, h1, g1], by simp [noDictL, h2, g2], by simp [costL]; omega, by simp [PyData.depthAll]; omega⟩
theorem ShL.le {k' : Nat} (r : ShL ds c k) (hc : c ≤ c') (hk : k ≤ k') : ShL ds c' k' := by
  obtain ⟨ps, e', g1, g2, g3, g4⟩ := r
  exact ⟨ps, e', g1, g2, Nat.le_trans g3 hc, Nat.le_trans g4 hk⟩
theorem Sh.le {k' : Nat} (r : Sh d c k) (hc : c ≤ c') (hk : k ≤ k') : Sh d c' k' := by
  obtain ⟨ps, e', g1, g2, g3, g4⟩ := r
  exact ⟨ps, e', g1, g2, Nat.le_trans g3 hc, Nat.le_trans g4 hk⟩
theorem Sh.tup (r : ShL ds c k) : Sh (.tup ds) (c + 4) (k + 1) := by
  obtain ⟨ps, e', g1, g2, g3, g4⟩ := r
  exact ⟨.tuple ps, by simp [toPy0, e'], by simp [PyData.showable, g1], by simp [noDict, g2], by simp [cost, g3], by simp [PyData.depth, g4]⟩
theorem Sh.lst (r : ShL ds c k) : Sh (.lst ds) (c + 4) (k + 1) := by
  obtain ⟨ps, e', g1, g2, g3, g4⟩ := r
  exact ⟨.list ps, by simp [toPy0, e'], by simp [PyData.showable, g1], by simp [noDict, g2], by simp [cost, g3], by simp [PyData.depth, g4]⟩
theorem ShL.all {b kk : Nat} : ∀ {ds : List D}, (∀ d ∈ ds, Sh d b kk) → ShL ds (ds.length * (b + 2)) kk
  | [], _ => ShL.nil.le (Nat.zero_le _) (Nat.zero_le _)
  | d :: ds, a => ((a d (List.mem_cons_self ..)).le (Nat.le_refl _) (Nat.le_refl _) |>.elim fun p hp => ShL.cons ⟨p, hp⟩ (ShL.all (ds := ds) fun x hx => a x (List.mem_cons_of_mem _ hx))).le (by rw [List.length_cons, Nat.succ_mul]; omega) (by omega)
@[simp] theorem o_isi1 {i : Int} : isiD [.int i, .ty "int"] h = .ok (.bl true) h := rfl
@[simp] theorem o_isi0 {i : Int} : isiD [.int i, .ty "bool"] h = .ok (.bl false) h := rfl
@[simp] theorem o_eqIN {i : Int} : eqD (.int i) .non h = .ok (.bl false) h := rfl
@[simp] theorem o_eqNI {i : Int} : eqD .non (.int i) h = .ok (.bl false) h := rfl
@[simp] theorem o_eqNN : eqD .non .non h = .ok (.bl true) h := rfl
/-! like data are equal -/
def Lk (d : D) (k : Nat) : Prop := ∃ p, toPy0 d = some p ∧ p.canLay0 = true ∧ p.depth ≤ k
def LkL (ds : List D) (k : Nat) : Prop := ∃ ps, toPyL ds = some ps ∧ PyData.canLayAll0 ps = true ∧ PyData.depthAll ps ≤ k
theorem Lk.int {i : Int} : Lk (.int i) 1 := ⟨.int i, by simp [toPy0], by simp [PyData.canLay0], by simp [PyData.depth]⟩
theorem Lk.bl {b : Bool} : Lk (.bl b) 1 := ⟨.bool b, by simp [toPy0], by simp [PyData.canLay0], by simp [PyData.depth]⟩
theorem Lk.non : Lk .non 1 := ⟨.none, by simp [toPy0], by simp [PyData.canLay0], by simp [PyData.depth]⟩
theorem LkL.nil : LkL [] 0 := ⟨[], by simp [toPyL], by simp [PyData.canLayAll0], by simp [PyData.depthAll]⟩
theorem LkL.cons {k' : Nat} (a : Lk d k) (r : LkL ds k') : LkL (d :: ds) (max k k') := by
  obtain ⟨p, e, h1, h2⟩ := a
  obtain ⟨ps, e', g1, g2⟩ := r
  exact ⟨p :: ps, by simp [toPyL, e, e'], by simp [PyData.canLayAll0, h1, g1], by simp [PyData.depthAll]; omega⟩
theorem LkL.all {kk : Nat} : ∀ {ds : List D}, (∀ d ∈ ds, Lk d kk) → LkL ds kk
  | [], _ => ⟨[], by simp [toPyL], by simp [PyData.canLayAll0], by simp [PyData.depthAll]⟩
  | d :: ds, a => by
    have := (a d (List.mem_cons_self ..)).elim fun p hp => LkL.cons ⟨p, hp⟩ (LkL.all (ds := ds) fun x hx => a x (List.mem_cons_of_mem _ hx))
    rwa [Nat.max_self] at this
theorem Lk.lst (r : LkL ds k) : Lk (.lst ds) (k + 1) := by
  obtain ⟨ps, e', g1, g2⟩ := r
  exact ⟨.list ps, by simp [toPy0, e'], by simp [PyData.canLay0, g1], by simp [PyData.depth, g2]⟩
theorem Lk.tup (r : LkL ds k) : Lk (.tup ds) (k + 1) := by
  obtain ⟨ps, e', g1, g2⟩ := r
  exact ⟨.tuple ps, by simp [toPy0, e'], by simp [PyData.canLay0, g1], by simp [PyData.depth, g2]⟩
/-! lists of one's own -/
theorem append_ok {n : Nat} (e : h[n]? = some (.lst ds)) (hl : ds.length < 1000) : appendD (.loc n) [d] h = .ok .non (h.set n (.lst (ds ++ [d]))) := by
  have : ds.length < sizeLine := Nat.lt_of_lt_of_le hl (by decide)
  simp [appendD, e, this]
theorem x_bl {n : Nat} {b : Bool} : ∃ h', exitD n (.bl b) h = .ok (.bl b) h' := by
  unfold exitD
  split
  · exact ⟨_, by rw [if_pos (by simp)]⟩
  · exact ⟨_, rfl⟩
theorem Sp3.app {n : Nat} {h' : AH} (s : Sp3 h n) : Sp3 (h ++ h') n := by
  obtain ⟨a, b, c, e, r⟩ := s
  exact ⟨a, b, c, by rw [List.getElem?_append_left (lt_of_get e)]; exact e, r⟩
theorem Sp3.set {n m : Nat} {x : AO} (s : Sp3 h n) (hn : n ≠ m) : Sp3 (h.set m x) n := by
  obtain ⟨a, b, c, e, r⟩ := s
  exact ⟨a, b, c, by rw [List.getElem?_set_ne (Ne.symm hn)]; exact e, r⟩
def kMeth0 (ok : D → AH → Bool) (f : D → List D → AH → R D) (ma : M (List D)) (env : En) (o : D) (h : AH) : R D := if ok o h = true then (ma env h).bind (f o) else .bad
@[simp] theorem e_Meth {ok : D → AH → Bool} {f : D → List D → AH → R D} {mo : M D} {ma : M (List D)} {env : En} : mMethT ok f mo ma env h = (mo env h).bind (kMeth0 ok f ma env) := rfl.trans rfl
theorem Shp.symm {n m : Nat} {o : Option Nat} (a : Shp n m o) : Shp m n o := by
  rcases a with ⟨h1 | h1, e⟩ | ⟨h1, h2, x, y, px, py, e⟩
  · exact .inl ⟨.inr h1, e⟩
  · exact .inl ⟨.inl h1, e⟩
  · refine .inr ⟨h2, h1, y, x, py, px, ?_⟩
    rw [e]; unfold shO
    by_cases z : x = y
    · rw [if_pos z, if_pos z.symm, z]
    · rw [if_neg z, if_neg (fun y => z y.symm)]
end
end Ab

/-! What the newer pieces compute, as rewriting rules. -/
namespace Ab
open PySem PySem.Spec L2
section
variable {α β : Type} {a : α} {h h' : AH} {env env' : En} {x : Str} {fs : List (Str × D)} {d y : D} {ds es : List D} {i j : Int} {n m k : Nat} {b c : Bool}
/-! pieces -/
def kRevT (d : D) (h : AH) : R D := match d with
  | .tup ds => .ok (.tup ds.reverse) h
  | _ => .bad
@[simp] theorem k_RevT : kRevT (.tup ds) h = .ok (.tup ds.reverse) h := rfl.trans rfl
@[simp] theorem e_RevT {p : M D} : mRevT p env h = (p env h).bind kRevT := rfl.trans rfl
def kRevL (d : D) (h : AH) : R (List D) := match seqD d h with
  | some ds => .ok ds.reverse h
  | none => .bad
@[simp] theorem k_RevL : kRevL (.lst ds) h = .ok ds.reverse h := rfl.trans rfl
@[simp] theorem e_RevL {p : M D} : mRevL p env h = (p env h).bind kRevL := rfl.trans rfl
def kRg1 (d : D) (h : AH) : R (Int × Int) := match d with
  | .int n => .ok (0, n) h
  | _ => .bad
@[simp] theorem k_Rg1 : kRg1 (.int i) h = .ok (0, i) h := rfl.trans rfl
@[simp] theorem e_Rg1 {p : M D} : mRg1 p env h = (p env h).bind kRg1 := rfl.trans rfl
def kRg2 (d y : D) (h : AH) : R (Int × Int) := match d, y with
  | .int i, .int j => .ok (i, j) h
  | _, _ => .bad
@[simp] theorem k_Rg2 : kRg2 (.int i) (.int j) h = .ok (i, j) h := rfl.trans rfl
@[simp] theorem e_Rg2 {p q : M D} : mRg2 p q env h = (p env h).bind (kQ q env kRg2) := rfl.trans rfl
def kLstRg (ab : Int × Int) (h : AH) : R (List D) := if InW ab.1 ∧ InW ab.2 ∧ (ab.2 - ab.1).toNat ≤ 2 ^ 24 then .ok (rngD ab.1 ab.2) h else .bad
def kTupRg (ab : Int × Int) (h : AH) : R D := if InW ab.1 ∧ InW ab.2 ∧ (ab.2 - ab.1).toNat ≤ 2 ^ 24 then .ok (.tup (rngD ab.1 ab.2)) h else .bad
@[simp] theorem e_LstRg {p : M (Int × Int)} : mLstRg p env h = (p env h).bind kLstRg := rfl.trans rfl
@[simp] theorem e_TupRg {p : M (Int × Int)} : mTupRg p env h = (p env h).bind kTupRg := rfl.trans rfl
def kEnum (ds : List D) (h : AH) : R AI := match enumA ds with
  | some l => .ok (.items l) h
  | none => .bad
@[simp] theorem k_EnumT : kEnum [.tup ds] h = .ok (.items (enumD ds)) h := rfl.trans rfl
@[simp] theorem k_EnumL : kEnum [.lst ds] h = .ok (.items (enumD ds)) h := rfl.trans rfl
@[simp] theorem e_Enum {p : M (List D)} : miEnum p env h = (p env h).bind kEnum := rfl.trans rfl
def kU (d : D) (h : AH) : R AI := match d with
  | .str z => .ok (.items (signsD z)) h
  | .lst ds => .ok (.items ds) h
  | .scr ds => .ok (.items ds) h
  | .tup ds => .ok (.items ds) h
  | .dic ks ds => if ks.length = ds.length then .ok (.items (ks.map keyTD)) h else .bad
  | .loc n => (match h[n]? with
    | some (.lst _) => .ok (.at_ n) h
    | _ => .bad)
  | _ => .bad
@[simp] theorem k_UL : kU (.lst ds) h = .ok (.items ds) h := rfl.trans rfl
@[simp] theorem k_US : kU (.scr ds) h = .ok (.items ds) h := rfl.trans rfl
@[simp] theorem k_UT : kU (.tup ds) h = .ok (.items ds) h := rfl.trans rfl
@[simp] theorem i_U {p : M D} : miU p env h = (p env h).bind kU := rfl.trans rfl
def kDisp (y z : D) (h : AH) : R D := match keyT y with
  | some ks => .ok (.loc h.length) (h ++ [.dct [(ks, z)]])
  | none => .bad
@[simp] theorem e_Disp {p q : M D} : mDisp1 p q env h = (p env h).bind (kQ q env kDisp) := rfl.trans rfl
@[simp] theorem e_DNew : mDNew env h = .ok (.loc h.length) (h ++ [.dct []]) := rfl.trans rfl
def kStar (q : M (List D)) (env : En) (d : D) (h : AH) : R (List D) := match spreadD d h with
  | some ds => (q env h).bind fun r h2 => .ok (ds ++ r) h2
  | none => .bad
@[simp] theorem k_StarT {q : M (List D)} : kStar q env (.tup ds) h = (q env h).bind fun r h2 => .ok (ds ++ r) h2 := rfl.trans rfl
@[simp] theorem e_Star {p : M D} {q : M (List D)} : mStar p q env h = (p env h).bind (kStar q env) := rfl.trans rfl
@[simp] theorem e_NoPart : mNoPart env h = .ok none h := rfl.trans rfl
@[simp] theorem k_Part : kPart (.int i) h = .ok (some i) h := rfl.trans rfl
@[simp] theorem e_Part {p : M D} : mPart p env h = (p env h).bind kPart := rfl.trans rfl
def kSlU2 (d : D) (l u : Option Int) (h : AH) : R D := match d with
  | .tup ds => .ok (.tup (cutL ds l u)) h
  | d => (match seqD d h with
    | some ds => .ok (.lst (cutL ds l u)) h
    | none => .bad)
@[simp] theorem k_SlUT {l u : Option Int} : kSlU2 (.tup ds) l u h = .ok (.tup (cutL ds l u)) h := rfl.trans rfl
@[simp] theorem k_SlUL {l u : Option Int} : kSlU2 (.lst ds) l u h = .ok (.lst (cutL ds l u)) h := rfl.trans rfl
def kSl1 {γ : Type} (f : D → Option Int → Option Int → AH → R γ) (hi : M (Option Int)) (env : En) (d : D) (l : Option Int) (h : AH) : R γ := (hi env h).bind (f d l)
@[simp] theorem k_Sl1 {γ : Type} {f : D → Option Int → Option Int → AH → R γ} {hi : M (Option Int)} {l : Option Int} : kSl1 f hi env d l h = (hi env h).bind (f d l) := rfl.trans rfl
@[simp] theorem e_SlU {p : M D} {lo hi : M (Option Int)} : mSlU p lo hi env h = (p env h).bind (kQ lo env (kSl1 kSlU2 hi env)) := rfl.trans rfl
def kSlL2 (d : D) (l u : Option Int) (h : AH) : R (List D) := match seqD d h with
  | some ds => .ok (cutL ds l u) h
  | none => .bad
@[simp] theorem k_SlLL {l u : Option Int} : kSlL2 (.lst ds) l u h = .ok (cutL ds l u) h := rfl.trans rfl
@[simp] theorem k_SlLS {l u : Option Int} : kSlL2 (.scr ds) l u h = .ok (cutL ds l u) h := rfl.trans rfl
@[simp] theorem e_SlL {p : M D} {lo hi : M (Option Int)} : mSlL p lo hi env h = (p env h).bind (kQ lo env (kSl1 kSlL2 hi env)) := rfl.trans rfl
def kSplit2 (x : Str) (b : D) (h : AH) : R (List D) := match b with
  | .str y => if (y.length == 0) = false ∧ x.length + 2 ≤ sizeLine then .ok ((Txt.split x y).map D.str) h else .bad
  | _ => .bad
def kSplit (q : M D) (env : En) (d : D) (h : AH) : R (List D) := match d with
  | .str x => (q env h).bind (kSplit2 x)
  | _ => .bad
@[simp] theorem k_Split {q : M D} : kSplit q env (.str x) h = (q env h).bind (kSplit2 x) := rfl.trans rfl
@[simp] theorem e_Split {p q : M D} : mSplit p q env h = (p env h).bind (kSplit q env) := rfl.trans rfl
def kJoin2 (x : Str) (b : D) (h : AH) : R D := joinD (.str x) b h
@[simp] theorem k_Join2 : kJoin2 x d h = joinD (.str x) d h := rfl.trans rfl
def kJoin (q : M D) (env : En) (d : D) (h : AH) : R D := match d with
  | .str x => (q env h).bind (kJoin2 x)
  | _ => .bad
@[simp] theorem k_Join {q : M D} : kJoin q env (.str x) h = (q env h).bind (kJoin2 x) := rfl.trans rfl
@[simp] theorem e_Join {p q : M D} : mJoin p q env h = (p env h).bind (kJoin q env) := rfl.trans rfl
def kMeth00 (ok : D → AH → Bool) (f : D → List D → AH → R D) (o : D) (h : AH) : R D := if ok o h = true then f o [] h else .bad
@[simp] theorem e_Meth0 {ok : D → AH → Bool} {f : D → List D → AH → R D} {mo : M D} : mMethT0 ok f mo env h = (mo env h).bind (kMeth00 ok f) := rfl.trans rfl
def kSeqG (n : Nat) (m : List D → En → AH → R En) (d : D) (env : En) (h : AH) : R En := match spreadD d h with
  | some ds => if ds.length = n then m ds env h else .bad
  | none => .bad
theorem g_SeqT {q : List D → En → AH → R En} (e : ds.length = n) : mgSeq n q (.tup ds) env h = q ds env h := by
  show (if ds.length = n then q ds env h else .bad) = _
  rw [if_pos e]
theorem g_SeqL {q : List D → En → AH → R En} (e : ds.length = n) : mgSeq n q (.lst ds) env h = q ds env h := by
  show (if ds.length = n then q ds env h else .bad) = _
  rw [if_pos e]
@[simp] theorem g_Seq2T {q : List D → En → AH → R En} {d1 d2 : D} : mgSeq 2 q (.tup [d1, d2]) env h = q [d1, d2] env h := g_SeqT rfl
@[simp] theorem g_Seq2L {q : List D → En → AH → R En} {d1 d2 : D} : mgSeq 2 q (.lst [d1, d2]) env h = q [d1, d2] env h := g_SeqL rfl
@[simp] theorem g_Seq3L {q : List D → En → AH → R En} {d1 d2 d3 : D} : mgSeq 3 q (.lst [d1, d2, d3]) env h = q [d1, d2, d3] env h := g_SeqL rfl
@[simp] theorem g_Seq3T {q : List D → En → AH → R En} {d1 d2 d3 : D} : mgSeq 3 q (.tup [d1, d2, d3]) env h = q [d1, d2, d3] env h := g_SeqT rfl
def kSubU (env : En) (d o i : D) (h2 : AH) : R En := match o with
  | .loc n => (match h2[n]? with
    | some (.lst ds) => (match i with
      | .int k => (match ixN ds.length k with
        | some j => .ok env (h2.set n (.lst (ds.set j d)))
        | none => .bad)
      | _ => .bad)
    | some (.dct kvs) => (match keyT i with
      | some k => if kvs.length < sizeLine then .ok env (h2.set n (.dct (fPut kvs k d))) else .bad
      | none => .bad)
    | _ => .bad)
  | _ => .bad
@[simp] theorem e_SubU {p q : M D} : mgSubU p q d env h = (p env h).bind (kQ q env (kSubU env d)) := rfl.trans rfl
theorem k_SubUL {i : Nat} (e : h[n]? = some (.lst ds)) (hi : i < ds.length) : kSubU env d (.loc n) (.int i) h = .ok env (h.set n (.lst (ds.set i d))) := by
  have : ixN ds.length (i : Int) = some i := by unfold ixN; rw [if_pos (by omega), if_pos (by omega)]; simp
  simp [kSubU, e, this]
def kFld (c f : Str) (env : En) (d o : D) (h1 : AH) : R En := match o with
  | .loc n => (match h1[n]? with
    | some (.ins c' fs) => if c' = c ∧ fs.length < 1000 then .ok env (h1.set n (.ins c' (putD f d fs))) else .bad
    | _ => .bad)
  | _ => .bad
@[simp] theorem e_Fld {c f : Str} {p : M D} : mgFld c f p d env h = (p env h).bind (kFld c f env d) := rfl.trans rfl
def kMakeS (c : Str) (F : Fn) (d : D) (h1 : AH) : R D := match spreadD d h1 with
  | some ds => if ds.length ≤ sizeLine then makeP c F ds h1 else .bad
  | none => .bad
@[simp] theorem e_MakeS {c : Str} {F : Fn} {p : M D} : mMakeS c F p env h = (p env h).bind (kMakeS c F) := rfl.trans rfl
def kCm2 (c : Str) (n : Nat) (F : Fn) (ds : List D) (h : AH) : R D := callP (n + 1) F (.glo c :: ds) h
@[simp] theorem k_Cm2 {c : Str} {F : Fn} : kCm2 c n F ds h = callP (n + 1) F (.glo c :: ds) h := rfl.trans rfl
@[simp] theorem e_Cm2 {c : Str} {F : Fn} {p : M (List D)} : mCm2 c n F p env h = (p env h).bind (kCm2 c n F) := rfl.trans rfl
def kDicF (kvs : List (List Key × D)) (h : AH) : R D := .ok (.dic (kvs.map (·.1)) (kvs.map (·.2))) h
@[simp] theorem k_DicF {kvs : List (List Key × D)} : kDicF kvs h = .ok (.dic (kvs.map (·.1)) (kvs.map (·.2))) h := rfl.trans rfl
@[simp] theorem e_DicF {p : M (List (List Key × D))} : mDicF p env h = (p env h).bind kDicF := rfl.trans rfl
def kSortS (ks : List (List Int)) (h : AH) : R (List D) := if okT ks = true then .ok ((sortT ks).map tupI) h else .bad
@[simp] theorem e_SortS {p : M (List (List Int))} : mSortS p env h = (p env h).bind kSortS := rfl.trans rfl
/-! operators -/
@[simp] theorem u_add : addUD (.int i) (.int j) h = .ok (.int (i + j)) h := rfl.trans rfl
@[simp] theorem u_addL : addUD (.lst ds) (.lst es) h = if ds.length + es.length ≤ sizeLine then .ok (.lst (ds ++ es)) h else .bad := rfl.trans rfl
@[simp] theorem u_int : intUD [.int i] h = .ok (.int i) h := rfl.trans rfl
@[simp] theorem u_lenL : lenUD [.lst ds] h = .ok (.int ds.length) h := rfl.trans rfl
@[simp] theorem u_lenS : lenUD [.scr ds] h = .ok (.int ds.length) h := rfl.trans rfl
@[simp] theorem u_lenT : lenUD [.tup ds] h = .ok (.int ds.length) h := rfl.trans rfl
theorem u_ix (e : dctD d h = none) : ixUD d y h = ixD d y h := by unfold ixUD; rw [e]
theorem u_ixL (e : atI ds i = some d) : ixUD (.lst ds) (.int i) h = .ok d h := by simp [ixUD, dctD, ixD, seqD, e]
theorem u_ixS (e : atI ds i = some d) : ixUD (.scr ds) (.int i) h = .ok d h := by simp [ixUD, dctD, ixD, seqD, e]
@[simp] theorem atI_0 : atI (d :: ds) 0 = some d := by simp [atI, ixN]
theorem atI_nat {γ : Type} {l : List γ} {i : Nat} {x : γ} (e : l[i]? = some x) : atI l (i : Int) = some x := by
  have := (List.getElem?_eq_some_iff.mp e).1
  unfold atI ixN
  rw [if_pos (by omega), if_pos (by omega)]
  simpa using e
@[simp] theorem tupl_L : tupleD [.lst ds] h = .ok (.tup ds) h := rfl.trans rfl
/-! comprehensions that change nothing -/
/-! tuples of whole numbers -/
@[simp] theorem below_ints : ∀ {ns : List Int}, belowL n (ns.map D.int) = true
  | [] => by simp [belowL]
  | a :: ns => by
    have : belowL n (ns.map D.int) = true := below_ints
    simp only [List.map_cons, belowL, this, Bool.and_true, below]
@[simp] theorem below_tupI {ns : List Int} : below n (tupI ns) = true := by simp [below, tupI]
@[simp] theorem below_tups : ∀ {ks : List (List Int)}, belowL n (ks.map tupI) = true
  | [] => by simp [belowL]
  | a :: ns => by
    have : belowL n (ns.map tupI) = true := below_tups
    simp only [List.map_cons, belowL, this, Bool.and_true, below_tupI]
theorem keyL_ints : ∀ ns : List Int, keyL (ns.map D.int) = some (ns.map Sum.inl)
  | [] => rfl
  | a :: ns => by
    show (match keyD (.int a), keyL (ns.map D.int) with
      | some k, some ks => some (k :: ks)
      | _, _ => none) = _
    rw [keyL_ints ns]
    rfl
abbrev kI (ns : List Int) : List Key := ns.map Sum.inl
@[simp] theorem keyT_tupI {ns : List Int} : keyT (tupI ns) = some (kI ns) := keyL_ints ns
end
end Ab

namespace Tb
open PySem PySem.Spec L2 Ab
def m_is_integer : MS :=
  (mRet (mAnd (mCB isiD (mCons (mVar 0) (mCons (mC (.ty "int")) mNil))) (mNot (mCB isiD (mCons (mVar 0) (mCons (mC (.ty "bool")) mNil))))))
def F_is_integer : Fn := mFnT 1 m_is_integer
def m_number_in : MS :=
  (mSeq (mIfS (mOrT (mBl (mBin eqD (mVar 0) (mC (.str "")))) (mNotT (mTru (mCB (allD false) (mCons (mFrz (mLc (miU (mVar 0)) (mgName 1) (fun _ h => .ok true h) (mBin (inUD false) (mVar 1) (mC (.str "0123456789"))) [1])) mNil))))) (mRet (mC .non)) mNext)
  (mRet (mIf (mOrT (mBl (mBin neD (mBin ixUD (mVar 0) (mC (.int 0))) (mC (.str "0")))) (mBl (mBin eqD (mVar 0) (mC (.str "0"))))) (mCB intUD (mCons (mVar 0) mNil)) (mC .non))))
def F_number_in : Fn := mFnT 2 m_number_in
def m_power_of : MS :=
  (mSeq (mAsg (mC (.int 1)) (mgName 2))
  (mSeq (mFor (miRng1 (mCons (mVar 1) mNil)) (mgName 3) (mAsg (mBin mulUD (mVar 2) (mVar 0)) (mgName 2)))
  (mRet (mVar 2))))
def F_power_of : Fn := mFnT 4 m_power_of
def m_behind_turn : MS :=
  (mSeq (mAsg (mOwn (mCBF listUD (mCons (mVar 0) mNil))) (mgName 2))
  (mSeq (mFor (miEnum (mCons (mVar 1) mNil)) (mgSeq 2 (mgCons (mgName 3) (mgCons (mgName 4) mgNil))) (mAsg (mBin ixUD (mVar 0) (mVar 3)) (mgSubU (mVar 2) (mVar 4))))
  (mRet (mCB tupleD (mCons (mVar 2) mNil)))))
def F_behind_turn : Fn := mFnT 5 m_behind_turn
def b_all_turns_1 : MS :=
  (mSeq (mAsg (mCB tupleD (mCons (mFrz (mLc (miU (mVar 4)) (mgName 7) (fun _ h => .ok true h) (mBin ixUD (mVar 5) (mVar 7)) [7])) mNil)) (mgName 6))
  (mIfS (mBl (mBin (inUD true) (mVar 6) (mVar 2))) (mSeq (mAsg (mC (.bl true)) (mgSubU (mVar 2) (mVar 6)))
  (mDrop (mMethT isLoc appendD (mVar 3) (mCons (mVar 6) mNil)))) mNext))
def m_all_turns : MS :=
  (mSeq (mPar 2 3 (mCons (mDisp1 (mTupRg (mRg1 (mVar 0))) (mC (.bl true))) (mCons (mOwn (mLst (mCons (mTupRg (mRg1 (mVar 0))) mNil))) mNil)))
  (mSeq (mWhile (mTru (mVar 3)) (mSeq (mAsg (mMethT0 isLoc popD (mVar 3)) (mgName 4))
  (mFor (miU (mVar 1)) (mgName 5) b_all_turns_1)) 100000)
  (mRet (mCB tupleD (mCons (mFrz (mCBF sortedUD (mCons (mVar 2) mNil))) mNil)))))
def F_all_turns : Fn := mFnT 8 m_all_turns
def m_shifted : MS :=
  (mRet (mCB tupleD (mCons (mFrz (mLc (miU (mVar 0)) (mgName 3) (fun _ h => .ok true h) (mBin modD (mBin addUD (mVar 3) (mVar 1)) (mVar 2)) [3])) mNil)))
def F_shifted : Fn := mFnT 4 m_shifted
def m_all_standings : MS :=
  (mSeq (mAsg (mFrz (mLst (mCons (mTup mNil) mNil))) (mgName 2))
  (mSeq (mFor (miRng1 (mCons (mVar 0) mNil)) (mgName 3) (mAsg (mFrz (mLc2 (miU (mVar 2)) (mgName 4) (fun _ h => .ok true h) (miRng1 (mCons (mVar 1) mNil)) (mgName 5) (fun _ h => .ok true h) (mTup (mStar (mVar 4) (mCons (mVar 5) mNil))) [4, 5] [5])) (mgName 2)))
  (mRet (mVar 2))))
def F_all_standings : Fn := mFnT 6 m_all_standings
def m_check_table : MS :=
  (mIfS (mNotT (mTru (mCB (isiCD "Table") (mCons (mVar 0) (mCons (mC (.glo "Table")) mNil))))) (fun _ _ => .bad) mNext)
def F_check_table : Fn := mFnT 1 m_check_table
def m__law_spring : MS :=
  (mSeq (mAsg (mIf (mBl (mBin (cmpD fun i j => decide (i < j)) (mVar 1) (mCB lenUD (mCons (mVar 0) mNil)))) (mBin ixUD (mVar 0) (mVar 1)) (mBin addUD (mBin mulUD (mC (.int 7)) (mVar 1)) (mC (.int 2)))) (mgName 2))
  (mSeq (mAsg (mBin addUD (mC (.int 90001)) (mBin mulUD (mC (.int 7919)) (mVar 1))) (mgName 3))
  (mSeq (mFor (miU (mFrz (mBinF catD (mFrz (mSlL (mVar 0) mNoPart (mPart (mC (.int 8))))) (mFrz (mLst (mCons (mVar 2) mNil)))))) (mgName 4) (mAsg (mBin modD (mCB intUD (mCons (mBin addUD (mBin addUD (mBin mulUD (mVar 3) (mC (.int 48271))) (mCB intUD (mCons (mVar 4) mNil))) (mBin mulUD (mC (.int 11)) (mVar 1))) mNil)) (mC (.int 2147483647))) (mgName 3)))
  (mRet (mOwn (mLst (mCons (mIf (mOrT (mBl (mBin (cmpD fun i j => decide (i < j)) (mVar 2) (mC (.int 0)))) (mBl (mBin (cmpD fun i j => decide (j ≤ i)) (mVar 2) (mBin powD (mC (.int 10)) (mC (.int 18)))))) (mCB absD (mCons (mVar 2) mNil)) (mC (.int 0))) (mCons (mVar 3) (mCons (mC (.int 0)) mNil)))))))))
def F__law_spring : Fn := mFnK 5 m__law_spring
def m__law_draw : MS :=
  (mSeq (mAsg (mBin addUD (mBin ixUD (mVar 0) (mC (.int 2))) (mC (.int 1))) (mgSubU (mVar 0) (mC (.int 2))))
  (mSeq (mAsg (mBin modD (mCB intUD (mCons (mBin addUD (mBin addUD (mBin mulUD (mBin ixUD (mVar 0) (mC (.int 1))) (mC (.int 69621))) (mBin mulUD (mC (.int 40503)) (mBin ixUD (mVar 0) (mC (.int 2))))) (mC (.int 1))) mNil)) (mC (.int 2147483647))) (mgSubU (mVar 0) (mC (.int 1))))
  (mSeq (mIfS (mBl (mBin (cmpD fun i j => decide (j < i)) (mBin ixUD (mVar 0) (mC (.int 0))) (mC (.int 0)))) (mSeq (mAsg (mCB divmodD (mCons (mBin ixUD (mVar 0) (mC (.int 0))) (mCons (mVar 1) mNil))) (mgSeq 2 (mgCons (mgSubU (mVar 0) (mC (.int 0))) (mgCons (mgName 2) mgNil))))
  (mRet (mVar 2))) mNext)
  (mSeq (mAsg (mBin addUD (mBin ixUD (mVar 0) (mC (.int 1))) (mC (.int 12345))) (mgName 3))
  (mSeq (mAsg (mBin modD (mCB intUD (mCons (mBin addUD (mBin mulUD (mVar 3) (mBin ixUD (mVar 0) (mC (.int 1)))) (mBin ixUD (mVar 0) (mC (.int 2)))) mNil)) (mC (.int 2147483629))) (mgName 4))
  (mRet (mBin modD (mCB intUD (mCons (mBin divD (mVar 4) (mC (.int 256))) mNil)) (mVar 1))))))))
def F__law_draw : Fn := mFnT 5 m__law_draw
def m__law_head : MS :=
  (mSeq (mAsg (mFrz (mSplit (mBin ixUD (mVar 0) (mC (.int 0))) (mC (.str " ")))) (mgName 1))
  (mRet (mFrz (mLst (mCons (mCB intUD (mCons (mBin ixUD (mVar 1) (mC (.int 1))) mNil)) (mCons (mCB intUD (mCons (mBin ixUD (mVar 1) (mC (.int 3))) mNil)) mNil))))))
def F__law_head : Fn := mFnT 2 m__law_head
def m__law_turn : MS :=
  (mSeq (mAsg (mFrz (mSplit (mVar 0) (mC (.str " ")))) (mgName 2))
  (mSeq (mIfS (mBl (mBin eqD (mBin ixUD (mVar 2) (mC (.int 1))) (mC (.str "ring")))) (mRet (mCB tupleD (mCons (mFrz (mBinF catD (mFrz (mLstRg (mRg2 (mC (.int 1)) (mVar 1)))) (mFrz (mLst (mCons (mC (.int 0)) mNil))))) mNil))) mNext)
  (mSeq (mIfS (mBl (mBin eqD (mBin ixUD (mVar 2) (mC (.int 1))) (mC (.str "over")))) (mRet (mCB tupleD (mCons (mFrz (mLc (miRng1 (mCons (mVar 1) mNil)) (mgName 3) (fun _ h => .ok true h) (mBin subD (mBin subD (mVar 1) (mC (.int 1))) (mVar 3)) [3])) mNil))) mNext)
  (mRet (mCB tupleD (mCons (mFrz (mLc (miU (mFrz (mSlL (mVar 2) (mPart (mC (.int 1))) mNoPart))) (mgName 4) (fun _ h => .ok true h) (mCB intUD (mCons (mVar 4) mNil)) [4])) mNil))))))
def F__law_turn : Fn := mFnT 5 m__law_turn
def m_is_between : MS :=
  (mRet (mAnd (mCallP 1 F_is_integer (mCons (mVar 0) mNil)) (mChain (cmpD fun i j => decide (i ≤ j)) (cmpD fun i j => decide (i ≤ j)) (mVar 1) (mVar 0) (mVar 2))))
def F_is_between : Fn := mFnT 3 m_is_between
def m_turn_in : MS :=
  (mSeq (mAsg (mIf (mTru (mCB isiD (mCons (mVar 0) (mCons (mC (.ty "str")) mNil)))) (mFrz (mSplit (mVar 0) (mC (.str " ")))) (mFrz (mLst (mCons (mC (.str "")) mNil)))) (mgName 2))
  (mSeq (mIfS (mBl (mBin neD (mBin ixUD (mVar 2) (mC (.int 0))) (mC (.str "turn")))) (mRet (mC .non)) mNext)
  (mSeq (mIfS (mBl (mBin eqD (mVar 2) (mFrz (mLst (mCons (mC (.str "turn")) (mCons (mC (.str "ring")) mNil)))))) (mRet (mCB tupleD (mCons (mFrz (mLc (miRng1 (mCons (mVar 1) mNil)) (mgName 4) (fun _ h => .ok true h) (mBin modD (mBin addUD (mVar 4) (mC (.int 1))) (mVar 1)) [4])) mNil))) mNext)
  (mSeq (mIfS (mBl (mBin eqD (mVar 2) (mFrz (mLst (mCons (mC (.str "turn")) (mCons (mC (.str "over")) mNil)))))) (mRet (mRevT (mTupRg (mRg1 (mVar 1))))) mNext)
  (mSeq (mAsg (mFrz (mLc (miU (mFrz (mSlL (mVar 2) (mPart (mC (.int 1))) mNoPart))) (mgName 5) (fun _ h => .ok true h) (mCallP 1 F_number_in (mCons (mVar 5) mNil)) [5])) (mgName 3))
  (mSeq (mIfS (mOrT (mBl (mBin (inUD false) (mC .non) (mVar 3))) (mBl (mBin neD (mFrz (mCBF sortedUD (mCons (mVar 3) mNil))) (mFrz (mLstRg (mRg1 (mVar 1))))))) (mRet (mC .non)) mNext)
  (mRet (mCB tupleD (mCons (mVar 3) mNil)))))))))
def F_turn_in : Fn := mFnT 6 m_turn_in
def m_alike_to : MS :=
  (mRet (mFrz (mCBF listUD (mCons (mDicF (mCm (miU (mVar 2)) (mgName 3) (fun _ h => .ok true h) (ac2 (miRng1 (mCons (mVar 1) mNil)) (mgName 4) (fun _ h => .ok true h) (acD (mCallP 3 F_shifted (mCons (mCallP 2 F_behind_turn (mCons (mVar 0) (mCons (mVar 3) mNil))) (mCons (mVar 4) (mCons (mVar 1) mNil)))) (mC (.bl true))) [4]) [] [3, 4])) mNil))))
def F_alike_to : Fn := mFnT 5 m_alike_to
def m__law_of : MS :=
  (mRet (mBin ixUD (mVar 1) (mCall 2 F__law_draw (mCons (mVar 0) (mCons (mCB lenUD (mCons (mVar 1) mNil)) mNil)))))
def F__law_of : Fn := mFnT 2 m__law_of
def b__law_group_1 : MS :=
  (mSeq (mAsg (mCB tupleD (mCons (mFrz (mLc (miRng1 (mCons (mVar 1) mNil)) (mgName 11) (fun _ h => .ok true h) (mBin ixUD (mVar 8) (mBin ixUD (mVar 7) (mVar 11))) [11])) mNil)) (mgName 9))
  (mIfS (mBl (mBin (inUD true) (mVar 9) (mVar 3))) (mSeq (mDrop (mMethT isLoc appendD (mVar 3) (mCons (mVar 9) mNil)))
  (mDrop (mMethT isLoc appendD (mVar 6) (mCons (mVar 9) mNil)))) mNext))
def b__law_group_2 : MS :=
  (mSeq (mAsg (mOwn (mLst mNil)) (mgName 6))
  (mSeq (mFor (miU (mVar 4)) (mgName 7) (mFor (miU (mVar 2)) (mgName 8) b__law_group_1))
  (mSeq (mIfS (mBl (mBin eqD (mVar 6) (mFrz (mLst mNil)))) (mRet (mFrz (mCBF sortedUD (mCons (mVar 3) mNil)))) mNext)
  (mAsg (mVar 6) (mgName 4)))))
def m__law_group : MS :=
  (mSeq (mAsg (mBin ixUD (mCallP 1 F__law_head (mCons (mVar 0) mNil)) (mC (.int 0))) (mgName 1))
  (mSeq (mAsg (mFrz (mLc (miU (mFrz (mSlL (mVar 0) (mPart (mC (.int 1))) mNoPart))) (mgName 10) (fun _ h => .ok true h) (mCallP 2 F__law_turn (mCons (mVar 10) (mCons (mVar 1) mNil))) [10])) (mgName 2))
  (mSeq (mPar 3 4 (mCons (mOwn (mLst (mCons (mTupRg (mRg1 (mVar 1))) mNil))) (mCons (mFrz (mLst (mCons (mTupRg (mRg1 (mVar 1))) mNil))) mNil)))
  (mSeq (mFor (miRng1 (mCons (mC (.int 720)) mNil)) (mgName 5) b__law_group_2)
  (mRet (mFrz (mCBF sortedUD (mCons (mVar 3) mNil))))))))
def F__law_group : Fn := mFnT 12 m__law_group
def m_head_in : MS :=
  (mSeq (mAsg (mIf (mTru (mCB isiD (mCons (mVar 0) (mCons (mC (.ty "str")) mNil)))) (mFrz (mSplit (mVar 0) (mC (.str " ")))) (mFrz (mLst mNil))) (mgName 1))
  (mSeq (mIfS (mOrT (mBl (mBin neD (mCB lenUD (mCons (mVar 1) mNil)) (mC (.int 4)))) (mOrT (mBl (mBin neD (mBin ixUD (mVar 1) (mC (.int 0))) (mC (.str "dials")))) (mBl (mBin neD (mBin ixUD (mVar 1) (mC (.int 2))) (mC (.str "marks")))))) (mRet (mC .non)) mNext)
  (mSeq (mPar 2 3 (mCons (mCallP 1 F_number_in (mCons (mBin ixUD (mVar 1) (mC (.int 1))) mNil)) (mCons (mCallP 1 F_number_in (mCons (mBin ixUD (mVar 1) (mC (.int 3))) mNil)) mNil)))
  (mSeq (mIfS (mOrT (mNotT (mTru (mCallP 3 F_is_between (mCons (mVar 2) (mCons (mC (.int 1)) (mCons (mC (.int 6)) mNil)))))) (mNotT (mTru (mCallP 3 F_is_between (mCons (mVar 3) (mCons (mC (.int 2)) (mCons (mC (.int 9)) mNil))))))) (mRet (mC .non)) mNext)
  (mRet (mIf (mBl (mBin (cmpD fun i j => decide (i ≤ j)) (mCallP 2 F_power_of (mCons (mVar 3) (mCons (mBin subD (mVar 2) (mC (.int 1))) mNil))) (mC (.int 32)))) (mTup (mCons (mVar 2) (mCons (mVar 3) mNil))) (mC .non)))))))
def F_head_in : Fn := mFnT 4 m_head_in
def m_sweep : MS :=
  (mSeq (mAsg mDNew (mgName 3))
  (mSeq (mFor (miU (mCallP 2 F_all_standings (mCons (mVar 0) (mCons (mVar 1) mNil)))) (mgName 4) (mIfS (mBl (mBin (inUD true) (mVar 4) (mVar 3))) (mFor (miU (mCallP 3 F_alike_to (mCons (mVar 4) (mCons (mVar 1) (mCons (mVar 2) mNil))))) (mgName 5) (mAsg (mVar 4) (mgSubU (mVar 3) (mVar 5)))) mNext))
  (mRet (mVar 3))))
def F_sweep : Fn := mFnT 6 m_sweep
def b__law_rows_1 : MS :=
  (mSeq (mPar 7 8 (mCons (mOwn (mLstRg (mRg1 (mVar 2)))) (mCons (mOwn (mLst mNil)) mNil)))
  (mSeq (mFor (miRng1 (mCons (mVar 2) mNil)) (mgName 9) (mDrop (mMethT isLoc appendD (mVar 8) (mCons (mMethT isLoc popAtD (mVar 7) (mCons (mCall 2 F__law_draw (mCons (mVar 0) (mCons (mCB lenUD (mCons (mVar 7) mNil)) mNil))) mNil)) mNil))))
  (mDrop (mMethT isLoc appendD (mVar 4) (mCons (mBin addUD (mC (.str "turn ")) (mJoin (mC (.str " ")) (mFrz (mLc (miU (mVar 8)) (mgName 10) (fun _ h => .ok true h) (mCB strD (mCons (mVar 10) mNil)) [10])))) mNil)))))
def m__law_rows : MS :=
  (mSeq (mAsg (mFrz (mLst (mCons (mTup (mCons (mC (.int 2)) (mCons (mC (.int 2)) mNil))) (mCons (mTup (mCons (mC (.int 2)) (mCons (mC (.int 3)) mNil))) (mCons (mTup (mCons (mC (.int 2)) (mCons (mC (.int 4)) mNil))) (mCons (mTup (mCons (mC (.int 2)) (mCons (mC (.int 6)) mNil))) (mCons (mTup (mCons (mC (.int 3)) (mCons (mC (.int 2)) mNil))) (mCons (mTup (mCons (mC (.int 3)) (mCons (mC (.int 2)) mNil))) (mCons (mTup (mCons (mC (.int 3)) (mCons (mC (.int 3)) mNil))) (mCons (mTup (mCons (mC (.int 3)) (mCons (mC (.int 4)) mNil))) (mCons (mTup (mCons (mC (.int 4)) (mCons (mC (.int 2)) mNil))) (mCons (mTup (mCons (mC (.int 4)) (mCons (mC (.int 2)) mNil))) (mCons (mTup (mCons (mC (.int 4)) (mCons (mC (.int 3)) mNil))) (mCons (mTup (mCons (mC (.int 5)) (mCons (mC (.int 2)) mNil))) (mCons (mTup (mCons (mC (.int 1)) (mCons (mC (.int 4)) mNil))) mNil))))))))))))))) (mgName 1))
  (mSeq (mAsg (mCall 2 F__law_of (mCons (mVar 0) (mCons (mVar 1) mNil))) (mgSeq 2 (mgCons (mgName 2) (mgCons (mgName 3) mgNil))))
  (mSeq (mAsg (mOwn (mLst (mCons (mBin addUD (mBin addUD (mBin addUD (mC (.str "dials ")) (mCB strD (mCons (mVar 2) mNil))) (mC (.str " marks "))) (mCB strD (mCons (mVar 3) mNil))) mNil))) (mgName 4))
  (mSeq (mAsg (mCall 2 F__law_draw (mCons (mVar 0) (mCons (mC (.int 8)) mNil))) (mgName 5))
  (mSeq (mIfS (mBl (mBin (inUD false) (mVar 5) (mFrz (mLst (mCons (mC (.int 0)) (mCons (mC (.int 1)) (mCons (mC (.int 2)) mNil))))))) (mDrop (mMethT isLoc appendD (mVar 4) (mCons (mC (.str "turn ring")) mNil))) mNext)
  (mSeq (mIfS (mBl (mBin (inUD false) (mVar 5) (mFrz (mLst (mCons (mC (.int 2)) (mCons (mC (.int 3)) mNil)))))) (mDrop (mMethT isLoc appendD (mVar 4) (mCons (mC (.str "turn over")) mNil))) mNext)
  (mSeq (mIfS (mBl (mBin (inUD false) (mVar 5) (mFrz (mLst (mCons (mC (.int 4)) (mCons (mC (.int 5)) mNil)))))) (mFor (miRng1 (mCons (mBin subD (mVar 5) (mC (.int 3))) mNil)) (mgName 6) b__law_rows_1) mNext)
  (mRet (mVar 4)))))))))
def F__law_rows : Fn := mFnT 11 m__law_rows
def m_wrong_rows : MS :=
  (mSeq (mIfS (mNotT (mBl (mChain (cmpD fun i j => decide (i ≤ j)) (cmpD fun i j => decide (i ≤ j)) (mC (.int 1)) (mCB lenUD (mCons (mVar 0) mNil)) (mBin addUD (mC (.int 3)) (mC (.int 1)))))) (mRet (mTup (mCons (mC .non) mNil))) mNext)
  (mSeq (mAsg (mCallP 1 F_head_in (mCons (mBin ixUD (mVar 0) (mC (.int 0))) mNil)) (mgName 1))
  (mSeq (mIfS (mBl (mBin (isND false) (mVar 1) (mC .non))) (mRet (mTup (mCons (mC (.int 0)) mNil))) mNext)
  (mSeq (mFor (miEnum (mCons (mVar 0) mNil)) (mgSeq 2 (mgCons (mgName 2) (mgCons (mgName 3) mgNil))) (mIfS (mAndT (mBl (mBin (cmpD fun i j => decide (j < i)) (mVar 2) (mC (.int 0)))) (mBl (mBin (isND false) (mCallP 2 F_turn_in (mCons (mVar 3) (mCons (mBin ixUD (mVar 1) (mC (.int 0))) mNil))) (mC .non)))) (mRet (mTup (mCons (mVar 2) mNil))) mNext))
  (mRet (mTup mNil))))))
def F_wrong_rows : Fn := mFnT 4 m_wrong_rows
def m_Table___init__ : MS :=
  (mSeq (mAsg (mCallP 1 F_wrong_rows (mCons (mVar 1) mNil)) (mgName 2))
  (mSeq (mIfS (mTru (mVar 2)) (fun _ _ => .bad) mNext)
  (mSeq (mAsg (mVar 1) (mgFld "Table" "told" (mVar 0)))
  (mSeq (mAsg (mCallP 1 F_head_in (mCons (mBin ixUD (mVar 1) (mC (.int 0))) mNil)) (mgSeq 2 (mgCons (mgFld "Table" "many" (mVar 0)) (mgCons (mgFld "Table" "size" (mVar 0)) mgNil))))
  (mSeq (mAsg (mCallP 2 F_all_turns (mCons (mUn (attrD "Table" "many") (mVar 0)) (mCons (mFrz (mLc (miU (mSlU (mVar 1) (mPart (mC (.int 1))) mNoPart)) (mgName 4) (fun _ h => .ok true h) (mCallP 2 F_turn_in (mCons (mVar 4) (mCons (mUn (attrD "Table" "many") (mVar 0)) mNil))) [4])) mNil))) (mgFld "Table" "group" (mVar 0)))
  (mSeq (mAsg (mCallP 3 F_sweep (mCons (mUn (attrD "Table" "many") (mVar 0)) (mCons (mUn (attrD "Table" "size") (mVar 0)) (mCons (mUn (attrD "Table" "group") (mVar 0)) mNil)))) (mgFld "Table" "known" (mVar 0)))
  (mSeq (mAsg (mBin mulUD (mTup (mCons (mC (.int 0)) mNil)) (mUn (attrD "Table" "many") (mVar 0))) (mgName 3))
  (mAsg (mCB tupleD (mCons (mFrz (mSortS (mCm (miU (mUn (attrD "Table" "known") (mVar 0))) (mgName 5) (mBl (mBin neD (mBin ixUD (mUn (attrD "Table" "known") (mVar 0)) (mVar 5)) (mVar 3))) (acS (mBin ixUD (mUn (attrD "Table" "known") (mVar 0)) (mVar 5))) [] [5]))) mNil)) (mgFld "Table" "swept" (mVar 0))))))))))
def F_Table___init__ : Fn := mFnT 6 m_Table___init__
def m_Table_read : MS :=
  (mSeq (mAsg (mIf (mTru (mCB isiD (mCons (mVar 1) (mCons (mC (.ty "str")) mNil)))) (mFrz (mSplit (mVar 1) (mC (.str "
")))) (mFrz (mLst mNil))) (mgName 2))
  (mSeq (mIfS (mTru (mCallP 1 F_wrong_rows (mCons (mVar 2) mNil))) (fun _ _ => .bad) mNext)
  (mRet (mMakeS "Table" F_Table___init__ (mVar 2)))))
def F_Table_read : Fn := mFnT 3 m_Table_read
def m__law_made : MS :=
  (mRet (mCm2 "Table" 1 F_Table_read (mCons (mJoin (mC (.str "
")) (mVar 0)) mNil)))
def F__law_made : Fn := mFnT 1 m__law_made
end Tb

/-! What the table's defs compute, in plain lists. -/
namespace Ab
open PySem PySem.Spec L2
section
variable {γ σ : Type} {h h' : AH} {env : En} {d : D} {ds : List D} {n k : Nat}
theorem x_cut (hd : below 0 d = true) : exitD 0 d h = .ok d [] := by
  unfold exitD
  simp [hd]
theorem small_line {m : Nat} (h : m ≤ 1000000) : m ≤ sizeLine := Nat.le_trans h (by decide)
abbrev rngI (n : Nat) : List Int := (List.range n).map fun i => ((i : Nat) : Int)
end
end Ab
namespace Tb
open PySem PySem.Spec L2 Ab
def shiftP (xs : List Int) (b m : Int) : List Int := xs.map fun x => (x + b) % m
/-- found[target] = places[place] -/
def behindP (p t : List Int) : List Int := (t.zipIdx).foldl (fun f q => f.set q.1.toNat (p.getD q.2 0)) p
theorem behindP_len (p t : List Int) : (behindP p t).length = p.length := by
  have : ∀ (l : List (Int × Nat)) (f : List Int), (l.foldl (fun f q => f.set q.1.toNat (p.getD q.2 0)) f).length = f.length := by
    intro l
    induction l with
    | nil => intro f; rfl
    | cons a l ih => intro f; rw [List.foldl_cons, ih, List.length_set]
  exact this _ _
end Tb

/-! Turns, in plain lists of whole numbers: composing, reaching, how many there are. -/
namespace Pl
open Ab
/-- t behind x: (t[x[0]], t[x[1]], ..) -/
def comp (t x : List Int) : List Int := x.map fun i => t.getD i.toNat 0
abbrev rngI (n : Nat) : List Int := (List.range n).map fun i => ((i : Nat) : Int)
structure IsT (n : Nat) (x : List Int) : Prop where
  len : x.length = n
  rng : ∀ i ∈ x, 0 ≤ i ∧ i < n
  nod : x.Nodup
theorem nodup_map {α β : Type} {f : α → β} : ∀ {l : List α}, l.Nodup → (∀ a ∈ l, ∀ b ∈ l, f a = f b → a = b) → (l.map f).Nodup
  | [], _, _ => List.nodup_nil
  | a :: l, h, inj => by
    rw [List.nodup_cons] at h
    rw [List.map_cons, List.nodup_cons]
    refine ⟨fun m => ?_, nodup_map h.2 fun a ha b hb => inj a (List.mem_cons_of_mem _ ha) b (List.mem_cons_of_mem _ hb)⟩
    obtain ⟨b, hb, e⟩ := List.mem_map.mp m
    have := inj b (List.mem_cons_of_mem _ hb) a (List.mem_cons_self ..) e
    exact h.1 (this ▸ hb)
theorem getD_mem {x : List Int} {j : Nat} (hj : j < x.length) : x.getD j 0 ∈ x := by
  rw [List.getD_eq_getElem?_getD, List.getElem?_eq_getElem hj]
  exact List.getElem_mem hj
theorem getD_inj {x : List Int} (h : x.Nodup) {i j : Nat} (hi : i < x.length) (hj : j < x.length) (e : x.getD i 0 = x.getD j 0) : i = j := by
  rw [List.getD_eq_getElem?_getD, List.getD_eq_getElem?_getD, List.getElem?_eq_getElem hi, List.getElem?_eq_getElem hj] at e
  have e : x[i] = x[j] := e
  rcases Nat.lt_trichotomy i j with q | q | q
  · exact absurd e ((List.pairwise_iff_getElem.mp h) i j hi hj q)
  · exact q
  · exact absurd e.symm ((List.pairwise_iff_getElem.mp h) j i hj hi q)
theorem isT_id (n : Nat) : IsT n (rngI n) := by
  refine ⟨by simp, fun i hi => ?_, nodup_map List.nodup_range fun a _ b _ e => by omega⟩
  obtain ⟨k, hk, rfl⟩ := List.mem_map.mp hi
  have := List.mem_range.mp hk
  omega
theorem isT_comp {n : Nat} {t x : List Int} (ht : IsT n t) (hx : IsT n x) : IsT n (comp t x) := by
  refine ⟨by simp [comp, hx.len], fun i hi => ?_, nodup_map hx.nod fun a ha b hb e => ?_⟩
  · obtain ⟨k, hk, rfl⟩ := List.mem_map.mp hi
    have := hx.rng k hk
    exact ht.rng _ (getD_mem (by rw [ht.len]; omega))
  · have h1 := hx.rng a ha
    have h2 := hx.rng b hb
    have := getD_inj ht.nod (i := a.toNat) (j := b.toNat) (by rw [ht.len]; omega) (by rw [ht.len]; omega) e
    omega
/-- all rows of k numbers below n -/
def seqs (n : Nat) : Nat → List (List Int)
  | 0 => [[]]
  | k + 1 => (rngI n).flatMap fun i => (seqs n k).map (i :: ·)
def nodB : List Int → Bool
  | [] => true
  | a :: l => !(l.any fun b => decide (a = b)) && nodB l
def perms (n : Nat) : List (List Int) := (seqs n n).filter nodB
/-- what the told turns reach -/
inductive Reach (n : Nat) (told : List (List Int)) : List Int → Prop
  | id : Reach n told (rngI n)
  | step {x t : List Int} : Reach n told x → t ∈ told → Reach n told (comp t x)
theorem Reach.isT {n : Nat} {told : List (List Int)} (h : ∀ t ∈ told, IsT n t) {x : List Int} (r : Reach n told x) : IsT n x := by
  induction r with
  | id => exact isT_id n
  | step _ ht ih => exact isT_comp (h _ ht) ih
/-- all of them, each once -/
structure Closure (n : Nat) (told L : List (List Int)) : Prop where
  nod : L.Nodup
  id : rngI n ∈ L
  rch : ∀ x ∈ L, Reach n told x
  cls : ∀ x ∈ L, ∀ t ∈ told, comp t x ∈ L
theorem Closure.all {n : Nat} {told L : List (List Int)} (c : Closure n told L) {x : List Int} (r : Reach n told x) : x ∈ L := by
  induction r with
  | id => exact c.id
  | step _ ht ih => exact c.cls _ ih _ ht
end Pl

namespace Ab
open PySem PySem.Spec L2
/-! dicts of tuples, lists of tuples -/
section
variable {h : AH} {n : Nat} {v : D} {F : List (List Int)} {x : List Int} {neg : Bool}
def dctK (F : List (List Int)) (v : D) : List (List Key × D) := F.map fun x => (kI x, v)
end
end Ab
namespace Tb
open PySem PySem.Spec L2 Ab Pl
section
variable {n : Nat} {told : List (List Int)}
/-- what the search for turns keeps -/
structure Grow (n : Nat) (told F W : List (List Int)) (first : List Int) (k : Nat) : Prop where
  nod : F.Nodup
  wn : W.Nodup
  id : Pl.rngI n ∈ F
  rch : ∀ x ∈ F, Reach n told x
  wf : ∀ x ∈ W, x ∈ F
  ff : first ∈ F
  cls : ∀ x ∈ F, x ∈ W ∨ (∀ t ∈ told, comp t x ∈ F) ∨ (x = first ∧ ∀ t ∈ told.take k, comp t x ∈ F)
theorem Grow.step {F W : List (List Int)} {first t : List Int} {k : Nat} (g : Grow n told F W first k) (ek : told[k]? = some t) : Grow n told (if comp t first ∈ F then F else F ++ [comp t first]) (if comp t first ∈ F then W else W ++ [comp t first]) first (k + 1) := by
  have mt : t ∈ told := List.mem_of_getElem? ek
  have sub : ∀ x ∈ F, x ∈ (if comp t first ∈ F then F else F ++ [comp t first]) := fun x hx => by
    split
    · exact hx
    · exact List.mem_append_left _ hx
  have cin : comp t first ∈ (if comp t first ∈ F then F else F ++ [comp t first]) := by
    split
    · assumption
    · simp
  have tk : told.take (k + 1) = told.take k ++ [t] := by rw [List.take_succ, ek]; rfl
  refine ⟨?_, ?_, sub _ g.id, ?_, ?_, sub _ g.ff, ?_⟩
  · split
    · exact g.nod
    · rename_i q
      rw [List.nodup_append]
      exact ⟨g.nod, List.nodup_cons.mpr ⟨List.not_mem_nil, List.nodup_nil⟩, fun a ha b hb e => by cases List.mem_singleton.mp hb; exact q (e ▸ ha)⟩
  · split
    · exact g.wn
    · rename_i q
      rw [List.nodup_append]
      exact ⟨g.wn, List.nodup_cons.mpr ⟨List.not_mem_nil, List.nodup_nil⟩, fun a ha b hb e => by cases List.mem_singleton.mp hb; exact q (e ▸ g.wf a ha)⟩
  · intro x hx
    split at hx
    · exact g.rch x hx
    · rcases List.mem_append.mp hx with hx | hx
      · exact g.rch x hx
      · rw [List.mem_singleton.mp hx]; exact .step (g.rch _ g.ff) mt
  · intro x hx
    split at hx
    · exact sub _ (g.wf x hx)
    · rcases List.mem_append.mp hx with hx | hx
      · exact sub _ (g.wf x hx)
      · rw [List.mem_singleton.mp hx]; exact cin
  · intro x hx
    have old : x ∈ F → x ∈ (if comp t first ∈ F then W else W ++ [comp t first]) ∨ (∀ t' ∈ told, comp t' x ∈ (if comp t first ∈ F then F else F ++ [comp t first])) ∨ (x = first ∧ ∀ t' ∈ told.take (k + 1), comp t' x ∈ (if comp t first ∈ F then F else F ++ [comp t first])) := fun hx => by
      rcases g.cls x hx with a | a | ⟨a, b⟩
      · refine .inl ?_
        split
        · exact a
        · exact List.mem_append_left _ a
      · exact .inr (.inl fun t' ht' => sub _ (a t' ht'))
      · refine .inr (.inr ⟨a, fun t' ht' => ?_⟩)
        rw [tk] at ht'
        rcases List.mem_append.mp ht' with h | h
        · exact sub _ (b t' h)
        · rw [List.mem_singleton.mp h, a]; exact cin
    by_cases q : comp t first ∈ F
    · rw [if_pos q] at hx; exact old hx
    · rw [if_neg q] at hx
      rcases List.mem_append.mp hx with h | h
      · exact old h
      · refine .inl ?_
        rw [if_neg q, List.mem_singleton.mp h]; simp
abbrev turnE (n : Nat) (told : List (List Int)) (first : List Int) (x5 x6 x7 : Option D) : En := [some (.int n), some (.lst (told.map tupI)), some (.loc 0), some (.loc 1), some (tupI first), x5, x6, x7]
abbrev turnH (F W : List (List Int)) : AH := [.dct (dctK F (.bl true)), .lst (W.map tupI)]
end
end Tb

namespace Tb
open PySem PySem.Spec L2 Ab Pl
section
variable {n : Nat} {told : List (List Int)} {rows : D} {l : Nat} {h : AH}
/-- the law's search: what has been found stands at 0, the next layer at l -/
structure St (l : Nat) (h0 : AH) (F Z : List (List Int)) (h : AH) : Prop where
  a : h[0]? = some (.lst (F.map tupI))
  b : h[l]? = some (.lst (Z.map tupI))
  len : h.length = h0.length
  old : ∀ i, i ≠ 0 → i ≠ l → h[i]? = h0[i]?
abbrev grpE (rows : D) (n : Nat) (told : List (List Int)) (lay : D) (l : Nat) (x5 : Option D) (first : List Int) (x8 x9 x10 x11 : Option D) : En := [some rows, some (.int n), some (.lst (told.map tupI)), some (.loc 0), some lay, x5, some (.loc l), some (tupI first), x8, x9, x10, x11]
abbrev grpP : MS := mFor (miU (mVar 2)) (mgName 8) b__law_group_1
abbrev grpE7 (rows : D) (n : Nat) (told : List (List Int)) (lay : D) (x5 : Option D) (x6 x7 x8 x9 x10 x11 : Option D) : En := [some rows, some (.int n), some (.lst (told.map tupI)), some (.loc 0), some lay, x5, x6, x7, x8, x9, x10, x11]
/-- how a layer stands -/
def LayAt (lay : D) (W : List (List Int)) (h : AH) : Prop := lay = .lst (W.map tupI) ∨ ∃ j, lay = .loc j ∧ j ≠ 0 ∧ h[j]? = some (.lst (W.map tupI))
end
end Tb

namespace Tb
open PySem PySem.Spec L2 Ab Pl
inductive All2 {α β : Type} (P : α → β → Prop) : List α → List β → Prop
  | nil : All2 P [] []
  | cons {a : α} {b : β} {l : List α} {k : List β} : P a b → All2 P l k → All2 P (a :: l) (b :: k)
section
variable {n m : Nat} {h : AH}
/-- a row that tells the turn t, to the program and to the law -/
structure RowF (n : Nat) (r : Str) (t : List Int) : Prop where
  is : IsT n t
  law : F__law_turn [.str r, .int n] [] = .ok (tupI t) []
  prg : F_turn_in [.str r, .int n] [] = .ok (tupI t) []
  len : r.length ≤ 100
  nl : (10 : Nat) ∉ r.cps.toList
  ok : ∀ c ∈ r.cps.toList, c < 1114112
structure HeadF (r : Str) (n m : Nat) : Prop where
  n1 : 1 ≤ n
  n5 : n ≤ 5
  m2 : 2 ≤ m
  m9 : m ≤ 9
  few : m ^ (n - 1) ≤ 32
  law : ∀ ds : List D, F__law_head [.lst (.str r :: ds)] [] = .ok (.lst [.int n, .int m]) []
  prg : F_head_in [.str r] [] = .ok (.tup [.int n, .int m]) []
  len : r.length ≤ 100
  nl : (10 : Nat) ∉ r.cps.toList
  ok : ∀ c ∈ r.cps.toList, c < 1114112
/-- rows of a table: the head, and rows with their turns -/
structure Rows (rs : List Str) (n m : Nat) (told : List (List Int)) : Prop where
  ex : ∃ hd ts, rs = hd :: ts ∧ HeadF hd n m ∧ All2 (RowF n) ts told ∧ ts.length ≤ 3
theorem Rows.n1 {rs : List Str} {told : List (List Int)} (r : Rows rs n m told) : 1 ≤ n := by obtain ⟨_, _, _, a, _⟩ := r.ex; exact a.n1
theorem forall2_mem {α β : Type} {P : α → β → Prop} : ∀ {l : List α} {k : List β}, All2 P l k → ∀ b ∈ k, ∃ a ∈ l, P a b
  | _, _, .nil, b, hb => absurd hb List.not_mem_nil
  | _, _, .cons p r, b, hb => by
    rcases List.mem_cons.mp hb with rfl | hb
    · exact ⟨_, List.mem_cons_self .., p⟩
    · obtain ⟨a, ha, q⟩ := forall2_mem r b hb
      exact ⟨a, List.mem_cons_of_mem _ ha, q⟩
theorem Rows.isT {rs : List Str} {told : List (List Int)} (r : Rows rs n m told) : ∀ t ∈ told, IsT n t := by
  obtain ⟨_, ts, _, _, f, _⟩ := r.ex
  intro t ht
  obtain ⟨_, _, q⟩ := forall2_mem f t ht
  exact q.is
end
end Tb

/-! Standings, alike ones, and the sweep, in plain lists. -/
namespace Pl
open Ab
def shiftP (xs : List Int) (b m : Int) : List Int := xs.map fun x => (x + b) % m
def behindP (p t : List Int) : List Int := (t.zipIdx).foldl (fun f q => f.set q.1.toNat (p.getD q.2 0)) p
def allP (m : Nat) : Nat → List (List Int)
  | 0 => [[]]
  | k + 1 => (allP m k).flatMap fun s => (rngI m).map fun i => s ++ [i]
def dd (acc : List (List Int)) (xs : List (List Int)) : List (List Int) := xs.foldl (fun acc x => if x ∈ acc then acc else acc ++ [x]) acc
def orbit (s : List Int) (m : Nat) (G : List (List Int)) : List (List Int) := G.flatMap fun t => (rngI m).map fun b => shiftP (behindP s t) b m
def alikeP (s : List Int) (m : Nat) (G : List (List Int)) : List (List Int) := dd [] (orbit s m G)
abbrev Asc := List (List Int × List Int)
def putP (A : Asc) (k v : List Int) : Asc := if k ∈ A.map (·.1) then A.map (fun p => if p.1 = k then (p.1, v) else p) else A ++ [(k, v)]
def sweepS (m : Nat) (G : List (List Int)) (A : Asc) (s : List Int) : Asc := if s ∈ A.map (·.1) then A else (alikeP s m G).foldl (fun A o => putP A o s) A
def sweepP (n m : Nat) (G : List (List Int)) : Asc := (allP m n).foldl (sweepS m G) []
/-- a standing -/
structure IsS (n m : Nat) (s : List Int) : Prop where
  len : s.length = n
  rng : ∀ i ∈ s, 0 ≤ i ∧ i < m
section
variable {n m : Nat} {G : List (List Int)} {s x k v : List Int} {A : Asc}
theorem mem_rngI {i : Int} : i ∈ rngI m ↔ 0 ≤ i ∧ i < m := by
  constructor
  · intro h
    obtain ⟨j, hj, rfl⟩ := List.mem_map.mp h
    have := List.mem_range.mp hj
    omega
  · rintro ⟨h1, h2⟩
    exact List.mem_map.mpr ⟨i.toNat, List.mem_range.mpr (by omega), by omega⟩
theorem mem_allP : ∀ {n : Nat} {s : List Int}, s ∈ allP m n ↔ IsS n m s
  | 0, s => by
    constructor
    · intro h
      have : s = [] := by simpa [allP] using h
      subst this; exact ⟨rfl, fun i hi => absurd hi List.not_mem_nil⟩
    · intro h
      have : s = [] := List.length_eq_zero_iff.mp h.len
      subst this; simp [allP]
  | n + 1, s => by
    constructor
    · intro h
      obtain ⟨p, hp, h2⟩ := List.mem_flatMap.mp h
      obtain ⟨i, hi, rfl⟩ := List.mem_map.mp h2
      have ih := mem_allP.mp hp
      refine ⟨by simp [ih.len], fun j hj => ?_⟩
      rcases List.mem_append.mp hj with q | q
      · exact ih.rng j q
      · rw [List.mem_singleton.mp q]; exact mem_rngI.mp hi
    · intro h
      rcases List.eq_nil_or_concat s with rfl | ⟨p, i, rfl⟩
      · exact absurd h.len (by simp)
      · rw [List.concat_eq_append] at h ⊢
        refine List.mem_flatMap.mpr ⟨p, mem_allP.mpr ⟨by have := h.len; simp at this; exact this, fun j hj => h.rng j (by simp [hj])⟩, List.mem_map.mpr ⟨i, mem_rngI.mpr (h.rng i (by simp)), rfl⟩⟩
theorem shift_isS (hm : 0 < m) (h : x.length = n) {b : Int} : IsS n m (shiftP x b m) := by
  refine ⟨by simp [shiftP, h], fun i hi => ?_⟩
  obtain ⟨y, _, rfl⟩ := List.mem_map.mp hi
  exact ⟨Int.emod_nonneg _ (by omega), Int.emod_lt_of_pos _ (by omega)⟩
theorem behindP_len (p t : List Int) : (behindP p t).length = p.length := by
  have : ∀ (l : List (Int × Nat)) (f : List Int), (l.foldl (fun f q => f.set q.1.toNat (p.getD q.2 0)) f).length = f.length := by
    intro l
    induction l with
    | nil => intro f; rfl
    | cons a l ih => intro f; rw [List.foldl_cons, ih, List.length_set]
  exact this _ _
theorem shift_shift {b c : Int} : shiftP (shiftP x b m) c m = shiftP x ((b + c) % m) m := by
  unfold shiftP
  rw [List.map_map]
  refine List.map_congr_left fun y _ => ?_
  show ((y + b) % (m : Int) + c) % m = (y + (b + c) % m) % m
  rw [Int.emod_add_emod, Int.add_emod_emod, Int.add_assoc]
/-! keys once -/
theorem dd_mem : ∀ {xs acc : List (List Int)}, x ∈ dd acc xs ↔ x ∈ acc ∨ x ∈ xs
  | [], acc => by simp [dd]
  | y :: xs, acc => by
    show x ∈ dd (if y ∈ acc then acc else acc ++ [y]) xs ↔ _
    rw [dd_mem]
    by_cases q : y ∈ acc
    · rw [if_pos q, List.mem_cons]
      constructor
      · rintro (h | h)
        · exact .inl h
        · exact .inr (.inr h)
      · rintro (h | h | h)
        · exact .inl h
        · exact .inl (h ▸ q)
        · exact .inr h
    · rw [if_neg q, List.mem_append, List.mem_singleton, List.mem_cons, or_assoc]
theorem mem_alike : x ∈ alikeP s m G ↔ ∃ t ∈ G, ∃ b : Int, 0 ≤ b ∧ b < m ∧ x = shiftP (behindP s t) b m := by
  unfold alikeP
  rw [dd_mem]
  constructor
  · rintro (h | h)
    · exact absurd h List.not_mem_nil
    · obtain ⟨t, ht, h2⟩ := List.mem_flatMap.mp h
      obtain ⟨b, hb, rfl⟩ := List.mem_map.mp h2
      exact ⟨t, ht, b, (mem_rngI.mp hb).1, (mem_rngI.mp hb).2, rfl⟩
  · rintro ⟨t, ht, b, h1, h2, rfl⟩
    exact .inr (List.mem_flatMap.mpr ⟨t, ht, List.mem_map.mpr ⟨b, mem_rngI.mpr ⟨h1, h2⟩, rfl⟩⟩)
theorem alike_isS (hm : 0 < m) (hs : s.length = n) (h : x ∈ alikeP s m G) : IsS n m x := by
  obtain ⟨t, _, b, _, _, rfl⟩ := mem_alike.mp h
  exact shift_isS hm (by rw [behindP_len, hs])
theorem alike_shift (hm : 0 < m) (h : x ∈ alikeP s m G) (c : Int) : shiftP x c m ∈ alikeP s m G := by
  obtain ⟨t, ht, b, h1, h2, rfl⟩ := mem_alike.mp h
  exact mem_alike.mpr ⟨t, ht, (b + c) % m, Int.emod_nonneg _ (by omega), Int.emod_lt_of_pos _ (by omega), shift_shift⟩
/-! what is put -/
theorem put_keys : (putP A k v).map (·.1) = if k ∈ A.map (·.1) then A.map (·.1) else A.map (·.1) ++ [k] := by
  unfold putP
  split
  · rename_i h
    rw [List.map_map]
    refine List.map_congr_left fun p _ => ?_
    show (if p.1 = k then (p.1, v) else p).1 = p.1
    split <;> rfl
  · simp
theorem put_mem_key : x ∈ (putP A k v).map (·.1) ↔ x = k ∨ x ∈ A.map (·.1) := by
  rw [put_keys]
  split
  · rename_i h
    constructor
    · exact .inr
    · rintro (rfl | q)
      · exact h
      · exact q
  · rw [List.mem_append, List.mem_singleton, or_comm]
theorem put_nodup (h : (A.map (·.1)).Nodup) : ((putP A k v).map (·.1)).Nodup := by
  rw [put_keys]
  split
  · exact h
  · rename_i q
    rw [List.nodup_append]
    exact ⟨h, List.nodup_cons.mpr ⟨List.not_mem_nil, List.nodup_nil⟩, fun a ha b hb e => by cases List.mem_singleton.mp hb; exact q (e ▸ ha)⟩
theorem put_vals {p : List Int × List Int} (h : p ∈ putP A k v) : p ∈ A ∨ p.2 = v := by
  unfold putP at h
  split at h
  · obtain ⟨q, hq, rfl⟩ := List.mem_map.mp h
    split
    · exact .inr rfl
    · exact .inl hq
  · rcases List.mem_append.mp h with h | h
    · exact .inl h
    · rw [List.mem_singleton.mp h]; exact .inr rfl
theorem puts_key : ∀ {os : List (List Int)} {A : Asc}, x ∈ (os.foldl (fun A o => putP A o s) A).map (·.1) ↔ x ∈ os ∨ x ∈ A.map (·.1)
  | [], A => by simp
  | o :: os, A => by
    rw [List.foldl_cons, puts_key, put_mem_key, List.mem_cons]
    constructor
    · rintro (h | h | h)
      · exact .inl (.inr h)
      · exact .inl (.inl h)
      · exact .inr h
    · rintro ((h | h) | h)
      · exact .inr (.inl h)
      · exact .inl h
      · exact .inr (.inr h)
theorem puts_nodup : ∀ {os : List (List Int)} {A : Asc}, (A.map (·.1)).Nodup → ((os.foldl (fun A o => putP A o s) A).map (·.1)).Nodup
  | [], A, h => h
  | o :: os, A, h => puts_nodup (os := os) (put_nodup h)
theorem puts_vals : ∀ {os : List (List Int)} {A : Asc} {p : List Int × List Int}, p ∈ os.foldl (fun A o => putP A o s) A → p ∈ A ∨ p.2 = s
  | [], A, p, h => .inl h
  | o :: os, A, p, h => by
    rcases puts_vals (os := os) h with h | h
    · exact put_vals h
    · exact .inr h
/-- what the sweep keeps -/
structure Sw (n m : Nat) (G : List (List Int)) (A : Asc) : Prop where
  nod : (A.map (·.1)).Nodup
  key : ∀ x ∈ A.map (·.1), IsS n m x
  val : ∀ p ∈ A, IsS n m p.2
  shf : ∀ x ∈ A.map (·.1), ∀ c : Int, shiftP x c m ∈ A.map (·.1)
theorem Sw.nil : Sw n m G [] := ⟨List.nodup_nil, fun x h => absurd h List.not_mem_nil, fun x h => absurd h List.not_mem_nil, fun x h => absurd h List.not_mem_nil⟩
theorem Sw.step (hm : 0 < m) (w : Sw n m G A) (hs : IsS n m s) : Sw n m G (sweepS m G A s) := by
  unfold sweepS
  split
  · exact w
  · refine ⟨puts_nodup w.nod, fun x hx => ?_, fun p hp => ?_, fun x hx c => ?_⟩
    · rcases puts_key.mp hx with h | h
      · exact alike_isS hm hs.len h
      · exact w.key x h
    · rcases puts_vals hp with h | h
      · exact w.val p h
      · rw [h]; exact hs
    · rcases puts_key.mp hx with h | h
      · exact puts_key.mpr (.inl (alike_shift hm h c))
      · exact puts_key.mpr (.inr (w.shf x h c))
theorem fold_sw (hm : 0 < m) : ∀ {xs : List (List Int)} {A : Asc}, Sw n m G A → (∀ s ∈ xs, IsS n m s) → Sw n m G (xs.foldl (sweepS m G) A)
  | [], _, w, _ => w
  | s :: xs, _, w, h => fold_sw hm (xs := xs) (w.step hm (h s (List.mem_cons_self ..))) fun y hy => h y (List.mem_cons_of_mem _ hy)
theorem sweep_sw (hm : 0 < m) : Sw n m G (sweepP n m G) := fold_sw hm Sw.nil fun s hs => mem_allP.mp hs
end
end Pl

namespace Ab
open PySem PySem.Spec L2
section
variable {γ δ : Type} {h : AH} {env : En}
end
end Ab
namespace Tb
open PySem PySem.Spec L2 Ab
open Pl (IsT IsS Sw Asc allP alikeP sweepP sweepS putP orbit dd)
section
variable {n m : Nat} {h : AH} {G : List (List Int)}
end
end Tb

namespace Tb
open PySem PySem.Spec L2 Ab
open Pl (IsT IsS Sw Asc allP alikeP sweepP sweepS putP orbit dd)
section
variable {n m : Nat} {h : AH} {G : List (List Int)} {A : Asc} {x k v : List Int}
def dctP (A : Asc) : List (List Key × D) := A.map fun p => (kI p.1, tupI p.2)
/-! rows that are right -/
end
end Tb

namespace Tb
open PySem PySem.Spec L2 Ab
open Pl (IsT IsS Sw Asc allP alikeP sweepP sweepS putP orbit dd Closure)
section
variable {n m : Nat} {h : AH} {G : List (List Int)} {env : En} {d : D} {fs : List (Str × D)} {c f : Str}
abbrev zeroP (n : Nat) : List Int := List.replicate n 0
/-- the kinds of a table, in the order of their coming up -/
def kindsP (n m : Nat) (G : List (List Int)) : List (List Int) := dd [] (((sweepP n m G).map (·.2)).filter fun v => decide (v ≠ zeroP n))
def tblNs : List Str := ["told", "many", "size", "group", "known", "swept"]
def tblD (rs : List Str) (n m : Nat) (G : List (List Int)) : D := .obj "Table" tblNs [.tup (rs.map D.str), .int n, .int m, .tup (G.map tupI), .dic ((sweepP n m G).map fun p => kI p.1) ((sweepP n m G).map fun p => tupI p.2), .tup ((sortT (kindsP n m G)).map tupI)]
theorem kinds_mem {v : List Int} : v ∈ kindsP n m G ↔ v ∈ (sweepP n m G).map (·.2) ∧ v ≠ zeroP n := by
  unfold kindsP
  rw [Pl.dd_mem, List.mem_filter]
  simp
theorem kinds_isS (hm : 0 < m) {v : List Int} (hv : v ∈ kindsP n m G) : IsS n m v := by
  obtain ⟨p, hp, rfl⟩ := List.mem_map.mp (kinds_mem.mp hv).1
  exact (Pl.sweep_sw hm).val p hp
end
end Tb

namespace Tb
open PySem PySem.Spec L2 Ab
open Pl (IsT IsS Sw Asc allP alikeP sweepP sweepS putP orbit dd Closure)
section
variable {n m : Nat} {h : AH}
def nlS : Str := "\n"
end
end Tb

namespace Pl
end Pl
namespace Tb
open PySem PySem.Spec L2 Ab
open Pl (IsT IsS perms)
section
variable {n m : Nat} {h : AH}
abbrev strI (i : Int) : Str := toString i
def headS (d m : Int) : Str := (("dials " ++ strI d : Str) ++ (" marks " : Str)) ++ strI m
def rowS (p : List Int) : Str := ("turn " : Str) ++ Txt.join " " (p.map strI)
def spS : Str := " "
def headOk (r : Str) (n m : Nat) : Bool := (match Txt.split r spS with
  | [_, w1, _, w3] => (match intUD [.str w1] [], intUD [.str w3] [] with
    | .ok (.int a) [], .ok (.int b) [] => decide (a = n) && decide (b = m)
    | _, _ => false)
  | _ => false) && ((match F_head_in [.str r] [] with
  | .ok (.tup [.int a, .int b]) [] => decide (a = n) && decide (b = m)
  | _ => false) && (decide (r.length ≤ 100) && (!(r.cps.toList.any fun c => decide (c = 10 ∨ 1114112 ≤ c)) && (decide (1 ≤ n ∧ n ≤ 5 ∧ 2 ≤ m ∧ m ≤ 9) && decide (m ^ (n - 1) ≤ 32)))))
def turnOk (r : R D) (p : List Int) : Bool := match r with
  | .ok (.tup ds) [] => (match intsD ds with
    | some ns => decide (ns = p)
    | none => false)
  | _ => false
def rowOk (n : Nat) (r : Str) (p : List Int) : Bool := turnOk (F__law_turn [.str r, .int n] []) p && (turnOk (F_turn_in [.str r, .int n] []) p && (decide (r.length ≤ 100) && !(r.cps.toList.any fun c => decide (c = 10 ∨ 1114112 ≤ c))))
def ringP (n : Nat) : List Int := (Pl.rngI n).map fun i => (i + 1) % n
def overP (n : Nat) : List Int := (Pl.rngI n).reverse
def menuH : List (Nat × Nat) := [(2, 2), (2, 3), (2, 4), (2, 6), (3, 2), (3, 2), (3, 3), (3, 4), (4, 2), (4, 2), (4, 3), (5, 2), (1, 4)]
end
end Tb

/-! The law's spring, draws and menus. -/
namespace Tb
open PySem PySem.Spec L2 Ab
section
variable {h h' : AH} {n m : Nat} {x y z d : D} {env : En} {a b c k : Int}
theorem uix0 (e : h[n]? = some (.lst [x, y, z])) : ixUD (.loc n) (.int 0) h = .ok x h := by rw [u_ix (by simp [dctD, e])]; exact ix_0 e
theorem uix1 (e : h[n]? = some (.lst [x, y, z])) : ixUD (.loc n) (.int 1) h = .ok y h := by rw [u_ix (by simp [dctD, e])]; exact ix_1 e
theorem uix2 (e : h[n]? = some (.lst [x, y, z])) : ixUD (.loc n) (.int 2) h = .ok z h := by rw [u_ix (by simp [dctD, e])]; exact ix_2 e
theorem ksub0 (e : h[n]? = some (.lst [x, y, z])) : kSubU env d (.loc n) (.int 0) h = .ok env (h.set n (.lst [d, y, z])) := k_SubUL (i := 0) e (by simp)
theorem ksub1 (e : h[n]? = some (.lst [x, y, z])) : kSubU env d (.loc n) (.int 1) h = .ok env (h.set n (.lst [x, d, z])) := k_SubUL (i := 1) e (by simp)
theorem ksub2 (e : h[n]? = some (.lst [x, y, z])) : kSubU env d (.loc n) (.int 2) h = .ok env (h.set n (.lst [x, y, d])) := k_SubUL (i := 2) e (by simp)
theorem draw_run (e : h[n]? = some (.lst [.int a, .int b, .int c])) (ha : 0 ≤ a) (hb : 0 ≤ b) (hb2 : b < 2147483647) (hk : 0 < k) (hk2 : k < 1073741824) :
    ∃ d a' b' c' : Int, F__law_draw [.loc n, .int k] h = .ok (.int d) (h.set n (.lst [.int a', .int b', .int c'])) ∧ 0 ≤ d ∧ d < k ∧ 0 ≤ a' ∧ 0 ≤ b' ∧ b' < 2147483647 := by
  have hn := lt_of_get e
  have m1 : ∀ {h : AH}, mulUD (.int b) (.int 69621) h = .ok (.int (b * 69621)) h := o_mulR (by decide) (by decide)
  have m2 : ∀ {h : AH}, mulUD (.int 40503) (.int (c + 1)) h = .ok (.int (40503 * (c + 1))) h := o_mulL (by decide) (by decide)
  have d1 : ∀ {i : Int} {h : AH}, modD (.int i) (.int 2147483647) h = .ok (.int (i % 2147483647)) h := o_mod (by decide)
  have d2 : ∀ {i : Int} {h : AH}, modD (.int i) (.int 2147483629) h = .ok (.int (i % 2147483629)) h := o_mod (by decide)
  have d3 : ∀ {i : Int} {h : AH}, divD (.int i) (.int 256) h = .ok (.int (i / 256)) h := o_div (by decide) (by decide)
  have d4 : ∀ {i : Int} {h : AH}, modD (.int i) (.int k) h = .ok (.int (i % k)) h := o_mod hk
  have d5 : ∀ {h : AH}, divmodD [.int a, .int k] h = .ok (.tup [.int (a / k), .int (a % k)]) h := o_divmod hk hk2
  have nb := Int.emod_nonneg (b * 69621 + 40503 * (c + 1) + 1) (show (2147483647 : Int) ≠ 0 by decide)
  have lb := Int.emod_lt_of_pos (b * 69621 + 40503 * (c + 1) + 1) (show (0 : Int) < 2147483647 by decide)
  generalize eB : (b * 69621 + 40503 * (c + 1) + 1) % 2147483647 = B at *
  have m3 : ∀ {h : AH}, mulUD (.int (B + 12345)) (.int B) h = .ok (.int ((B + 12345) * B)) h := o_mulR (by omega) (by omega)
  have i2 := uix2 e
  have s1 : ∀ {env : En}, kSubU env (.int (c + 1)) (.loc n) (.int 2) h = .ok env (h.set n (.lst [.int a, .int b, .int (c + 1)])) := ksub2 e
  have e1 : (h.set n (.lst [.int a, .int b, .int (c + 1)]))[n]? = some (.lst [.int a, .int b, .int (c + 1)]) := List.getElem?_set_self hn
  generalize eh1 : h.set n (.lst [.int a, .int b, .int (c + 1)]) = h1 at *
  have s2 : ∀ {env : En}, kSubU env (.int B) (.loc n) (.int 1) h1 = .ok env (h1.set n (.lst [.int a, .int B, .int (c + 1)])) := ksub1 e1
  have e2 : (h1.set n (.lst [.int a, .int B, .int (c + 1)]))[n]? = some (.lst [.int a, .int B, .int (c + 1)]) := List.getElem?_set_self (lt_of_get e1)
  have j1 := uix1 e1
  have j2 := uix2 e1
  generalize eh2 : h1.set n (.lst [.int a, .int B, .int (c + 1)]) = h2 at *
  have q0 := uix0 e2
  have q1 := uix1 e2
  have q2 := uix2 e2
  have l2 : h2.length = h.length := by rw [← eh2, ← eh1]; simp
  have hs : ∀ u : AO, h2.set n u = h.set n u := fun u => by rw [← eh2, ← eh1, List.set_set, List.set_set]
  have s3 : ∀ {env : En} {z : Int}, kSubU env (.int z) (.loc n) (.int 0) h2 = .ok env (h.set n (.lst [.int z, .int B, .int (c + 1)])) := fun {env z} => by rw [ksub0 e2, hs]
  have e2s : h2 = h.set n (.lst [.int a, .int B, .int (c + 1)]) := by rw [← eh2, ← eh1, List.set_set]
  have ei : initE 5 [D.loc n, .int k] = [some (.loc n), some (.int k), none, none, none] := rfl
  by_cases h0 : 0 < a
  · refine ⟨a % k, a / k, B, c + 1, ?_, Int.emod_nonneg _ (by omega), Int.emod_lt_of_pos _ hk, Int.ediv_nonneg ha (by omega), nb, lb⟩
    simp only [F__law_draw, m__law_draw, f_T, ei, e_Seq, e_Asg, e_Bin, e_V0, b_ok, k_Q, e_C, i2, u_add, t_ok, k_Asg, e_SubU, s1, k_Nx, go_nx, e_CB, e_Cons, j1, m1, j2, m2, e_Nil, k_Cons, u_int, d1, eB, s2, e_IfS, e_Bl, q0, o_cmp, h0, decide_true, k_Bl, k_IfS1, e_V1, d5, g_Seq2T, g_Cons, s3, g_Name, g_Nil, List.set_cons_succ, List.set_cons_zero, e_Ret, e_V2, k_Ret, go_rt, r_rt, x_ok]
    exact x_same (by simp) (by simp)
  · refine ⟨((B + 12345) * B + (c + 1)) % 2147483629 / 256 % k, a, B, c + 1, ?_, Int.emod_nonneg _ (by omega), Int.emod_lt_of_pos _ hk, ha, nb, lb⟩
    simp only [F__law_draw, m__law_draw, f_T, ei, e_Seq, e_Asg, e_Bin, e_V0, b_ok, k_Q, e_C, i2, u_add, t_ok, k_Asg, e_SubU, s1, k_Nx, go_nx, e_CB, e_Cons, j1, m1, j2, m2, e_Nil, k_Cons, u_int, d1, eB, s2, e_IfS, e_Bl, q0, o_cmp, h0, decide_false, k_Bl, k_IfS0, e_Next, q1, q2, g_Name, List.set_cons_succ, List.set_cons_zero, e_V3, m3, d2, e_V4, d3, e_V1, d4, e_Ret, k_Ret, r_rt, x_ok]
    rw [← e2s]
    exact x_same l2 (by simp)
theorem draw_ok (s : Sp3 h n) (hk : 0 < k) (hk2 : k < 1073741824) : ∃ (d : Int) (h' : AH), F__law_draw [.loc n, .int k] h = .ok (.int d) h' ∧ 0 ≤ d ∧ d < k ∧ Dr h n h' := by
  obtain ⟨a, b, c, e, ha, hb, hb2⟩ := s
  obtain ⟨d, a', b', c', q, h1, h2, h3, h4, h5⟩ := draw_run e ha hb hb2 hk hk2
  exact ⟨d, _, q, h1, h2, ⟨a', b', c', List.getElem?_set_self (lt_of_get e), h3, h4, h5⟩, List.length_set, fun i hi => List.getElem?_set_ne (Ne.symm hi)⟩
theorem of_ok {ds : List D} (s : Sp3 h n) (hk : 0 < ds.length) (hk2 : ds.length < 1000000) (hp : ∀ x ∈ ds, ∀ m, below m x = true) : ∃ (x : D) (h' : AH), F__law_of [.loc n, .lst ds] h = .ok x h' ∧ x ∈ ds ∧ Dr h n h' := by
  obtain ⟨d, h', e, h1, h2, t⟩ := draw_ok (k := (ds.length : Int)) s (by omega) (by omega)
  obtain ⟨x, ex, mx⟩ := atI_mem (l := ds) h1 (by omega)
  have hx : ixUD (.lst ds) (.int d) h' = .ok x h' := u_ixL ex
  have hb : below h.length x = true := hp x mx _
  have ei : initE 2 [D.loc n, .lst ds] = [some (.loc n), some (.lst ds)] := rfl
  have kc : kCall 2 F__law_draw [.loc n, .int ds.length] h = .ok (.int d) h' := (k_Call rfl).trans e
  refine ⟨x, h', ?_, mx, t⟩
  simp only [F__law_of, m__law_of, f_T, ei, e_Ret, e_Bin, e_V1, b_ok, k_Q, e_Call, e_Cons, e_V0, e_CB, e_Nil, k_Cons, u_lenL, kc, hx, t_ok, k_Ret, r_rt, x_ok]
  exact x_same t.2.1 hb
theorem spring_ok {ns : List Int} (hk : 0 ≤ k) (hk2 : k < 1000) (hl : ns.length ≤ 63) : ∃ a b c : Int, F__law_spring [.scr (ns.map .int), .int k] h = .ok (.loc h.length) (h ++ [.lst [.int a, .int b, .int c]]) ∧ 0 ≤ a ∧ 0 ≤ b ∧ b < 2147483647 := by
  have l1 : lenUD [.scr (ns.map .int)] h = .ok (.int ns.length) h := by simp
  have m1 : ∀ {h : AH}, mulUD (.int 7) (.int k) h = .ok (.int (7 * k)) h := o_mulL (by decide) (by decide)
  have m2 : ∀ {h : AH}, mulUD (.int 7919) (.int k) h = .ok (.int (7919 * k)) h := o_mulL (by decide) (by decide)
  have m4 : ∀ {h : AH}, mulUD (.int 11) (.int k) h = .ok (.int (11 * k)) h := o_mulL (by decide) (by decide)
  have m3 : ∀ {i : Int} {h : AH}, mulUD (.int i) (.int 48271) h = .ok (.int (i * 48271)) h := o_mulR (by decide) (by decide)
  have d1 : ∀ {i : Int} {h : AH}, modD (.int i) (.int 2147483647) h = .ok (.int (i % 2147483647)) h := o_mod (by decide)
  have p1 : ∀ {h : AH}, powD (.int 10) (.int 18) h = .ok (.int 1000000000000000000) h := fun {h} => (o_pow (by unfold CPow; decide)).trans rfl
  have hc : ∃ cell : Int, mIf (mBl (mBin (cmpD fun i j => decide (i < j)) (mVar 1) (mCB lenUD (mCons (mVar 0) mNil)))) (mBin ixUD (mVar 0) (mVar 1)) (mBin addUD (mBin mulUD (mC (.int 7)) (mVar 1)) (mC (.int 2))) (initE 5 [.scr (ns.map .int), .int k]) h = .ok (.int cell) h := by
    by_cases q : k < ns.length
    · obtain ⟨x, ex, mx⟩ := atI_mem (l := ns.map D.int) hk (by simpa using q)
      obtain ⟨i, _, rfl⟩ := List.mem_map.mp mx
      have hx : ixUD (.scr (ns.map .int)) (.int k) h = .ok (.int i) h := u_ixS ex
      exact ⟨i, by simp [initE, q, hx]⟩
    · exact ⟨7 * k + 2, by simp [initE, q, m1]⟩
  obtain ⟨cell, hc⟩ := hc
  have ct : catD (.lst (cutL (ns.map .int) none (some 8))) (.lst [.int cell]) h = .ok (cutL (ns.map .int) none (some 8) ++ [.int cell]) h := by
    rw [o_cat, if_pos]
    have : (cutL (ns.map D.int) none (some 8)).length ≤ 63 := by
      unfold cutL
      simp only [List.length_take, List.length_drop, List.length_map]
      omega
    have : (63 : Nat) + 1 ≤ sizeLine := by decide
    simp
    omega
  have hi : ∀ d ∈ cutL (ns.map D.int) none (some 8) ++ [.int cell], ∃ i, d = .int i := by
    intro d m
    rcases List.mem_append.mp m with m | m
    · obtain ⟨i, _, e⟩ := List.mem_map.mp (List.mem_of_mem_drop (List.mem_of_mem_take m))
      exact ⟨i, e.symm⟩
    · exact ⟨cell, List.mem_singleton.mp m⟩
  obtain ⟨env', h', ef, ⟨b, x, rfl, rfl, hb, hb2⟩⟩ := for_inv (g := mgName 4) (p := mAsg (mBin modD (mCB intUD (mCons (mBin addUD (mBin addUD (mBin mulUD (mVar 3) (mC (.int 48271))) (mCB intUD (mCons (mVar 4) mNil))) (mBin mulUD (mC (.int 11)) (mVar 1))) mNil)) (mC (.int 2147483647))) (mgName 3))
    (fun env h' => ∃ (b : Int) (x : Option D), env = [some (.scr (ns.map .int)), some (.int k), some (.int cell), some (.int b), x] ∧ h' = h ∧ 0 ≤ b ∧ b < 2147483647) (ds := cutL (ns.map D.int) none (some 8) ++ [.int cell])
    (env := [some (.scr (ns.map .int)), some (.int k), some (.int cell), some (.int (90001 + 7919 * k)), none]) (h := h) ⟨_, _, rfl, rfl, by omega, by omega⟩ (by
      intro d md env h1 ⟨b, x, e1, e2, h3, h4⟩
      subst e1 e2
      obtain ⟨i, rfl⟩ := hi d md
      refine ⟨_, _, _, _, rfl, ?_, (b * 48271 + i + 11 * k) % 2147483647, some (.int i), rfl, rfl, Int.emod_nonneg _ (by decide), Int.emod_lt_of_pos _ (by decide)⟩
      simp [m3, m4, d1])
  refine ⟨if cell < 0 ∨ cell ≥ 1000000000000000000 then (if cell < 0 then -cell else cell) else 0, b, 0, ?_, ?_, hb, hb2⟩
  · simp only [F__law_spring, m__law_spring, f_K, e_Seq, e_Asg, hc]
    by_cases q1 : cell < 0 <;> by_cases q2 : (1000000000000000000 : Int) ≤ cell <;> simp [initE, m2, ct, ef, p1, q1, q2]
  · split
    · split <;> omega
    · omega
end
end Tb

/-! The law's rows. -/
namespace Tb
open PySem PySem.Spec L2 Ab
open Pl (IsT IsS perms)
section
variable {h H : AH} {n m k N M : Nat} {env : En} {w : Int} {d : D}
/-- a heap of lists of things that nobody changes -/
def Fl (h : AH) : Prop := ∀ (i : Nat) (o : AO), h[i]? = some o → ∃ ds : List D, o = .lst ds ∧ ∀ q, belowL q ds = true
theorem Fl.below (f : Fl h) : h.all (AO.below n) = true := by
  rw [List.all_eq_true]
  intro o ho
  obtain ⟨i, hi, e⟩ := List.mem_iff_getElem.mp ho
  obtain ⟨ds, rfl, b⟩ := f i o (by rw [← e]; exact List.getElem?_eq_getElem hi)
  simp [AO.below, b]
theorem Sp3.fl (s : Sp3 h k) : ∃ ns : List Int, h[k]? = some (.lst (ns.map D.int)) := by
  obtain ⟨a, b, c, e, _⟩ := s
  exact ⟨[a, b, c], e⟩
theorem Fl.dr {h' : AH} (f : Fl h) (t : Dr h k h') : Fl h' := fun i o e => by
  by_cases q : i = k
  · subst q
    obtain ⟨ns, e2⟩ := Sp3.fl t.1
    rw [e] at e2; cases e2; exact ⟨_, rfl, fun q => below_ints⟩
  · rw [t.2.2 i q] at e; exact f i o e
theorem Fl.app {ns : List Int} (f : Fl h) : Fl (h ++ [.lst (ns.map D.int)]) := fun i o e => by
  rcases Nat.lt_trichotomy i h.length with q | q | q
  · rw [List.getElem?_append_left q] at e; exact f i o e
  · subst q; simp at e; exact ⟨_, e.symm, fun q => below_ints⟩
  · rw [List.getElem?_eq_none (by simp; omega)] at e; cases e
/-- while rows are drawn: the spring at k, the rows at N, all below N as it was -/
structure Lr (h : AH) (k : Nat) (rows : List Str) (H : AH) : Prop where
  sp : Sp3 H k
  len : h.length < H.length
  old : ∀ i, i < h.length → i ≠ k → H[i]? = h[i]?
  rws : H[h.length]? = some (.lst (rows.map D.str))
  kl : k < h.length
variable {rows : List Str}
theorem Lr.dr {H' : AH} (a : Lr h k rows H) (t : Dr H k H') : Lr h k rows H' := ⟨t.1, by rw [t.2.1]; exact a.len, fun i h1 h2 => (t.2.2 i h2).trans (a.old i h1 h2), (t.2.2 _ (by have := a.kl; omega)).trans a.rws, a.kl⟩
theorem Lr.app {o : AO} (a : Lr h k rows H) : Lr h k rows (H ++ [o]) := by
  have l1 := lt_of_get a.rws
  have hk := a.kl
  exact ⟨a.sp.app, by simp; omega, fun i h1 h2 => by rw [List.getElem?_append_left (by omega)]; exact a.old i h1 h2, by rw [List.getElem?_append_left l1]; exact a.rws, hk⟩
theorem Lr.set {o : AO} {M : Nat} (a : Lr h k rows H) (hM : h.length < M) : Lr h k rows (H.set M o) := by
  have hk := a.kl
  exact ⟨a.sp.set (by omega), by simp; exact a.len, fun i h1 h2 => by rw [List.getElem?_set_ne (by omega)]; exact a.old i h1 h2, by rw [List.getElem?_set_ne (by omega)]; exact a.rws, hk⟩
theorem Lr.add {s : Str} (a : Lr h k rows H) (hl : rows.length < 1000) : appendD (.loc h.length) [.str s] H = .ok .non (H.set h.length (.lst ((rows ++ [s]).map D.str))) ∧ Lr h k (rows ++ [s]) (H.set h.length (.lst ((rows ++ [s]).map D.str))) := by
  have hk := a.kl
  refine ⟨?_, a.sp.set (by omega), by simp; exact a.len, fun i h1 h2 => by rw [List.getElem?_set_ne (by omega)]; exact a.old i h1 h2, by rw [List.getElem?_set_self a.len], hk⟩
  rw [append_ok a.rws (by rw [List.length_map]; exact hl)]
  simp
abbrev rwE (k n m N : Nat) (w : Int) (x6 x7 x8 x9 x10 : Option D) : En := [some (.loc k), some (.lst (menuH.map fun p => D.tup [.int p.1, .int p.2])), some (.int n), some (.int m), some (.loc N), some (.int w), x6, x7, x8, x9, x10]
abbrev pickP : MS := mDrop (mMethT isLoc appendD (mVar 8) (mCons (mMethT isLoc popAtD (mVar 7) (mCons (mCall 2 F__law_draw (mCons (mVar 0) (mCons (mCB lenUD (mCons (mVar 7) mNil)) mNil))) mNil)) mNil))
end
end Tb

namespace Tb
open PySem PySem.Spec L2 Ab
open Pl (IsT IsS perms)
section
variable {h H : AH} {n m k c : Nat} {w : Int} {rws : List Str}
/-- a head and at most c rows -/
def Rw (rws : List Str) (n m c : Nat) : Prop := ∃ hd ts told, rws = hd :: ts ∧ HeadF hd n m ∧ All2 (RowF n) ts told ∧ ts.length ≤ c
theorem Rw.len (r : Rw rws n m c) : rws.length ≤ c + 1 := by
  obtain ⟨hd, ts, told, rfl, h1, h2, h3⟩ := r
  simp; omega
abbrev menuM : Ab.M D := (mFrz (mLst (mCons (mTup (mCons (mC (.int 2)) (mCons (mC (.int 2)) mNil))) (mCons (mTup (mCons (mC (.int 2)) (mCons (mC (.int 3)) mNil))) (mCons (mTup (mCons (mC (.int 2)) (mCons (mC (.int 4)) mNil))) (mCons (mTup (mCons (mC (.int 2)) (mCons (mC (.int 6)) mNil))) (mCons (mTup (mCons (mC (.int 3)) (mCons (mC (.int 2)) mNil))) (mCons (mTup (mCons (mC (.int 3)) (mCons (mC (.int 2)) mNil))) (mCons (mTup (mCons (mC (.int 3)) (mCons (mC (.int 3)) mNil))) (mCons (mTup (mCons (mC (.int 3)) (mCons (mC (.int 4)) mNil))) (mCons (mTup (mCons (mC (.int 4)) (mCons (mC (.int 2)) mNil))) (mCons (mTup (mCons (mC (.int 4)) (mCons (mC (.int 2)) mNil))) (mCons (mTup (mCons (mC (.int 4)) (mCons (mC (.int 3)) mNil))) (mCons (mTup (mCons (mC (.int 5)) (mCons (mC (.int 2)) mNil))) (mCons (mTup (mCons (mC (.int 1)) (mCons (mC (.int 4)) mNil))) mNil)))))))))))))))
abbrev ifAdd (l : List Int) (s : Str) : MS := mIfS (mBl (mBin (inUD false) (mVar 5) (mC (.lst (l.map D.int))))) (mDrop (mMethT isLoc appendD (mVar 4) (mCons (mC (.str s)) mNil))) mNext
end
end Tb

namespace Tb
open PySem PySem.Spec L2 Ab
def m_is_bell : MS :=
  (mRet (mCB (allD false) (mCons (mFrz (mLc (miU (mVar 0)) (mgName 1) (fun _ h => .ok true h) (mBin eqD (mVar 1) (mBin ixUD (mVar 0) (mC (.int 0)))) [1])) mNil)))
def F_is_bell : Fn := mFnT 2 m_is_bell
def m_added : MS :=
  (mRet (mCB tupleD (mCons (mFrz (mLc (miZip (mCons (mVar 0) (mCons (mVar 1) mNil))) (mgSeq 2 (mgCons (mgName 3) (mgCons (mgName 4) mgNil))) (fun _ h => .ok true h) (mBin modD (mBin addUD (mVar 3) (mVar 4)) (mVar 2)) [3, 4])) mNil)))
def F_added : Fn := mFnT 5 m_added
def m_kind_of : MS :=
  (mRet (mBin ixUD (mUn (attrD "Table" "known") (mVar 0)) (mVar 1)))
def F_kind_of : Fn := mFnT 2 m_kind_of
def m_zeros : MS :=
  (mRet (mBin mulUD (mTup (mCons (mC (.int 0)) mNil)) (mUn (attrD "Table" "many") (mVar 0))))
def F_zeros : Fn := mFnT 1 m_zeros
def m__law_behind : MS :=
  (mSeq (mAsg (mOwn (mBinF repD (mFrz (mLst (mCons (mC (.int 0)) mNil))) (mCB lenUD (mCons (mVar 1) mNil)))) (mgName 2))
  (mSeq (mFor (miRng1 (mCons (mCB lenUD (mCons (mVar 1) mNil)) mNil)) (mgName 3) (mAsg (mBin ixUD (mVar 0) (mVar 3)) (mgSubU (mVar 2) (mBin ixUD (mVar 1) (mVar 3)))))
  (mRet (mCB tupleD (mCons (mVar 2) mNil)))))
def F__law_behind : Fn := mFnT 4 m__law_behind
def m__law_sum : MS :=
  (mRet (mCB tupleD (mCons (mFrz (mLc (miRng1 (mCons (mCB lenUD (mCons (mVar 0) mNil)) mNil)) (mgName 3) (fun _ h => .ok true h) (mBin modD (mCB intUD (mCons (mBin addUD (mBin ixUD (mVar 0) (mVar 3)) (mBin ixUD (mVar 1) (mVar 3))) mNil)) (mVar 2)) [3])) mNil)))
def F__law_sum : Fn := mFnT 4 m__law_sum
def b__law_all_1 : MS :=
  (mSeq (mAsg (mFrz (mLst mNil)) (mgName 4))
  (mSeq (mFor (miU (mVar 2)) (mgName 5) (mAsg (mFrz (mBinF catD (mVar 4) (mFrz (mLc (miRng1 (mCons (mVar 1) mNil)) (mgName 6) (fun _ h => .ok true h) (mBin addUD (mVar 5) (mTup (mCons (mVar 6) mNil))) [6])))) (mgName 4)))
  (mAsg (mVar 4) (mgName 2))))
def m__law_all : MS :=
  (mSeq (mAsg (mFrz (mLst (mCons (mTup mNil) mNil))) (mgName 2))
  (mSeq (mFor (miRng1 (mCons (mVar 0) mNil)) (mgName 3) b__law_all_1)
  (mRet (mVar 2))))
def F__law_all : Fn := mFnT 7 m__law_all
def m_kinds : MS :=
  (mSeq (mDrop (mCallP 1 F_check_table (mCons (mVar 0) mNil)))
  (mRet (mUn (attrD "Table" "swept") (mVar 0))))
def F_kinds : Fn := mFnT 1 m_kinds
def b__law_class_1 : MS :=
  (mSeq (mAsg (mCallP 2 F__law_behind (mCons (mVar 2) (mCons (mVar 5) mNil))) (mgName 6))
  (mFor (miRng1 (mCons (mVar 3) mNil)) (mgName 7) (mDrop (mMethT isLoc appendD (mVar 4) (mCons (mCB tupleD (mCons (mFrz (mLc (miU (mVar 6)) (mgName 8) (fun _ h => .ok true h) (mBin modD (mCB intUD (mCons (mBin addUD (mVar 8) (mVar 7)) mNil)) (mVar 3)) [8])) mNil)) mNil)))))
def m__law_class : MS :=
  (mSeq (mAsg (mTup (mCons (mBin ixUD (mCallP 1 F__law_head (mCons (mVar 0) mNil)) (mC (.int 1))) (mCons (mOwn (mLst mNil)) mNil))) (mgSeq 2 (mgCons (mgName 3) (mgCons (mgName 4) mgNil))))
  (mSeq (mFor (miU (mVar 1)) (mgName 5) b__law_class_1)
  (mRet (mVar 4))))
def F__law_class : Fn := mFnT 9 m__law_class
def m__law_standing : MS :=
  (mSeq (mAsg (mCallP 1 F__law_head (mCons (mVar 1) mNil)) (mgSeq 2 (mgCons (mgName 2) (mgCons (mgName 3) mgNil))))
  (mRet (mCB tupleD (mCons (mFrz (mLc (miRng1 (mCons (mVar 2) mNil)) (mgName 4) (fun _ h => .ok true h) (mCall 2 F__law_draw (mCons (mVar 0) (mCons (mVar 3) mNil))) [4])) mNil))))
def F__law_standing : Fn := mFnT 5 m__law_standing
def m_are_marks : MS :=
  (mSeq (mIfS (mOrT (mNotT (mTru (mCB isiD (mCons (mVar 1) (mCons (mC (.ty "tuple")) mNil))))) (mBl (mBin neD (mCB lenUD (mCons (mVar 1) mNil)) (mUn (attrD "Table" "many") (mVar 0))))) (mRet (mC (.bl false))) mNext)
  (mRet (mCB (allD false) (mCons (mFrz (mLc (miU (mVar 1)) (mgName 2) (fun _ h => .ok true h) (mCallP 3 F_is_between (mCons (mVar 2) (mCons (mC (.int 0)) (mCons (mBin subD (mUn (attrD "Table" "size") (mVar 0)) (mC (.int 1))) mNil)))) [2])) mNil))))
def F_are_marks : Fn := mFnT 3 m_are_marks
def m_is_turn : MS :=
  (mSeq (mIfS (mOrT (mNotT (mTru (mCB isiD (mCons (mVar 1) (mCons (mC (.ty "tuple")) mNil))))) (mNotT (mTru (mCB (allD false) (mCons (mFrz (mLc (miU (mVar 1)) (mgName 2) (fun _ h => .ok true h) (mCallP 3 F_is_between (mCons (mVar 2) (mCons (mC (.int 0)) (mCons (mBin subD (mUn (attrD "Table" "many") (mVar 0)) (mC (.int 1))) mNil)))) [2])) mNil))))) (mRet (mC (.bl false))) mNext)
  (mRet (mBin (inUD false) (mVar 1) (mUn (attrD "Table" "group") (mVar 0)))))
def F_is_turn : Fn := mFnT 3 m_is_turn
def m__law_kinds_by : MS :=
  (mSeq (mAsg (mCallP 1 F__law_head (mCons (mVar 0) mNil)) (mgSeq 2 (mgCons (mgName 1) (mgCons (mgName 2) mgNil))))
  (mSeq (mPar 3 4 (mCons (mCallP 1 F__law_group (mCons (mVar 0) mNil)) (mCons mDNew mNil)))
  (mSeq (mFor (miU (mCallP 2 F__law_all (mCons (mVar 1) (mCons (mVar 2) mNil)))) (mgName 5) (mIfS (mBl (mBin (inUD true) (mVar 5) (mVar 4))) (mFor (miU (mCallP 3 F__law_class (mCons (mVar 0) (mCons (mVar 3) (mCons (mVar 5) mNil))))) (mgName 6) (mAsg (mVar 5) (mgSubU (mVar 4) (mVar 6)))) mNext))
  (mRet (mVar 4)))))
def F__law_kinds_by : Fn := mFnT 7 m__law_kinds_by
def m_check_standing : MS :=
  (mIfS (mNotT (mTru (mCallP 2 F_are_marks (mCons (mVar 0) (mCons (mVar 1) mNil))))) (fun _ _ => .bad) mNext)
def F_check_standing : Fn := mFnT 2 m_check_standing
def m_check_move : MS :=
  (mIfS (mNotT (mTru (mCallP 2 F_are_marks (mCons (mVar 0) (mCons (mVar 1) mNil))))) (fun _ _ => .bad) mNext)
def F_check_move : Fn := mFnT 2 m_check_move
def m_check_kind : MS :=
  (mIfS (mOrT (mNotT (mTru (mCallP 2 F_are_marks (mCons (mVar 0) (mCons (mVar 1) mNil))))) (mAndT (mBl (mBin (inUD true) (mVar 1) (mUn (attrD "Table" "swept") (mVar 0)))) (mBl (mBin neD (mVar 1) (mCallP 1 F_zeros (mCons (mVar 0) mNil)))))) (fun _ _ => .bad) mNext)
def F_check_kind : Fn := mFnT 2 m_check_kind
def m__law_kinds : MS :=
  (mSeq (mAsg (mCallP 1 F__law_kinds_by (mCons (mVar 0) mNil)) (mgName 1))
  (mSeq (mAsg (mFrz (mCBF sortedUD (mCons (mFrz (mLc (miU (mVar 1)) (mgName 3) (mBl (mBin eqD (mBin ixUD (mVar 1) (mVar 3)) (mVar 3))) (mVar 3) [3])) mNil))) (mgName 2))
  (mRet (mCB tupleD (mCons (mFrz (mSlL (mVar 2) (mPart (mC (.int 1))) mNoPart)) mNil)))))
def F__law_kinds : Fn := mFnT 4 m__law_kinds
def m_rings : MS :=
  (mSeq (mDrop (mCallP 1 F_check_table (mCons (mVar 0) mNil)))
  (mSeq (mDrop (mCallP 2 F_check_standing (mCons (mVar 0) (mCons (mVar 1) mNil))))
  (mRet (mCallP 1 F_is_bell (mCons (mVar 1) mNil)))))
def F_rings : Fn := mFnT 2 m_rings
def m_turned : MS :=
  (mSeq (mDrop (mCallP 1 F_check_table (mCons (mVar 0) mNil)))
  (mSeq (mDrop (mCallP 2 F_check_standing (mCons (mVar 0) (mCons (mVar 1) mNil))))
  (mSeq (mIfS (mNotT (mTru (mCallP 2 F_is_turn (mCons (mVar 0) (mCons (mVar 2) mNil))))) (fun _ _ => .bad) mNext)
  (mRet (mCallP 2 F_behind_turn (mCons (mVar 1) (mCons (mVar 2) mNil)))))))
def F_turned : Fn := mFnT 3 m_turned
def m_moved : MS :=
  (mSeq (mDrop (mCallP 1 F_check_table (mCons (mVar 0) mNil)))
  (mSeq (mDrop (mCallP 2 F_check_standing (mCons (mVar 0) (mCons (mVar 1) mNil))))
  (mSeq (mDrop (mCallP 2 F_check_move (mCons (mVar 0) (mCons (mVar 2) mNil))))
  (mRet (mCallP 3 F_added (mCons (mVar 1) (mCons (mVar 2) (mCons (mUn (attrD "Table" "size") (mVar 0)) mNil))))))))
def F_moved : Fn := mFnT 3 m_moved
def m_kind : MS :=
  (mSeq (mDrop (mCallP 1 F_check_table (mCons (mVar 0) mNil)))
  (mSeq (mDrop (mCallP 2 F_check_standing (mCons (mVar 0) (mCons (mVar 1) mNil))))
  (mRet (mCallP 2 F_kind_of (mCons (mVar 0) (mCons (mVar 1) mNil))))))
def F_kind : Fn := mFnT 2 m_kind
def m_alike : MS :=
  (mSeq (mDrop (mCallP 1 F_check_table (mCons (mVar 0) mNil)))
  (mSeq (mDrop (mCallP 2 F_check_standing (mCons (mVar 0) (mCons (mVar 1) mNil))))
  (mSeq (mDrop (mCallP 2 F_check_standing (mCons (mVar 0) (mCons (mVar 2) mNil))))
  (mRet (mBin eqD (mCallP 2 F_kind_of (mCons (mVar 0) (mCons (mVar 1) mNil))) (mCallP 2 F_kind_of (mCons (mVar 0) (mCons (mVar 2) mNil))))))))
def F_alike : Fn := mFnT 3 m_alike
def m_many : MS :=
  (mSeq (mDrop (mCallP 1 F_check_table (mCons (mVar 0) mNil)))
  (mSeq (mDrop (mCallP 2 F_check_kind (mCons (mVar 0) (mCons (mVar 1) mNil))))
  (mRet (mCB lenUD (mCons (mCallP 3 F_alike_to (mCons (mVar 1) (mCons (mUn (attrD "Table" "size") (mVar 0)) (mCons (mUn (attrD "Table" "group") (mVar 0)) mNil)))) mNil)))))
def F_many : Fn := mFnT 2 m_many
end Tb

/-! Groups of turns, alike standings, what the sweep tells. -/
namespace Pl
open Ab
section
variable {n m : Nat} {G : List (List Int)} {s t u x y z : List Int}
theorem nodup_full {α : Type} [DecidableEq α] : ∀ {l p : List α}, l.Nodup → (∀ x ∈ l, x ∈ p) → p.length ≤ l.length → ∀ x ∈ p, x ∈ l
  | [], p, _, _, hl, x, hx => by
    have : p = [] := List.length_eq_zero_iff.mp (Nat.le_zero.mp hl)
    rw [this] at hx; exact absurd hx List.not_mem_nil
  | a :: l, p, h, s, hl, x, hx => by
    rw [List.nodup_cons] at h
    have ha := s a (List.mem_cons_self ..)
    by_cases e : x = a
    · exact e ▸ List.mem_cons_self ..
    · refine List.mem_cons_of_mem _ (nodup_full (p := p.erase a) h.2 (fun y hy => (List.mem_erase_of_ne (show y ≠ a from fun e => h.1 (by rw [← e]; exact hy))).mpr (s y (List.mem_cons_of_mem _ hy))) ?_ x ((List.mem_erase_of_ne e).mpr hx))
      rw [List.length_erase_of_mem ha]
      simp only [List.length_cons] at hl
      omega
theorem ext_getD {a b : List Int} (h : a.length = n) (h' : b.length = n) (e : ∀ i, i < n → a.getD i 0 = b.getD i 0) : a = b := by
  apply List.ext_getElem (by rw [h, h'])
  intro i h1 h2
  have := e i (by rw [← h]; exact h1)
  rw [List.getD_eq_getElem?_getD, List.getD_eq_getElem?_getD, List.getElem?_eq_getElem h1, List.getElem?_eq_getElem h2] at this
  exact this
theorem comp_getD (hx : IsT n x) {p : Nat} (hp : p < n) : (comp t x).getD p 0 = t.getD (x.getD p 0).toNat 0 := by
  have hp' : p < x.length := by rw [hx.len]; exact hp
  unfold comp
  rw [List.getD_eq_getElem?_getD, List.getElem?_map, List.getD_eq_getElem?_getD (l := x), List.getElem?_eq_getElem hp']
  rfl
/-! groups -/
theorem comp_assoc (hx : IsT n x) (hy : IsT n y) : comp (comp t x) y = comp t (comp x y) := by
  have e1 : (comp (comp t x) y).length = n := by simp [comp, hy.len]
  have e2 : (comp t (comp x y)).length = n := by simp [comp, hy.len]
  refine ext_getD e1 e2 fun i hi => ?_
  have yi := hy.rng _ (getD_mem (x := y) (j := i) (by rw [hy.len]; exact hi))
  rw [comp_getD hy hi, comp_getD hx (by omega), comp_getD (isT_comp hx hy) hi, comp_getD hy hi]
theorem id_comp (hx : IsT n x) : comp (rngI n) x = x := by
  refine ext_getD (by simp [comp, hx.len]) hx.len fun i hi => ?_
  have xi := hx.rng _ (getD_mem (x := x) (j := i) (by rw [hx.len]; exact hi))
  have hk : (x.getD i 0).toNat < n := by omega
  rw [comp_getD hx hi, List.getD_eq_getElem?_getD]
  unfold rngI
  rw [List.getElem?_map, List.getElem?_range hk]
  show ((x.getD i 0).toNat : Int) = _
  omega
/-- a group of turns -/
structure Grp (n : Nat) (G : List (List Int)) : Prop where
  nod : G.Nodup
  is : ∀ t ∈ G, IsT n t
  id : rngI n ∈ G
  mul : ∀ t ∈ G, ∀ u ∈ G, comp t u ∈ G
theorem Grp.inv (g : Grp n G) (ht : t ∈ G) : ∃ u ∈ G, comp u t = rngI n := by
  -- y ↦ t ∘ y is one to one on G, so it reaches the identity; what it reaches it by is t's inverse on the right, and so on the left
  have inj : ∀ t ∈ G, ∃ u ∈ G, comp t u = rngI n := fun t ht => by
    have nd : (G.map (comp t)).Nodup := nodup_map g.nod fun a ha b hb e => by
      have ia := g.is a ha
      have ib := g.is b hb
      refine ext_getD ia.len ib.len fun i hi => ?_
      have a1 := ia.rng _ (getD_mem (x := a) (j := i) (by rw [ia.len]; exact hi))
      have b1 := ib.rng _ (getD_mem (x := b) (j := i) (by rw [ib.len]; exact hi))
      have e2 : (comp t a).getD i 0 = (comp t b).getD i 0 := by rw [e]
      rw [comp_getD ia hi, comp_getD ib hi] at e2
      have it := g.is t ht
      have := getD_inj it.nod (by rw [it.len]; omega) (by rw [it.len]; omega) e2
      omega
    have := nodup_full nd (fun x hx => by
      obtain ⟨y, hy, rfl⟩ := List.mem_map.mp hx
      exact g.mul t ht y hy) (by simp) (rngI n) g.id
    obtain ⟨y, hy, e⟩ := List.mem_map.mp this
    exact ⟨y, hy, e⟩
  obtain ⟨u, hu, e⟩ := inj t ht
  obtain ⟨v, hv, e2⟩ := inj u hu
  refine ⟨u, hu, ?_⟩
  -- u t = u t (u v) = u (t u) v = u v = id
  have it := g.is t ht
  have iu := g.is u hu
  have iv := g.is v hv
  have c1 : comp (comp u t) (comp u v) = comp u t := by
    rw [e2]
    refine ext_getD (n := n) (by simp [comp, it.len]) (by simp [comp, it.len]) fun i hi => ?_
    rw [comp_getD (isT_id n) hi]
    congr 1
    rw [List.getD_eq_getElem?_getD]
    unfold rngI
    rw [List.getElem?_map, List.getElem?_range hi]
    rfl
  rw [← c1, comp_assoc it (isT_comp iu iv), ← comp_assoc iu iv, e, id_comp iv, e2]
theorem Closure.grp {told L : List (List Int)} (c : Closure n told L) (ht : ∀ t ∈ told, IsT n t) : Grp n L := by
  refine ⟨c.nod, fun t h => (c.rch t h).isT ht, c.id, fun t h u hu => ?_⟩
  have ru := c.rch u hu
  have iu := ru.isT ht
  have : ∀ {x}, Reach n told x → Reach n told (comp x u) := by
    intro x r
    induction r with
    | id => rw [id_comp iu]; exact ru
    | step r h ih => rw [comp_assoc (r.isT ht) iu]; exact .step ih h
  exact c.all (this (c.rch t h))
/-! alike -/
end
end Pl

/-! What the sweep by a group tells: each standing's first alike one. -/
namespace Pl
open Ab
section
variable {n m : Nat} {G : List (List Int)} {s t u x y z : List Int} {A : Asc}
structure Part (n m : Nat) (G : List (List Int)) (A : Asc) : Prop where
  sw : Sw n m G A
  cls : ∀ x ∈ A.map (·.1), ∀ y ∈ alikeP x m G, y ∈ A.map (·.1)
  rel : ∀ p ∈ A, p.1 ∈ alikeP p.2 m G
  slf : ∀ p ∈ A, (p.2, p.2) ∈ A
  inv : ∀ p ∈ A, ∀ y ∈ alikeP p.2 m G, (y, p.2) ∈ A
end
end Pl

/-! The law's own turning, rows of marks, classes. -/
namespace Tb
open PySem PySem.Spec L2 Ab
open Pl (IsT IsS Sw Asc allP alikeP sweepP sweepS putP orbit dd Closure)
section
variable {n m : Nat} {h : AH} {x t : List Int}
end
end Tb

namespace Tb
open PySem PySem.Spec L2 Ab
open Pl (IsT IsS Sw Asc allP alikeP sweepP sweepS putP orbit dd Closure)
section
variable {n m : Nat} {h : AH} {G : List (List Int)} {s : List Int}
end
end Tb

namespace Pl
open Ab
section
variable {s x : List Int} {A : Asc}
/-- x has the value s -/
def Has (s x : List Int) (A : Asc) : Prop := x ∈ A.map (·.1) ∧ ∀ p ∈ A, p.1 = x → p.2 = s
end
end Pl
namespace Tb
open PySem PySem.Spec L2 Ab
open Pl (IsT IsS Sw Asc allP alikeP sweepP sweepS putP orbit dd Closure)
section
variable {n m : Nat} {h : AH}
end
end Tb

namespace Pl
open Ab
section
variable {n m : Nat} {G : List (List Int)} {A : Asc}
end
end Pl
namespace Tb
open PySem PySem.Spec L2 Ab
open Pl (IsT IsS Sw Asc allP alikeP sweepP sweepS putP orbit dd Closure Grp)
section
variable {n m : Nat} {h : AH} {G : List (List Int)}
end
end Tb

namespace Tb
open PySem PySem.Spec L2 Ab
open Pl (IsT IsS Sw Asc allP alikeP sweepP sweepS putP orbit dd Closure Grp Part)
section
variable {n m : Nat} {h : AH} {G : List (List Int)} {rs : List Str} {s : List Int}
end
end Tb

namespace Tb
open PySem PySem.Spec L2 Ab
open Pl (IsT IsS Sw Asc allP alikeP sweepP sweepS putP orbit dd Closure Grp Part)
section
variable {n m : Nat} {h : AH} {G : List (List Int)} {rs : List Str} {s t : List Int}
end
end Tb

namespace Tb
open PySem PySem.Spec L2 Ab
open Pl (IsT IsS Sw Asc allP alikeP sweepP sweepS putP orbit dd Closure Grp Part)
section
variable {n m : Nat} {h : AH} {G : List (List Int)} {rs : List Str} {s t k : List Int}
end
end Tb

namespace Tb
open PySem PySem.Spec L2 Ab
open Pl (IsT IsS Sw Asc allP alikeP sweepP sweepS putP orbit dd Closure Grp Part)
section
variable {n m : Nat} {h : AH} {G : List (List Int)} {rs : List Str} {s : List Int}
def bellB (s : List Int) : Bool := (s.map fun x => decide (x = s.getD 0 0)).all id
end
end Tb

namespace Tb
open PySem PySem.Spec L2 Ab
open Pl (IsT IsS Sw Asc allP alikeP sweepP sweepS putP orbit dd Closure Grp Part)
section
variable {n m : Nat} {h : AH} {G : List (List Int)} {rs : List Str} {s v : List Int}
/-- one mark to the other -/
def addP (s v : List Int) (m : Nat) : List Int := (Pl.rngI s.length).map fun k => (s.getD k.toNat 0 + v.getD k.toNat 0) % m
end
end Tb

namespace Tb
open PySem PySem.Spec L2 Ab
open Pl (IsT IsS Sw Asc allP alikeP sweepP sweepS putP orbit dd Closure Grp Part)
section
variable {n m : Nat} {h : AH} {G : List (List Int)} {rs : List Str} {s v : List Int}
end
end Tb

namespace Tb
open PySem PySem.Spec L2 Ab
open Pl (IsT IsS Sw Asc allP alikeP sweepP sweepS putP orbit dd Closure Grp Part)
section
variable {n m k : Nat} {h : AH}
end
end Tb

/-! Counting by value; alike standings have one kind. -/
namespace Pl
open Ab
section
variable {n m : Nat} {G : List (List Int)} {A : Asc} {x y v : List Int}
end
end Pl

namespace Ab
open PySem PySem.Spec L2
theorem e_V11 {o0 o1 o2 o3 o4 o5 o6 o7 o8 o9 o10 : Option D} {r : En} {d : D} {h : AH} : mVar 11 (o0 :: o1 :: o2 :: o3 :: o4 :: o5 :: o6 :: o7 :: o8 :: o9 :: o10 :: some d :: r) h = .ok d h := rfl.trans rfl
theorem e_V12 {o0 o1 o2 o3 o4 o5 o6 o7 o8 o9 o10 o11 : Option D} {r : En} {d : D} {h : AH} : mVar 12 (o0 :: o1 :: o2 :: o3 :: o4 :: o5 :: o6 :: o7 :: o8 :: o9 :: o10 :: o11 :: some d :: r) h = .ok d h := rfl.trans rfl
theorem e_V13 {o0 o1 o2 o3 o4 o5 o6 o7 o8 o9 o10 o11 o12 : Option D} {r : En} {d : D} {h : AH} : mVar 13 (o0 :: o1 :: o2 :: o3 :: o4 :: o5 :: o6 :: o7 :: o8 :: o9 :: o10 :: o11 :: o12 :: some d :: r) h = .ok d h := rfl.trans rfl
theorem e_V14 {o0 o1 o2 o3 o4 o5 o6 o7 o8 o9 o10 o11 o12 o13 : Option D} {r : En} {d : D} {h : AH} : mVar 14 (o0 :: o1 :: o2 :: o3 :: o4 :: o5 :: o6 :: o7 :: o8 :: o9 :: o10 :: o11 :: o12 :: o13 :: some d :: r) h = .ok d h := rfl.trans rfl
theorem e_V15 {o0 o1 o2 o3 o4 o5 o6 o7 o8 o9 o10 o11 o12 o13 o14 : Option D} {r : En} {d : D} {h : AH} : mVar 15 (o0 :: o1 :: o2 :: o3 :: o4 :: o5 :: o6 :: o7 :: o8 :: o9 :: o10 :: o11 :: o12 :: o13 :: o14 :: some d :: r) h = .ok d h := rfl.trans rfl
theorem e_V16 {o0 o1 o2 o3 o4 o5 o6 o7 o8 o9 o10 o11 o12 o13 o14 o15 : Option D} {r : En} {d : D} {h : AH} : mVar 16 (o0 :: o1 :: o2 :: o3 :: o4 :: o5 :: o6 :: o7 :: o8 :: o9 :: o10 :: o11 :: o12 :: o13 :: o14 :: o15 :: some d :: r) h = .ok d h := rfl.trans rfl
theorem e_V17 {o0 o1 o2 o3 o4 o5 o6 o7 o8 o9 o10 o11 o12 o13 o14 o15 o16 : Option D} {r : En} {d : D} {h : AH} : mVar 17 (o0 :: o1 :: o2 :: o3 :: o4 :: o5 :: o6 :: o7 :: o8 :: o9 :: o10 :: o11 :: o12 :: o13 :: o14 :: o15 :: o16 :: some d :: r) h = .ok d h := rfl.trans rfl
theorem e_V18 {o0 o1 o2 o3 o4 o5 o6 o7 o8 o9 o10 o11 o12 o13 o14 o15 o16 o17 : Option D} {r : En} {d : D} {h : AH} : mVar 18 (o0 :: o1 :: o2 :: o3 :: o4 :: o5 :: o6 :: o7 :: o8 :: o9 :: o10 :: o11 :: o12 :: o13 :: o14 :: o15 :: o16 :: o17 :: some d :: r) h = .ok d h := rfl.trans rfl
theorem e_V19 {o0 o1 o2 o3 o4 o5 o6 o7 o8 o9 o10 o11 o12 o13 o14 o15 o16 o17 o18 : Option D} {r : En} {d : D} {h : AH} : mVar 19 (o0 :: o1 :: o2 :: o3 :: o4 :: o5 :: o6 :: o7 :: o8 :: o9 :: o10 :: o11 :: o12 :: o13 :: o14 :: o15 :: o16 :: o17 :: o18 :: some d :: r) h = .ok d h := rfl.trans rfl
theorem e_V20 {o0 o1 o2 o3 o4 o5 o6 o7 o8 o9 o10 o11 o12 o13 o14 o15 o16 o17 o18 o19 : Option D} {r : En} {d : D} {h : AH} : mVar 20 (o0 :: o1 :: o2 :: o3 :: o4 :: o5 :: o6 :: o7 :: o8 :: o9 :: o10 :: o11 :: o12 :: o13 :: o14 :: o15 :: o16 :: o17 :: o18 :: o19 :: some d :: r) h = .ok d h := rfl.trans rfl
theorem e_V21 {o0 o1 o2 o3 o4 o5 o6 o7 o8 o9 o10 o11 o12 o13 o14 o15 o16 o17 o18 o19 o20 : Option D} {r : En} {d : D} {h : AH} : mVar 21 (o0 :: o1 :: o2 :: o3 :: o4 :: o5 :: o6 :: o7 :: o8 :: o9 :: o10 :: o11 :: o12 :: o13 :: o14 :: o15 :: o16 :: o17 :: o18 :: o19 :: o20 :: some d :: r) h = .ok d h := rfl.trans rfl
theorem e_V22 {o0 o1 o2 o3 o4 o5 o6 o7 o8 o9 o10 o11 o12 o13 o14 o15 o16 o17 o18 o19 o20 o21 : Option D} {r : En} {d : D} {h : AH} : mVar 22 (o0 :: o1 :: o2 :: o3 :: o4 :: o5 :: o6 :: o7 :: o8 :: o9 :: o10 :: o11 :: o12 :: o13 :: o14 :: o15 :: o16 :: o17 :: o18 :: o19 :: o20 :: o21 :: some d :: r) h = .ok d h := rfl.trans rfl
theorem e_V23 {o0 o1 o2 o3 o4 o5 o6 o7 o8 o9 o10 o11 o12 o13 o14 o15 o16 o17 o18 o19 o20 o21 o22 : Option D} {r : En} {d : D} {h : AH} : mVar 23 (o0 :: o1 :: o2 :: o3 :: o4 :: o5 :: o6 :: o7 :: o8 :: o9 :: o10 :: o11 :: o12 :: o13 :: o14 :: o15 :: o16 :: o17 :: o18 :: o19 :: o20 :: o21 :: o22 :: some d :: r) h = .ok d h := rfl.trans rfl
theorem e_V24 {o0 o1 o2 o3 o4 o5 o6 o7 o8 o9 o10 o11 o12 o13 o14 o15 o16 o17 o18 o19 o20 o21 o22 o23 : Option D} {r : En} {d : D} {h : AH} : mVar 24 (o0 :: o1 :: o2 :: o3 :: o4 :: o5 :: o6 :: o7 :: o8 :: o9 :: o10 :: o11 :: o12 :: o13 :: o14 :: o15 :: o16 :: o17 :: o18 :: o19 :: o20 :: o21 :: o22 :: o23 :: some d :: r) h = .ok d h := rfl.trans rfl
theorem e_V25 {o0 o1 o2 o3 o4 o5 o6 o7 o8 o9 o10 o11 o12 o13 o14 o15 o16 o17 o18 o19 o20 o21 o22 o23 o24 : Option D} {r : En} {d : D} {h : AH} : mVar 25 (o0 :: o1 :: o2 :: o3 :: o4 :: o5 :: o6 :: o7 :: o8 :: o9 :: o10 :: o11 :: o12 :: o13 :: o14 :: o15 :: o16 :: o17 :: o18 :: o19 :: o20 :: o21 :: o22 :: o23 :: o24 :: some d :: r) h = .ok d h := rfl.trans rfl
theorem e_V26 {o0 o1 o2 o3 o4 o5 o6 o7 o8 o9 o10 o11 o12 o13 o14 o15 o16 o17 o18 o19 o20 o21 o22 o23 o24 o25 : Option D} {r : En} {d : D} {h : AH} : mVar 26 (o0 :: o1 :: o2 :: o3 :: o4 :: o5 :: o6 :: o7 :: o8 :: o9 :: o10 :: o11 :: o12 :: o13 :: o14 :: o15 :: o16 :: o17 :: o18 :: o19 :: o20 :: o21 :: o22 :: o23 :: o24 :: o25 :: some d :: r) h = .ok d h := rfl.trans rfl
theorem e_V27 {o0 o1 o2 o3 o4 o5 o6 o7 o8 o9 o10 o11 o12 o13 o14 o15 o16 o17 o18 o19 o20 o21 o22 o23 o24 o25 o26 : Option D} {r : En} {d : D} {h : AH} : mVar 27 (o0 :: o1 :: o2 :: o3 :: o4 :: o5 :: o6 :: o7 :: o8 :: o9 :: o10 :: o11 :: o12 :: o13 :: o14 :: o15 :: o16 :: o17 :: o18 :: o19 :: o20 :: o21 :: o22 :: o23 :: o24 :: o25 :: o26 :: some d :: r) h = .ok d h := rfl.trans rfl
theorem e_V28 {o0 o1 o2 o3 o4 o5 o6 o7 o8 o9 o10 o11 o12 o13 o14 o15 o16 o17 o18 o19 o20 o21 o22 o23 o24 o25 o26 o27 : Option D} {r : En} {d : D} {h : AH} : mVar 28 (o0 :: o1 :: o2 :: o3 :: o4 :: o5 :: o6 :: o7 :: o8 :: o9 :: o10 :: o11 :: o12 :: o13 :: o14 :: o15 :: o16 :: o17 :: o18 :: o19 :: o20 :: o21 :: o22 :: o23 :: o24 :: o25 :: o26 :: o27 :: some d :: r) h = .ok d h := rfl.trans rfl
theorem e_V29 {o0 o1 o2 o3 o4 o5 o6 o7 o8 o9 o10 o11 o12 o13 o14 o15 o16 o17 o18 o19 o20 o21 o22 o23 o24 o25 o26 o27 o28 : Option D} {r : En} {d : D} {h : AH} : mVar 29 (o0 :: o1 :: o2 :: o3 :: o4 :: o5 :: o6 :: o7 :: o8 :: o9 :: o10 :: o11 :: o12 :: o13 :: o14 :: o15 :: o16 :: o17 :: o18 :: o19 :: o20 :: o21 :: o22 :: o23 :: o24 :: o25 :: o26 :: o27 :: o28 :: some d :: r) h = .ok d h := rfl.trans rfl
theorem e_V30 {o0 o1 o2 o3 o4 o5 o6 o7 o8 o9 o10 o11 o12 o13 o14 o15 o16 o17 o18 o19 o20 o21 o22 o23 o24 o25 o26 o27 o28 o29 : Option D} {r : En} {d : D} {h : AH} : mVar 30 (o0 :: o1 :: o2 :: o3 :: o4 :: o5 :: o6 :: o7 :: o8 :: o9 :: o10 :: o11 :: o12 :: o13 :: o14 :: o15 :: o16 :: o17 :: o18 :: o19 :: o20 :: o21 :: o22 :: o23 :: o24 :: o25 :: o26 :: o27 :: o28 :: o29 :: some d :: r) h = .ok d h := rfl.trans rfl
/-- a spring's def: at place 0 the spring -/
def Ev (N k : Nat) (E : En) : Prop := ∃ l : En, E = some (.loc k) :: l ∧ l.length = N
theorem k_L0 {h : AH} : kLst [] h = .ok [] h := k_Lst (by simp)
theorem k_T0 {h : AH} : kTup [] h = .ok (.tup []) h := k_Tup (by simp)
theorem k_L1 {a0 : D} {h : AH} : kLst [a0] h = .ok [a0] h := k_Lst (by simp)
theorem k_T1 {a0 : D} {h : AH} : kTup [a0] h = .ok (.tup [a0]) h := k_Tup (by simp)
theorem k_L2 {a0 a1 : D} {h : AH} : kLst [a0, a1] h = .ok [a0, a1] h := k_Lst (by simp)
theorem k_T2 {a0 a1 : D} {h : AH} : kTup [a0, a1] h = .ok (.tup [a0, a1]) h := k_Tup (by simp)
theorem k_L3 {a0 a1 a2 : D} {h : AH} : kLst [a0, a1, a2] h = .ok [a0, a1, a2] h := k_Lst (by simp)
theorem k_T3 {a0 a1 a2 : D} {h : AH} : kTup [a0, a1, a2] h = .ok (.tup [a0, a1, a2]) h := k_Tup (by simp)
theorem k_L4 {a0 a1 a2 a3 : D} {h : AH} : kLst [a0, a1, a2, a3] h = .ok [a0, a1, a2, a3] h := k_Lst (by simp)
theorem k_T4 {a0 a1 a2 a3 : D} {h : AH} : kTup [a0, a1, a2, a3] h = .ok (.tup [a0, a1, a2, a3]) h := k_Tup (by simp)
theorem k_L5 {a0 a1 a2 a3 a4 : D} {h : AH} : kLst [a0, a1, a2, a3, a4] h = .ok [a0, a1, a2, a3, a4] h := k_Lst (by simp)
theorem k_T5 {a0 a1 a2 a3 a4 : D} {h : AH} : kTup [a0, a1, a2, a3, a4] h = .ok (.tup [a0, a1, a2, a3, a4]) h := k_Tup (by simp)
theorem k_L6 {a0 a1 a2 a3 a4 a5 : D} {h : AH} : kLst [a0, a1, a2, a3, a4, a5] h = .ok [a0, a1, a2, a3, a4, a5] h := k_Lst (by simp)
theorem k_T6 {a0 a1 a2 a3 a4 a5 : D} {h : AH} : kTup [a0, a1, a2, a3, a4, a5] h = .ok (.tup [a0, a1, a2, a3, a4, a5]) h := k_Tup (by simp)
theorem k_L7 {a0 a1 a2 a3 a4 a5 a6 : D} {h : AH} : kLst [a0, a1, a2, a3, a4, a5, a6] h = .ok [a0, a1, a2, a3, a4, a5, a6] h := k_Lst (by simp)
theorem k_T7 {a0 a1 a2 a3 a4 a5 a6 : D} {h : AH} : kTup [a0, a1, a2, a3, a4, a5, a6] h = .ok (.tup [a0, a1, a2, a3, a4, a5, a6]) h := k_Tup (by simp)
theorem k_L8 {a0 a1 a2 a3 a4 a5 a6 a7 : D} {h : AH} : kLst [a0, a1, a2, a3, a4, a5, a6, a7] h = .ok [a0, a1, a2, a3, a4, a5, a6, a7] h := k_Lst (by simp)
theorem k_T8 {a0 a1 a2 a3 a4 a5 a6 a7 : D} {h : AH} : kTup [a0, a1, a2, a3, a4, a5, a6, a7] h = .ok (.tup [a0, a1, a2, a3, a4, a5, a6, a7]) h := k_Tup (by simp)
theorem p_1_0 {a0 d : D} : permL 0 1 [0] d [] [a0] = [a0] := rfl.trans rfl
theorem p_2_01 {a0 a1 d : D} : permL 0 2 [0, 1] d [] [a0, a1] = [a0, a1] := rfl.trans rfl
theorem p_2_10 {a0 a1 d : D} : permL 0 2 [1, 0] d [] [a0, a1] = [a1, a0] := rfl.trans rfl
theorem p_3_012 {a0 a1 a2 d : D} : permL 0 3 [0, 1, 2] d [] [a0, a1, a2] = [a0, a1, a2] := rfl.trans rfl
theorem p_3_021 {a0 a1 a2 d : D} : permL 0 3 [0, 2, 1] d [] [a0, a1, a2] = [a0, a2, a1] := rfl.trans rfl
theorem p_3_102 {a0 a1 a2 d : D} : permL 0 3 [1, 0, 2] d [] [a0, a1, a2] = [a1, a0, a2] := rfl.trans rfl
theorem p_3_120 {a0 a1 a2 d : D} : permL 0 3 [1, 2, 0] d [] [a0, a1, a2] = [a1, a2, a0] := rfl.trans rfl
theorem p_3_201 {a0 a1 a2 d : D} : permL 0 3 [2, 0, 1] d [] [a0, a1, a2] = [a2, a0, a1] := rfl.trans rfl
theorem p_3_210 {a0 a1 a2 d : D} : permL 0 3 [2, 1, 0] d [] [a0, a1, a2] = [a2, a1, a0] := rfl.trans rfl
end Ab
namespace Tb
open PySem PySem.Spec L2 Ab
open Pl (IsT IsS Sw Asc allP alikeP sweepP sweepS putP orbit dd Closure Grp Part)
section
variable {n m k : Nat} {h : AH} {G : List (List Int)} {rs : List Str} {s v : List Int}
/-- a table as the laws draw it -/
structure Tab (rs : List Str) (n m : Nat) (G : List (List Int)) : Prop where
  r : ∃ told, Rows rs n m told
  rw : Rw rs n m 3
  h1 : 1 ≤ n
  hn : n ≤ 5
  m2 : 2 ≤ m
  m9 : m ≤ 9
  hp : m ^ n ≤ 288
  g : Grp n G
  lg : G.length ≤ 120
  so : sortT G = G
  made : ∀ h, callP 1 F__law_made [.lst (rs.map D.str)] h = .ok (tblD rs n m G) h
  grp : ∀ h, callP 1 F__law_group [.lst (rs.map D.str)] h = .ok (.lst (G.map tupI)) h
  head : ∀ h, callP 1 F__law_head [.lst (rs.map D.str)] h = .ok (.lst [.int n, .int m]) h
  kby : ∀ h, callP 1 F__law_kinds_by [.lst (rs.map D.str)] h = .ok (.dic ((sweepP n m G).map fun p => kI p.1) ((sweepP n m G).map fun p => tupI p.2)) h
  knd : ∀ h, callP 1 F__law_kinds [.lst (rs.map D.str)] h = .ok (.tup ((sortT (kindsP n m G)).map tupI)) h
theorem Tab.m0 (T : Tab rs n m G) : 0 < m := by have := T.m2; omega
end
end Tb

namespace Ab
open PySem PySem.Spec L2
mutual
theorem below_mono {q : Nat} : ∀ {d : D}, below 0 d = true → below q d = true
  | .tup ds, h => by simp only [below] at h ⊢; exact belowL_mono h
  | .lst ds, h => by simp only [below] at h ⊢; exact belowL_mono h
  | .scr ds, h => by simp only [below] at h ⊢; exact belowL_mono h
  | .obj _ _ ds, h => by simp only [below] at h ⊢; exact belowL_mono h
  | .dic _ ds, h => by simp only [below] at h ⊢; exact belowL_mono h
  | .nd _ ds, h => by simp only [below] at h ⊢; exact belowL_mono h
  | .exv _ _ ds, h => by simp only [below] at h ⊢; exact belowL_mono h
  | .loc n, h => by simp [below] at h
  | .fn _, _ => by simp [below]
  | .dk _, _ => by simp [below]
  | .non, _ => by simp [below]
  | .bl _, _ => by simp [below]
  | .int _, _ => by simp [below]
  | .str _, _ => by simp [below]
  | .ty _, _ => by simp [below]
  | .glo _, _ => by simp [below]
theorem belowL_mono {q : Nat} : ∀ {ds : List D}, belowL 0 ds = true → belowL q ds = true
  | [], _ => rfl
  | d :: ds, h => by
    simp only [belowL, Bool.and_eq_true] at h ⊢
    exact ⟨below_mono h.1, belowL_mono h.2⟩
end
end Ab
namespace Tb
open PySem PySem.Spec L2 Ab
section
theorem lc_trueI {env : En} {g : MG} {e : Ab.M D} (I : AH → Prop) : ∀ {ds : List D} {h : AH}, I h → (∀ d ∈ ds, ∀ h, I h → ∃ env1 h1 h', g d env h = .ok env1 h1 ∧ e env1 h1 = .ok (.bl true) h' ∧ I h') → ∃ h', lcItems g (fun _ h => .ok true h) e env ds h = .ok (List.replicate ds.length (.bl true)) h'
  | [], h, _, _ => ⟨h, rfl⟩
  | d :: ds, h, i, st => by
    obtain ⟨env1, h1, h2, e1, e2, i2⟩ := st d (List.mem_cons_self ..) h i
    obtain ⟨h3, e3⟩ := lc_trueI I (ds := ds) (h := h2) i2 fun d hd => st d (List.mem_cons_of_mem _ hd)
    exact ⟨h3, by rw [lc_cons, e1]; simp [e2, e3, List.replicate_succ]⟩
theorem manyW {L : Nat} {W : Int} (hW : 2 ≤ W) : ∃ w : Int, 2 ≤ w ∧ w ≤ W ∧ ∀ h, max2D [.int 2, .int (if W < L then W else L)] h = .ok (.int w) h := by
  have hle : (if W < (L : Int) then W else (L : Int)) ≤ W := by
    by_cases p : W < (L : Int)
    · rw [if_pos p]; omega
    · rw [if_neg p]; omega
  generalize (if W < (L : Int) then W else (L : Int)) = x at *
  by_cases q : (2 : Int) < x
  · exact ⟨x, by omega, hle, fun h => by rw [o_max2, if_pos q]⟩
  · exact ⟨2, by omega, hW, fun h => by rw [o_max2, if_neg q]⟩
abbrev tailP (W : Int) (iv : Nat) (FR FS : Fn) : MS := mRet (mCB (allD false) (mCons (mFrz (mLc (miRng1 (mCons (mCB max2D (mCons (mC (.int 2)) (mCons (mCB min2D (mCons (mCB lenUD (mCons (mVar 0) mNil)) (mCons (mC (.int W)) mNil))) mNil))) mNil)) (mgName iv) (fun _ h => .ok true h) (mCall 1 FR (mCons (mCall 2 FS (mCons (mVar 0) (mCons (mVar iv) mNil))) mNil)) [iv])) mNil))
theorem fl_nil : Fl [] := fun i o e => by cases e
/-- the law's last row: all springs -/
theorem tail {FR FS : Fn} (hS : FS = F__law_spring) (hR : ∀ h k, Sp3 h k → Fl h → ∃ h', FR [.loc k] h = .ok (.bl true) h' ∧ Fl h') {W : Int} (hW : 2 ≤ W) (hW2 : W ≤ 20) {iv : Nat} {r : En} {ns : List Int} (hl : ns.length ≤ 63) (hi : iv ≤ r.length) (h0 : iv ≠ 0) {h : AH} (fl0 : Fl h) : ∃ h', tailP W iv FR FS (some (.scr (ns.map .int)) :: r) h = .rt (.bl true) h' := by
  subst hS
  obtain ⟨w, w1, w2, ew⟩ := manyW (L := ns.length) hW
  have l1 : lenUD [.scr (ns.map .int)] h = .ok (.int ns.length) h := by simp
  have l2 : min2D [.int ns.length, .int W] h = .ok (.int (if W < ns.length then W else ns.length)) h := rfl
  have hr : (rngD 0 w).length ≤ sizeLine := by rw [rngD_len]; exact small_line (by omega)
  obtain ⟨j, rfl⟩ : ∃ j, iv = j + 1 := ⟨iv - 1, by omega⟩
  obtain ⟨h', lc⟩ := lc_trueI (g := mgName (j + 1)) (e := mCall 1 FR (mCons (mCall 2 F__law_spring (mCons (mVar 0) (mCons (mVar (j + 1)) mNil))) mNil)) (env := some (.scr (ns.map .int)) :: r.set j none) Fl (ds := rngD 0 w) (h := h) fl0 (by
    intro d md h fh
    obtain ⟨i, rfl, i1, i2⟩ := rngD_mem md
    obtain ⟨a, b, c, e, a1, b1, b2⟩ := spring_ok (h := h) (ns := ns) (k := i) i1 (by omega) hl
    have f2 : Fl (h ++ [.lst [.int a, .int b, .int c]]) := fh.app (ns := [a, b, c])
    obtain ⟨h2, e2, f3⟩ := hR _ _ (sp3_new (h := h) (c := c) a1 b1 b2) f2
    have k1 : kCall 2 F__law_spring [.scr (ns.map .int), .int i] h = .ok (.loc h.length) (h ++ [.lst [.int a, .int b, .int c]]) := (k_Call rfl).trans e
    have k2 : kCall 1 FR [.loc h.length] (h ++ [.lst [.int a, .int b, .int c]]) = .ok (.bl true) h2 := (k_Call rfl).trans e2
    refine ⟨some (.scr (ns.map .int)) :: (r.set j none).set j (some (.int i)), _, h2, rfl, ?_, f3⟩
    have ev : ∀ h, mVar (j + 1) (some (.scr (ns.map .int)) :: (r.set j none).set j (some (.int i))) h = .ok (.int i) h := fun h => e_V (by
      rw [List.getElem?_cons_succ, List.getElem?_set_self (by rw [List.length_set]; omega)])
    simp only [e_Call, e_Cons, e_V0, ev, b_ok, k_Q, e_Nil, k_Cons, k1, k2])
  refine ⟨h', ?_⟩
  simp only [e_Ret, e_CB, e_Cons, e_Frz, e_Lc, i_R1, e_C, e_V0, b_ok, k_Q, e_Nil, k_Cons, l1, l2, ew, k_R1 (show -(2 ^ 62) ≤ w by omega) (show w < 2 ^ 62 by omega), wipe_cons, wipe_nil, List.set_cons_succ, k_Lc hr]
  rw [lc]
  simp only [b_ok, k_Frz, k_Q, e_Nil, k_Cons, all_true, t_ok, k_Ret]
/-- a law, behind its closed rows -/
theorem law_of {F : Fn} {N : Nat} {m : MS} {ns : List Int} {h2 : AH} (hF : F = mFnT N m) (e : m (initE N [.scr (ns.map .int)]) [] = .rt (.bl true) h2) : ∃ h', F [.scr (ns.map Ab.D.int)] [] = .ok (.bl true) h' := by
  obtain ⟨h3, e3⟩ := x_bl (h := h2) (n := ([] : AH).length) (b := true)
  exact ⟨h3, by rw [hF, f_T, e, r_rt, x_ok, e3]⟩
end
end Tb

namespace Tb
open PySem PySem.Spec L2 Ab
open Pl (IsT IsS dd allP)
section
variable {γ : Type} {h : AH} {env : En} {n m : Nat}
abbrev ddS (acc : List (List Int)) (x : List Int) : List (List Int) := if x ∈ acc then acc else acc ++ [x]
end
end Tb

/-! Kinds, what may be left: plain. -/
namespace Tb
open PySem PySem.Spec L2 Ab
open Pl (IsT IsS Sw Asc allP alikeP sweepP dd Grp Part comp)
section
variable {n m : Nat} {G lot : List (List Int)} {rs : List Str} {s t u v x y : List Int}
/-- the kind of a standing -/
def kindP (n m : Nat) (G : List (List Int)) (s : List Int) : List Int := match (sweepP n m G).find? (fun p => decide (p.1 = s)) with
  | some p => p.2
  | none => []
theorem Tab.kinds_isS (T : Tab rs n m G) (h : v ∈ kindsP n m G) : IsS n m v := Tb.kinds_isS T.m0 h
/-! sums -/
/-! the bell -/
/-! what may be left -/
def outP (m : Nat) (G : List (List Int)) (k v : List Int) : List (List Int) := dd [] (G.map fun t => addP (Pl.behindP k t) v m)
def someP (m : Nat) (G lot : List (List Int)) (v : List Int) : List (List Int) := lot.flatMap fun k => (outP m G k v).filter fun s => !bellB s
def leftP (n m : Nat) (G lot : List (List Int)) (v : List Int) : List (List Int) := sortT (dd [] ((someP m G lot v).map (kindP n m G)))
/-- a lot: kinds, none twice -/
structure Lot (n m : Nat) (G lot : List (List Int)) : Prop where
  sub : ∀ k ∈ lot, k ∈ kindsP n m G
  nod : lot.Nodup
  up : UpT lot
theorem Lot.is (T : Tab rs n m G) (l : Lot n m G lot) : ∀ k ∈ lot, IsS n m k := fun k h => T.kinds_isS (l.sub k h)
end
end Tb

namespace Tb
open PySem PySem.Spec L2 Ab
def m_coming_from : MS :=
  (mRet (mFrz (mCBF listUD (mCons (mDicF (mCm (miU (mUn (attrD "Table" "group") (mVar 0))) (mgName 3) (fun _ h => .ok true h) (acD (mCallP 3 F_added (mCons (mCallP 2 F_behind_turn (mCons (mVar 1) (mCons (mVar 3) mNil))) (mCons (mVar 2) (mCons (mUn (attrD "Table" "size") (mVar 0)) mNil)))) (mC (.bl true))) [] [3])) mNil))))
def F_coming_from : Fn := mFnT 4 m_coming_from
def m_left_of : MS :=
  (mSeq (mAsg (mFrz (mLc2 (miU (mVar 1)) (mgName 4) (fun _ h => .ok true h) (miU (mCallP 3 F_coming_from (mCons (mVar 0) (mCons (mVar 4) (mCons (mVar 2) mNil))))) (mgName 5) (mNotT (mTru (mCallP 1 F_is_bell (mCons (mVar 5) mNil)))) (mVar 5) [4, 5] [5])) (mgName 3))
  (mRet (mCB tupleD (mCons (mFrz (mSortS (mCm (miU (mVar 3)) (mgName 5) (fun _ h => .ok true h) (acS (mCallP 2 F_kind_of (mCons (mVar 0) (mCons (mVar 5) mNil)))) [] [5]))) mNil))))
def F_left_of : Fn := mFnT 6 m_left_of
def b__law_behind_all_1 : MS :=
  (mSeq (mAsg (mBin ixUD (mVar 1) (mCallP 3 F__law_sum (mCons (mCallP 2 F__law_behind (mCons (mVar 7) (mCons (mVar 8) mNil))) (mCons (mVar 3) (mCons (mVar 4) mNil))))) (mgName 9))
  (mIfS (mAndT (mBl (mBin neD (mVar 9) (mBin mulUD (mTup (mCons (mC (.int 0)) mNil)) (mCB lenUD (mCons (mVar 7) mNil))))) (mBl (mBin (inUD true) (mVar 9) (mVar 5)))) (mDrop (mMethT isLoc appendD (mVar 5) (mCons (mVar 9) mNil))) mNext))
def m__law_behind_all : MS :=
  (mSeq (mPar3 4 5 6 (mCons (mBin ixUD (mCallP 1 F__law_head (mCons (mVar 0) mNil)) (mC (.int 1))) (mCons (mOwn (mLst mNil)) (mCons (mCallP 1 F__law_group (mCons (mVar 0) mNil)) mNil))))
  (mSeq (mFor (miU (mVar 1)) (mgName 7) (mIfS (mBl (mBin (inUD false) (mBin ixUD (mVar 1) (mVar 7)) (mVar 2))) (mFor (miU (mVar 6)) (mgName 8) b__law_behind_all_1) mNext))
  (mRet (mCB tupleD (mCons (mFrz (mCBF sortedUD (mCons (mVar 5) mNil))) mNil)))))
def F__law_behind_all : Fn := mFnT 10 m__law_behind_all
def m_is_lot : MS :=
  (mSeq (mIfS (mOrT (mNotT (mTru (mCB isiD (mCons (mVar 1) (mCons (mC (.ty "tuple")) mNil))))) (mNotT (mTru (mCB (allD false) (mCons (mFrz (mLc (miU (mVar 1)) (mgName 2) (fun _ h => .ok true h) (mAnd (mCallP 2 F_are_marks (mCons (mVar 0) (mCons (mVar 2) mNil))) (mBin (inUD false) (mVar 2) (mUn (attrD "Table" "swept") (mVar 0)))) [2])) mNil))))) (mRet (mC (.bl false))) mNext)
  (mRet (mCB (allD false) (mCons (mFrz (mLc (miRng1 (mCons (mBin subD (mCB lenUD (mCons (mVar 1) mNil)) (mC (.int 1))) mNil)) (mgName 3) (fun _ h => .ok true h) (mBin ltUD (mBin ixUD (mVar 1) (mVar 3)) (mBin ixUD (mVar 1) (mBin addUD (mVar 3) (mC (.int 1))))) [3])) mNil))))
def F_is_lot : Fn := mFnT 4 m_is_lot
def m_check_lot : MS :=
  (mIfS (mNotT (mTru (mCallP 2 F_is_lot (mCons (mVar 0) (mCons (mVar 1) mNil))))) (fun _ _ => .bad) mNext)
def F_check_lot : Fn := mFnT 2 m_check_lot
def m_after : MS :=
  (mSeq (mDrop (mCallP 1 F_check_table (mCons (mVar 0) mNil)))
  (mSeq (mDrop (mCallP 2 F_check_lot (mCons (mVar 0) (mCons (mVar 1) mNil))))
  (mSeq (mDrop (mCallP 2 F_check_move (mCons (mVar 0) (mCons (mVar 2) mNil))))
  (mRet (mCallP 3 F_left_of (mCons (mVar 0) (mCons (mVar 1) (mCons (mVar 2) mNil))))))))
def F_after : Fn := mFnT 3 m_after
end Tb

/-! after, of a lot. -/
namespace Tb
open PySem PySem.Spec L2 Ab
open Pl (IsT IsS Sw Asc allP alikeP sweepP dd Grp Part comp)
section
variable {n m : Nat} {h : AH} {G lot : List (List Int)} {rs : List Str} {s t v k : List Int}
end
end Tb

/-! What sums reach: plain. -/
namespace Tb
open PySem PySem.Spec L2 Ab
open Pl (IsT IsS allP dd)
section
variable {n m : Nat} {R : List (List Int)} {s t u v x y z : List Int}
/-- x and v, j times -/
def mvP (n m : Nat) (x v : List Int) (j : Int) : List Int := (Pl.rngI n).map fun i => (x.getD i.toNat 0 + j * v.getD i.toNat 0) % m
/-- what is closed under sums -/
structure Span (n m : Nat) (R : List (List Int)) : Prop where
  nod : R.Nodup
  is : ∀ x ∈ R, IsS n m x
  zero : zeroP n ∈ R
  add : ∀ x ∈ R, ∀ y ∈ R, addP x y m ∈ R
/-- one round: all that is reached, and the move more -/
def rndP (m : Nat) (v : List Int) (R : List (List Int)) : List (List Int) := dd R (R.map fun x => addP x v m)
def rndsP (m : Nat) (v : List Int) : Nat → List (List Int) → List (List Int)
  | 0, R => R
  | k + 1, R => rndsP m v k (rndP m v R)
/-- a valid step: the move p times is reached, not sooner -/
structure Step1 (n m : Nat) (R : List (List Int)) (v : List Int) (p : Nat) : Prop where
  is : IsS n m v
  p1 : 1 ≤ p
  hit : mvP n m (zeroP n) v (p : Nat) ∈ R
  no : ∀ s : Nat, 1 ≤ s → s < p → mvP n m (zeroP n) v (s : Nat) ∉ R
end
end Tb

namespace Tb
open PySem PySem.Spec L2 Ab
def m__law_same : MS :=
  (mRet (mFrz (mLc (miRng1 (mCons (mVar 1) mNil)) (mgName 2) (fun _ h => .ok true h) (mBin mulUD (mTup (mCons (mVar 2) mNil)) (mVar 0)) [2])))
def F__law_same : Fn := mFnT 3 m__law_same
def m__law_next_step : MS :=
  (mSeq (mFor (miU (mCallP 2 F__law_all (mCons (mVar 0) (mCons (mVar 1) mNil)))) (mgName 4) (mIfS (mBl (mBin (inUD true) (mVar 4) (mVar 3))) (mSeq (mAsg (mCB tupleD (mCons (mFrz (mLc (miU (mVar 4)) (mgName 9) (fun _ h => .ok true h) (mUn negD (mVar 9)) [9])) mNil)) (mgName 5))
  (mIfS (mTru (mCB (allD false) (mCons (mFrz (mLc (miU (mVar 2)) (mgName 10) (fun _ h => .ok true h) (mBin (inUD false) (mCallP 3 F__law_sum (mCons (mCallP 2 F__law_behind (mCons (mVar 4) (mCons (mVar 10) mNil))) (mCons (mVar 5) (mCons (mVar 1) mNil)))) (mVar 3)) [10])) mNil))) (mSeq (mPar 6 7 (mCons (mC (.int 1)) (mCons (mVar 4) mNil)))
  (mSeq (mFor (miRng1 (mCons (mVar 1) mNil)) (mgName 8) (mIfS (mBl (mBin (inUD true) (mVar 7) (mVar 3))) (mPar 6 7 (mCons (mBin addUD (mVar 6) (mC (.int 1))) (mCons (mCallP 3 F__law_sum (mCons (mVar 7) (mCons (mVar 4) (mCons (mVar 1) mNil)))) mNil))) mNext))
  (mIfS (mBl (mBin (inUD false) (mVar 6) (mFrz (mLst (mCons (mC (.int 2)) (mCons (mC (.int 3)) (mCons (mC (.int 5)) (mCons (mC (.int 7)) mNil)))))))) (mRet (mFrz (mLst (mCons (mVar 6) (mCons (mVar 4) mNil))))) mNext))) mNext)) mNext))
  (mRet (mC .non)))
def F__law_next_step : Fn := mFnT 11 m__law_next_step
def m__law_path : MS :=
  (mSeq (mAsg (mOwn (mLst (mCons (mVar 1) mNil))) (mgName 4))
  (mSeq (mFor (miZip (mCons (mVar 0) (mCons (mVar 2) mNil))) (mgSeq 2 (mgCons (mgName 5) (mgCons (mgName 6) mgNil))) (mDrop (mMethT isLoc appendD (mVar 4) (mCons (mCallP 3 F__law_sum (mCons (mCallP 2 F__law_behind (mCons (mBin ixUD (mVar 4) (mUn negD (mC (.int 1)))) (mCons (mVar 6) mNil))) (mCons (mVar 5) (mCons (mVar 3) mNil)))) mNil))))
  (mRet (mVar 4))))
def F__law_path : Fn := mFnT 7 m__law_path
def m__law_plan : MS :=
  (mRet (mCB tupleD (mCons (mFrz (mLc (miRng1 (mCons (mCall 2 F__law_draw (mCons (mVar 0) (mCons (mBin addUD (mVar 2) (mC (.int 1))) mNil))) mNil)) (mgName 3) (fun _ h => .ok true h) (mCall 2 F__law_standing (mCons (mVar 0) (mCons (mVar 1) mNil))) [3])) mNil)))
def F__law_plan : Fn := mFnT 4 m__law_plan
def b__law_known_plan_1 : MS :=
  (mSeq (mAsg (mCall 4 F__law_next_step (mCons (mVar 1) (mCons (mVar 2) (mCons (mVar 3) (mCons (mVar 4) mNil))))) (mgName 8))
  (mSeq (mIfS (mBl (mBin (isND false) (mVar 8) (mC .non))) (mRet (mIf (mBl (mBin eqD (mCB lenUD (mCons (mVar 4) mNil)) (mCB lenUD (mCons (mCallP 2 F__law_all (mCons (mVar 1) (mCons (mVar 2) mNil))) mNil)))) (mVar 5) (mC .non))) mNext)
  (mSeq (mAsg (mBin addUD (mVar 5) (mBin mulUD (mBin addUD (mTup (mCons (mBin ixUD (mVar 8) (mC (.int 1))) mNil)) (mVar 5)) (mBin subD (mBin ixUD (mVar 8) (mC (.int 0))) (mC (.int 1))))) (mgName 5))
  (mFor (miRng1 (mCons (mBin ixUD (mVar 8) (mC (.int 0))) mNil)) (mgName 9) (mFor (miU (mFrz (mCBF listUD (mCons (mVar 4) mNil)))) (mgName 6) (mAsg (mC (.bl true)) (mgSubU (mVar 4) (mCallP 3 F__law_sum (mCons (mVar 6) (mCons (mBin ixUD (mVar 8) (mC (.int 1))) (mCons (mVar 2) mNil)))))))))))
def m__law_known_plan : MS :=
  (mSeq (mAsg (mCallP 1 F__law_head (mCons (mVar 0) mNil)) (mgSeq 2 (mgCons (mgName 1) (mgCons (mgName 2) mgNil))))
  (mSeq (mPar3 3 4 5 (mCons (mCallP 1 F__law_group (mCons (mVar 0) mNil)) (mCons mDNew (mCons (mTup mNil) mNil))))
  (mSeq (mFor (miU (mCallP 2 F__law_same (mCons (mVar 1) (mCons (mVar 2) mNil)))) (mgName 6) (mAsg (mC (.bl true)) (mgSubU (mVar 4) (mVar 6))))
  (mSeq (mFor (miRng1 (mCons (mC (.int 64)) mNil)) (mgName 7) b__law_known_plan_1)
  (mRet (mC .non))))))
def F__law_known_plan : Fn := mFnT 10 m__law_known_plan
def m__law_good_plan : MS :=
  (mSeq (mPar 2 3 (mCons (mCallP 1 F__law_known_plan (mCons (mVar 1) mNil)) (mCons (mCall 2 F__law_draw (mCons (mVar 0) (mCons (mC (.int 5)) mNil))) mNil)))
  (mSeq (mIfS (mOrT (mBl (mBin (isND false) (mVar 2) (mC .non))) (mBl (mBin eqD (mVar 3) (mC (.int 0))))) (mRet (mCall 3 F__law_plan (mCons (mVar 0) (mCons (mVar 1) (mCons (mC (.int 6)) mNil))))) mNext)
  (mSeq (mAsg (mCall 2 F__law_draw (mCons (mVar 0) (mCons (mBin addUD (mCB lenUD (mCons (mVar 2) mNil)) (mC (.int 1))) mNil))) (mgName 4))
  (mSeq (mIfS (mBl (mBin eqD (mVar 3) (mC (.int 1)))) (mRet (mBin addUD (mSlU (mVar 2) mNoPart (mPart (mVar 4))) (mSlU (mVar 2) (mPart (mBin addUD (mVar 4) (mC (.int 1)))) mNoPart))) mNext)
  (mSeq (mIfS (mBl (mBin eqD (mVar 3) (mC (.int 2)))) (mRet (mBin addUD (mBin addUD (mSlU (mVar 2) mNoPart (mPart (mVar 4))) (mTup (mCons (mCall 2 F__law_standing (mCons (mVar 0) (mCons (mVar 1) mNil))) mNil))) (mSlU (mVar 2) (mPart (mVar 4)) mNoPart))) mNext)
  (mRet (mBin addUD (mVar 2) (mCall 3 F__law_plan (mCons (mVar 0) (mCons (mVar 1) (mCons (mC (.int 2)) mNil)))))))))))
def F__law_good_plan : Fn := mFnT 5 m__law_good_plan
end Tb

/-! The laws' own plans. -/
namespace Tb
open PySem PySem.Spec L2 Ab
open Pl (IsT IsS allP dd sweepP Grp)
section
variable {n m : Nat} {h : AH} {G R : List (List Int)} {rs : List Str} {s t v x : List Int} {k : Nat}
def sameP (n m : Nat) : List (List Int) := (Pl.rngI m).map fun i => List.replicate n i
/-- a dict of standings -/
abbrev setH (R : List (List Int)) : AH := [.dct (dctK R (.bl true))]
end
end Tb

/-! The laws' own plans, drawn. -/
namespace Tb
open PySem PySem.Spec L2 Ab
open Pl (IsT IsS allP dd sweepP Grp)
section
variable {n m : Nat} {h : AH} {G R : List (List Int)} {rs : List Str} {s t v x : List Int} {k : Nat}
/-- a plan -/
def Plan (n m : Nat) (P : List (List Int)) (c : Nat) : Prop := (∀ x ∈ P, IsS n m x) ∧ P.length ≤ c
end
end Tb

/-! Drawn plans. -/
namespace Tb
open PySem PySem.Spec L2 Ab
open Pl (IsT IsS allP dd sweepP Grp)
section
variable {n m : Nat} {h : AH} {G R : List (List Int)} {rs : List Str} {s t v x : List Int} {k : Nat}
end
end Tb

/-! Errors and lambdas, as rewriting rules. -/
namespace Ab
open PySem PySem.Spec L2
section
variable {α β : Type} {h h' : AH} {env env' : En} {x c f w : Str} {fs : List (Str × D)} {d y z : D} {ds es : List D} {n m k N i j : Nat} {T : XTb} {cs : List Str}
@[simp] theorem b_exc {g : α → AH → R β} : R.bind (.exc c fs h) g = .exc c fs h := rfl.trans rfl
@[simp] theorem t_exc {g : α → AH → SS} : R.then (.exc c fs h) g = .exc c fs h := rfl.trans rfl
@[simp] theorem go_exc {q : MS} : SS.go (.exc c fs h) q = .exc c fs h := rfl.trans rfl
@[simp] theorem lp_exc {q : MS} : SS.lp (.exc c fs h) q = .exc c fs h := rfl.trans rfl
@[simp] theorem f_TX {p : MS} : mFnTX n p ds h = exitR h.length (bodyR (p (initE n ds) h)) := rfl.trans rfl
@[simp] theorem r_nxX : bodyR (.nx env h) = .ok .non h := rfl.trans rfl
@[simp] theorem r_rtX : bodyR (.rt d h) = .ok d h := rfl.trans rfl
@[simp] theorem r_excX : bodyR (.exc c fs h) = .exc c fs h := rfl.trans rfl
def kRaise (c f : Str) (d : D) (h : AH) : SS := .exc c [(f, d)] h
@[simp] theorem k_Raise : kRaise c f d h = .exc c [(f, d)] h := rfl.trans rfl
@[simp] theorem e_Raise {p : M D} : mRaise c f p env h = (p env h).then (kRaise c f) := rfl.trans rfl
@[simp] theorem x_excS (e : h.length = n) : exitR n (.exc c fs h) = .exc c fs h := by
  subst e
  simp only [exitR, List.take_length]
  split <;> rfl
@[simp] theorem e_LamCall {F : (AH → R D) → AH → R D} {p : M D} : mLamCall F p env h = F (fun h' => p env h') h := rfl.trans rfl
end
end Ab

/-! Values of any kind, and what the program's judges say of them. -/
namespace Ab
open PySem PySem.Spec L2
inductive Va : D → Prop
  | non : Va .non
  | bl (b : Bool) : Va (.bl b)
  | int (i : Int) : Va (.int i)
  | str (z : Str) : Va (.str z)
  | dk (kvs : List (Str × Int)) : Va (.dk kvs)
  | tup (ds : List D) : (∀ d ∈ ds, Va d) → ds.length ≤ 1000 → Va (.tup ds)
  | lst (ds : List D) : (∀ d ∈ ds, Va d) → ds.length ≤ 1000 → Va (.lst ds)
mutual
def vaB : D → Bool
  | .non => true
  | .bl _ => true
  | .int _ => true
  | .str _ => true
  | .dk _ => true
  | .tup ds => vaL ds && decide (ds.length ≤ 1000)
  | .lst ds => vaL ds && decide (ds.length ≤ 1000)
  | _ => false
def vaL : List D → Bool
  | [] => true
  | d :: ds => vaB d && vaL ds
end
mutual
theorem va_of : ∀ {d : D}, vaB d = true → Va d
  | .non, _ => .non
  | .bl b, _ => .bl b
  | .int i, _ => .int i
  | .str z, _ => .str z
  | .dk kvs, _ => .dk kvs
  | .tup ds, h => by
    simp only [vaB, Bool.and_eq_true, decide_eq_true_eq] at h
    exact .tup ds (vaL_of h.1) h.2
  | .lst ds, h => by
    simp only [vaB, Bool.and_eq_true, decide_eq_true_eq] at h
    exact .lst ds (vaL_of h.1) h.2
  | .glo _, h => by simp [vaB] at h
  | .ty _, h => by simp [vaB] at h
  | .scr _, h => by simp [vaB] at h
  | .loc _, h => by simp [vaB] at h
  | .obj _ _ _, h => by simp [vaB] at h
  | .dic _ _, h => by simp [vaB] at h
  | .nd _ _, h => by simp [vaB] at h
  | .exv _ _ _, h => by simp [vaB] at h
  | .fn _, h => by simp [vaB] at h
theorem vaL_of : ∀ {ds : List D}, vaL ds = true → ∀ d ∈ ds, Va d
  | [], _, d, m => absurd m List.not_mem_nil
  | x :: xs, h, d, m => by
    simp only [vaL, Bool.and_eq_true] at h
    rcases List.mem_cons.mp m with e | m
    · rw [e]; exact va_of h.1
    · exact vaL_of h.2 d m
end
theorem belowL_all {q : Nat} : ∀ {ds : List D}, (∀ d ∈ ds, below q d = true) → belowL q ds = true
  | [], _ => rfl
  | d :: ds, h => by simp only [belowL, h d (List.mem_cons_self ..), belowL_all fun x hx => h x (List.mem_cons_of_mem _ hx), Bool.and_true]
theorem Va.bw {d : D} (v : Va d) : ∀ q, Ab.below q d = true := by
  induction v with
  | tup ds h hl ih => intro q; simp only [Ab.below]; exact belowL_all fun x hx => ih x hx q
  | lst ds h hl ih => intro q; simp only [Ab.below]; exact belowL_all fun x hx => ih x hx q
  | _ => intro q; simp [Ab.below]
def isTupB : D → Bool
  | .tup _ => true
  | _ => false
def isIntB : D → Bool
  | .int _ => true
  | _ => false
def isBlB : D → Bool
  | .bl _ => true
  | _ => false
def isStrB : D → Bool
  | .str _ => true
  | _ => false
theorem Va.tp {d : D} (v : Va d) : ∀ h : AH, isiD [d, .ty "tuple"] h = .ok (.bl (isTupB d)) h := fun h => by cases v <;> rfl
/-- a whole number from a to b -/
def betwV (a b : Int) : D → Bool
  | .int x => decide (a ≤ x) && decide (x ≤ b)
  | _ => false
end Ab
namespace Tb
open PySem PySem.Spec L2 Ab
open Pl (IsT IsS)
section
variable {h : AH} {n m : Nat} {G : List (List Int)} {rs : List Str} {d : D} {a b : Int}
/-- a tuple of a mark for each place -/
def marksV (n m : Nat) : D → Bool
  | .tup ds => decide (ds.length = n) && ds.all (betwV 0 ((m : Int) - 1))
  | _ => false
/-! what is raised -/
def m_check_table_X : MS :=
  (mIfS (mNotT (mTru (mCB (isiCD "Table") (mCons (mVar 0) (mCons (mC (.glo "Table")) mNil))))) (mRaise "NotATable" "given" (mVar 0)) mNext)
def F_check_table_X : Fn := mFnTX 1 m_check_table_X
def m_check_plan_X : MS :=
  (mSeq (mIfS (mNotT (mTru (mCB isiD (mCons (mVar 1) (mCons (mC (.ty "tuple")) mNil))))) (mRaise "InvalidPlan" "index" (mC .non)) mNext)
  (mFor (miEnum (mCons (mVar 1) mNil)) (mgSeq 2 (mgCons (mgName 2) (mgCons (mgName 3) mgNil))) (mIfS (mNotT (mTru (mCallP 2 F_are_marks (mCons (mVar 0) (mCons (mVar 3) mNil))))) (mRaise "InvalidPlan" "index" (mVar 2)) mNext)))
def F_check_plan_X : Fn := mFnTX 4 m_check_plan_X
/-- the index of the first element that is none -/
def badAt (g : D → Bool) (i : Nat) : List D → Option Nat
  | [] => none
  | d :: ds => if g d = true then badAt g (i + 1) ds else some i
/-- what InvalidPlan tells, none where it is a plan -/
def planV (n m : Nat) : D → Option D
  | .tup ds => (badAt (marksV n m) 0 ds).map fun i => .int (i : Nat)
  | _ => some .non
end
end Tb

/-! The laws' values of any kind. -/
namespace Tb
open PySem PySem.Spec L2 Ab
def m__law_odd : MS :=
  (mSeq (mAsg (mFrz (mLst (mCons (mC .non) (mCons (mC (.bl true)) (mCons (mC (.bl false)) (mCons (mC (.int 0)) (mCons (mC (.int 1)) (mCons (mUn negD (mC (.int 1))) (mCons (mC (.int 7)) (mCons (mBin powD (mC (.int 10)) (mC (.int 39))) (mCons (mC (.str "")) (mCons (mC (.str "a")) (mCons (mC (.str "x")) (mCons (mC (.str "dials 3 marks 2")) (mCons (mC (.str "turn ring")) (mCons (mC (.str "turn over")) mNil)))))))))))))))) (mgName 1))
  (mSeq (mAsg (mFrz (mBinF catD (mVar 1) (mFrz (mLst (mCons (mC (.str "turn 0 1 2")) (mCons (mTup mNil) (mCons (mTup (mCons (mC (.int 0)) mNil)) (mCons (mTup (mCons (mC (.int 0)) (mCons (mC (.int 1)) mNil))) (mCons (mTup (mCons (mC (.int 0)) (mCons (mC (.int 0)) (mCons (mC (.int 1)) mNil)))) (mCons (mTup (mCons (mC (.int 0)) (mCons (mC (.int 1)) (mCons (mC (.int 0)) (mCons (mC (.int 1)) mNil))))) (mCons (mTup (mCons (mC (.bl true)) (mCons (mC (.int 0)) (mCons (mC (.int 1)) mNil)))) (mCons (mTup (mCons (mTup (mCons (mC (.int 0)) (mCons (mC (.int 0)) (mCons (mC (.int 1)) mNil)))) mNil)) (mCons (mTup (mCons (mTup (mCons (mC (.int 0)) (mCons (mC (.int 1)) mNil))) mNil)) mNil))))))))))))) (mgName 1))
  (mSeq (mAsg (mFrz (mBinF catD (mVar 1) (mFrz (mLst (mCons (mFrz (mLst mNil)) (mCons (mFrz (mLst (mCons (mC (.int 0)) mNil))) (mCons (mFrz (mLst (mCons (mC (.str "x")) mNil))) (mCons (mDk []) (mCons (mDk [("a", 0)]) (mCons (mTup (mCons (mFrz (mLst mNil)) mNil)) (mCons (mTup (mCons (mC .non) mNil)) (mCons (mTup (mCons (mTup mNil) mNil)) (mCons (mTup (mCons (mTup (mCons (mC (.int 2)) (mCons (mTup (mCons (mC (.int 0)) (mCons (mC (.int 1)) mNil))) mNil))) mNil)) (mCons (mTup (mCons (mC (.str "can")) mNil)) (mCons (mTup (mCons (mC (.str "never")) mNil)) mNil))))))))))))))) (mgName 1))
  (mRet (mCall 2 F__law_of (mCons (mVar 0) (mCons (mFrz (mBinF catD (mVar 1) (mFrz (mLst (mCons (mTup (mCons (mC (.str "surely")) (mCons (mTup mNil) mNil))) (mCons (mTup (mCons (mC (.str "moves")) (mCons (mC (.int 3)) mNil))) (mCons (mTup (mCons (mC (.str "alike")) (mCons (mC (.str "a")) (mCons (mC (.str "b")) mNil)))) (mCons (mTup (mCons (mC (.str "a")) (mCons (mTup (mCons (mC (.str "can")) mNil)) mNil))) (mCons (mTup (mCons (mC (.bl true)) mNil)) mNil))))))))) mNil)))))))
def F__law_odd : Fn := mFnT 2 m__law_odd
section
variable {h : AH} {k : Nat} {d : D}
def odd1 : List D := [.non, .bl true, .bl false, .int 0, .int 1, .int (-1), .int 7, .int 1000000000000000000000000000000000000000, .str "", .str "a", .str "x", .str "dials 3 marks 2", .str "turn ring", .str "turn over"]
def odd2 : List D := [.str "turn 0 1 2", .tup [], .tup [.int 0], .tup [.int 0, .int 1], .tup [.int 0, .int 0, .int 1], .tup [.int 0, .int 1, .int 0, .int 1], .tup [.bl true, .int 0, .int 1], .tup [.tup [.int 0, .int 0, .int 1]], .tup [.tup [.int 0, .int 1]]]
def odd3 : List D := [.lst [], .lst [.int 0], .lst [.str "x"], .dk [], .dk [("a", 0)], .tup [.lst []], .tup [.non], .tup [.tup []], .tup [.tup [.int 2, .tup [.int 0, .int 1]]], .tup [.str "can"], .tup [.str "never"]]
def odd4 : List D := [.tup [.str "surely", .tup []], .tup [.str "moves", .int 3], .tup [.str "alike", .str "a", .str "b"], .tup [.str "a", .tup [.str "can"]], .tup [.bl true]]
def oddL : List D := odd1 ++ odd2 ++ odd3 ++ odd4
/-- what repr says of a value of any kind -/
def pyP (d : D) : Option Str := match toPy0 d with
  | some p => if reprOk p = true then some p.shown else none
  | none => none
def reprP : D → Option Str
  | .dk kvs => if dkOk kvs = true then some (dkPy kvs).shown else none
  | .tup [.dk kvs] => if dkOk1 kvs = true then some (PyData.tuple [dkPy kvs]).shown else none
  | d => pyP d
theorem repr_py {d : D} (tp : ∀ h : AH, toPy h d = toPy0 d) {z : Str} (e : pyP d = some z) : ∀ h : AH, reprD [d] h = .ok (.str z) h := fun h => by
  unfold pyP at e
  cases q : toPy0 d with
  | none => rw [q] at e; cases e
  | some p =>
    rw [q] at e
    have e : (if reprOk p = true then some p.shown else none) = some z := e
    split at e
    · rename_i a1
      cases e
      simp [reprD, tp h, q, a1]
    · cases e
theorem repr_P (v : Va d) {z : Str} (e : reprP d = some z) : ∀ h : AH, reprXD [d] h = .ok (.str z) h := fun h => by
  unfold reprP at e
  split at e
  · split at e
    · rename_i hk
      cases e
      simp [reprXD, hk]
    · cases e
  · split at e
    · rename_i hk
      cases e
      simp [reprXD, hk]
    · cases e
  · rename_i n1 n2
    have tp : ∀ h : AH, toPy h d = toPy0 d := fun h => by cases v <;> rfl
    have e1 := repr_py tp e h
    unfold reprXD
    split
    · rename_i kvs he
      cases he
      exact absurd rfl (n1 kvs)
    · rename_i kvs he
      cases he
      exact absurd rfl (n2 kvs)
    · exact e1
/-- what can be shown, within bounds, alone and in a tuple of one -/
def okP (o : Option Str) : Bool := match o with
  | some z => PyData.strOk z && Nat.ble z.length 200
  | none => false
def tupN : D → Nat
  | .tup ds => ds.length
  | _ => 0
def oddR (d : D) : Bool := vaB d && (okP (reprP d) && (okP (reprP (.tup [d])) && Nat.ble (tupN d) 100))
theorem odd_all : oddL.all oddR = true := by kernel_rfl
theorem odd_facts (hd : d ∈ oddL) : Va d ∧ okP (reprP d) = true ∧ okP (reprP (.tup [d])) = true ∧ tupN d ≤ 100 := by
  have a := List.all_eq_true.mp odd_all d hd
  unfold oddR at a
  rw [Bool.and_eq_true, Bool.and_eq_true, Bool.and_eq_true] at a
  exact ⟨va_of a.1, a.2.1, a.2.2.1, Nat.le_of_ble_eq_true a.2.2.2⟩
theorem odd_va (hd : d ∈ oddL) : Va d := (odd_facts hd).1
theorem odd_ok (s : Sp3 h k) : ∃ d h', kCall 1 F__law_odd [.loc k] h = .ok d h' ∧ d ∈ oddL ∧ Dr h k h' := by
  have ei : initE 2 [D.loc k] = [some (.loc k), none] := rfl
  obtain ⟨x, h', e, mx, t⟩ := of_ok (ds := oddL) s (by decide) (by decide) (fun x hx q => (odd_va hx).bw q)
  have c : kCall 2 F__law_of [.loc k, .lst oddL] h = .ok x h' := (k_Call rfl).trans e
  refine ⟨x, h', (k_Call rfl).trans ?_, mx, t⟩
  have p39 : ∀ h : AH, powD (.int 10) (.int 39) h = .ok (.int 1000000000000000000000000000000000000000) h := fun h => by kernel_rfl
  have c1 : ∀ h : AH, catD (.lst odd1) (.lst odd2) h = .ok (odd1 ++ odd2) h := fun h => by kernel_rfl
  have c2 : ∀ h : AH, catD (.lst (odd1 ++ odd2)) (.lst odd3) h = .ok (odd1 ++ odd2 ++ odd3) h := fun h => by kernel_rfl
  have c3 : ∀ h : AH, catD (.lst (odd1 ++ odd2 ++ odd3)) (.lst odd4) h = .ok oddL h := fun h => by kernel_rfl
  have k1 : ∀ h : AH, kLst odd1 h = .ok odd1 h := fun h => by kernel_rfl
  have k2 : ∀ h : AH, kLst odd2 h = .ok odd2 h := fun h => by kernel_rfl
  have k3 : ∀ h : AH, kLst odd3 h = .ok odd3 h := fun h => by kernel_rfl
  have k4 : ∀ h : AH, kLst odd4 h = .ok odd4 h := fun h => by kernel_rfl
  unfold odd1 at k1
  unfold odd2 at k2
  unfold odd3 at k3
  unfold odd4 at k4
  unfold odd1 odd2 at c1
  unfold odd1 odd2 odd3 at c2
  unfold odd1 odd2 odd3 odd4 at c3
  have dk : ∀ (l : List (Str × Int)) (env : En) (h : AH), mDk l env h = .ok (.dk l) h := fun l env h => rfl
  simp only [F__law_odd, m__law_odd, f_T, ei, b_ok, b_bad, t_ok, t_bad, e_C, e_V0, e_V1, e_V2, e_V3, e_V4, e_V5, e_V6, e_V7, e_V8, e_V9, e_V10, k_Q, k_Bl, k_TruB, k_TruI, k_TruN, k_NotT, k_AndT1, k_AndT0, k_OrT1, k_OrT0, k_And1, k_And0, k_Or1, k_Or0, k_Not, k_If1, k_If0, k_Cons, k_Tup, k_Lst, k_Frz, k_Own, k_Call, k_CallK, k_Chain1, k_Chain0, k_Chain2, e_Chain, e_Bin, e_BinF, e_Un, e_Bl, e_Tru, e_NotT, e_AndT, e_OrT, e_And, e_Or, e_Not, e_If, e_Nil, e_Cons, e_Tup, e_Lst, e_Frz, e_Own, e_CB, e_CBF, e_Call, e_CallP, k_CallKP, e_CallKP, e_CallK, go_nx, go_rt, go_bk, go_ct, e_Next, e_Seq, k_Drop, e_Drop, k_Ret, e_Ret, k_IfS1, k_IfS0, e_IfS, g_Name, g_Nil, g_Cons, g_Tup, k_Nx, k_Asg, e_Asg, k_Par, e_Par, k_Par3, e_Par3, k_Aug2, k_Aug, e_Aug, k_SeqL, k_SeqS, k_SeqT, i_Seq, k_R1, i_R1, k_R2, i_R2, k_For, e_For, k_Turn, k_Lc, e_Lc, k_Wh1, k_Wh0, r_nx, r_rt, x_ok, x_same, k_RevT, e_RevT, k_RevL, e_RevL, k_Rg1, e_Rg1, k_Rg2, e_Rg2, e_LstRg, e_TupRg, k_EnumT, k_EnumL, e_Enum, k_UL, k_US, k_UT, i_U, e_Disp, e_DNew, k_StarT, e_Star, e_NoPart, k_Part, e_Part, k_SlUT, k_SlUL, k_Sl1, e_SlU, k_SlLL, k_SlLS, e_SlL, k_Split, e_Split, k_Join2, k_Join, e_Join, e_Meth0, g_Seq2T, g_Seq2L, g_Seq3L, g_Seq3T, e_SubU, e_Fld, e_MakeS, k_Cm2, e_Cm2, k_DicF, e_DicF, e_SortS, e_Meth, e_V11, e_V12, e_V13, e_V14, e_V15, e_V16, e_V17, e_V18, e_V19, e_V20, e_V21, e_V22, e_V23, e_V24, e_V25, e_V26, e_V27, e_V28, e_V29, e_V30, k_L0, k_L1, k_L2, k_L3, k_L4, k_L5, k_L6, k_L7, k_L8, k_T0, k_T1, k_T2, k_T3, k_T4, k_T5, k_T6, k_T7, k_T8, lp_nx, lp_ct, u_add, u_int, o_sub, o_cmp, o_neg, o_isN0, o_isN1, o_isI0, o_isI1, p_1_0, p_2_01, p_2_10, p_3_012, p_3_021, p_3_102, p_3_120, p_3_201, p_3_210, List.set_cons_succ, List.set_cons_zero, wipe_cons, wipe_nil, tupl_L, x_ok, k_And0, k_And1, k_Or0, k_Or1, p39, dk, k1, k2, k3, k4, c1, c2, c3, c]
  exact x_same t.2.1 ((odd_va mx).bw _)
end
end Tb

/-! A heap that grows within a def; told values beside due ones. -/
namespace Gx
open PySem PySem.Spec L2 Ab
open Tb (Fl)
def Gr (h : AH) (k : Nat) (h' : AH) : Prop := Sp3 h' k ∧ h.length ≤ h'.length ∧ ∀ i, i < h.length → i ≠ k → h'[i]? = h[i]?
section
variable {h h' h'' : AH} {k : Nat}
theorem Gr.dr (g : Gr h k h') (t : Dr h' k h'') : Gr h k h'' := ⟨t.1, by rw [t.2.1]; exact g.2.1, fun i hi ne => by rw [t.2.2 i ne, g.2.2 i hi ne]⟩
theorem Gr.trans (g : Gr h k h') (t : Gr h' k h'') : Gr h k h'' := ⟨t.1, Nat.le_trans g.2.1 t.2.1, fun i hi ne => by rw [t.2.2 i (by have := g.2.1; omega) ne, g.2.2 i hi ne]⟩
/-- of data: can be compared -/
def lkB (v : D) : Bool := match toPy0 v with
  | some p => p.canLay0 && Nat.ble p.depth 10
  | none => false
/-- of data: z is its repr -/
def shB (x : D) (z : Str) : Bool := match toPy0 x with
  | some p => reprOk p && decide (p.shown = z)
  | none => false
end
end Gx

/-! C() and C(a, ..) of a class with __init__(self, *rows). -/
namespace Ab
open PySem PySem.Spec PySem.Calls PyProof.Rows PySem.W L2
section
variable {X : Cx} {K : PySem.W.Frag} {E : XK} {k : Nat} {c : Str} {F : Fn} {p pos : Pos} {env : En} {h : AH} {ds : List D} {m : M (List D)}
def kMake (c : Str) (F : Fn) (ds : List D) (h : AH) : R D := if ds.length ≤ sizeLine then makeP c F ds h else .bad
@[simp] theorem e_Make {c : Str} {F : Fn} {m : M (List D)} : mMake c F m env h = (m env h).bind (kMake c F) := rfl.trans rfl
end
end Ab

/-! Errors as values. -/
namespace K01
open PySem PySem.Spec L2 Ab Gx
open Tb (Fl oddL odd_va odd_facts)
section
variable {k n i : Nat} {h H : AH} {c f z : Str}
theorem e_Exv2 {c f f2 : Str} {m m2 : M D} {env : En} : mExv2 c f f2 m m2 env h = (m env h).bind fun d h1 => (m2 env h1).bind fun d2 h2 => .ok (.exv c [f, f2] [d, d2]) h2 := rfl
theorem ne_str (z : Str) : ∀ h : AH, neD (.str z) (.str z) h = .ok (.bl false) h := fun h => by
  show Ab.R.ok (D.bl (!decide (z = z))) h = _
  rw [decide_eq_true rfl]; rfl
theorem q_odd : F__law_odd = Tb.F__law_odd := rfl
/-! what each error tells -/
theorem err_InvalidText {d : D} (hd : below 0 d = true) : ∀ h, callP 1 F__law_error [.exv "InvalidText" ["given"] [d]] h = .ok (.str "InvalidText") h := fun h =>
  c_P (h' := []) (by kernel_rfl) rfl (by simp [belowL, below, hd]) rfl
theorem fld_InvalidText {d : D} (hd : below 0 d = true) : ∀ h, callP 2 F__law_field [.exv "InvalidText" ["given"] [d], .str "InvalidText"] h = .ok d h := fun h => by
  refine c_P (h' := []) ?_ rfl (by simp [belowL, below, hd]) hd
  have ei : initE 2 [D.exv "InvalidText" ["given"] [d], .str "InvalidText"] = [some (.exv "InvalidText" ["given"] [d]), some (.str "InvalidText")] := rfl
  have e1 : ∀ h : AH, inUD false (.str "InvalidText") (.lst [.str "InvalidRows", .str "InvalidPlan", .str "InvalidTurns", .str "InvalidChain", .str "InvalidExchanges"]) h = .ok (.bl false) h := fun h => by kernel_rfl
  have e2 : ∀ h : AH, inUD false (.str "InvalidText") (.lst [.str "InvalidWishes", .str "InUse"]) h = .ok (.bl false) h := fun h => by kernel_rfl
  have e3 : ∀ h : AH, inUD false (.str "InvalidText") (.lst [.str "NothingToUndo", .str ""]) h = .ok (.bl false) h := fun h => by kernel_rfl
  have e4 : ∀ h : AH, eqD (.str "InvalidText") (.str "Broken") h = .ok (.bl false) h := fun h => by kernel_rfl
  have e5 : ∀ h : AH, xatD xCl_given "given" (.exv "InvalidText" ["given"] [d]) h = .ok d h := fun h => by kernel_rfl
  simp only [F__law_field, m__law_field, f_T, ei, e4, b_ok, b_bad, t_ok, t_bad, e_C, e_V0, e_V1, e_V2, e_V3, e_V4, e_V5, e_V6, e_V7, e_V8, e_V9, e_V10, k_Q, k_Bl, k_TruB, k_TruI, k_TruN, k_NotT, k_AndT1, k_AndT0, k_OrT1, k_OrT0, k_And1, k_And0, k_Or1, k_Or0, k_Not, k_If1, k_If0, k_Cons, k_Tup, k_Lst, k_Frz, k_Own, k_Call, k_CallK, k_Chain1, k_Chain0, k_Chain2, e_Chain, e_Bin, e_BinF, e_Un, e_Bl, e_Tru, e_NotT, e_AndT, e_OrT, e_And, e_Or, e_Not, e_If, e_Nil, e_Cons, e_Tup, e_Lst, e_Frz, e_Own, e_CB, e_CBF, e_Call, e_CallP, k_CallKP, e_CallKP, e_CallK, go_nx, go_rt, go_bk, go_ct, e_Next, e_Seq, k_Drop, e_Drop, k_Ret, e_Ret, k_IfS1, k_IfS0, e_IfS, g_Name, g_Nil, g_Cons, g_Tup, k_Nx, k_Asg, e_Asg, k_Par, e_Par, k_Par3, e_Par3, k_Aug2, k_Aug, e_Aug, k_SeqL, k_SeqS, k_SeqT, i_Seq, k_R1, i_R1, k_R2, i_R2, k_For, e_For, k_Turn, k_Lc, e_Lc, k_Wh1, k_Wh0, r_nx, r_rt, x_ok, x_same, k_RevT, e_RevT, k_RevL, e_RevL, k_Rg1, e_Rg1, k_Rg2, e_Rg2, e_LstRg, e_TupRg, k_EnumT, k_EnumL, e_Enum, k_UL, k_US, k_UT, i_U, e_Disp, e_DNew, k_StarT, e_Star, e_NoPart, k_Part, e_Part, k_SlUT, k_SlUL, k_Sl1, e_SlU, k_SlLL, k_SlLS, e_SlL, k_Split, e_Split, k_Join2, k_Join, e_Join, e_Meth0, g_Seq2T, g_Seq2L, g_Seq3L, g_Seq3T, e_SubU, e_Fld, e_MakeS, k_Cm2, e_Cm2, k_DicF, e_DicF, e_SortS, e_Meth, e_V11, e_V12, e_V13, e_V14, e_V15, e_V16, e_V17, e_V18, e_V19, e_V20, e_V21, e_V22, e_V23, e_V24, e_V25, e_V26, e_V27, e_V28, e_V29, e_V30, k_L0, k_L1, k_L2, k_L3, k_L4, k_L5, k_L6, k_L7, k_L8, k_T0, k_T1, k_T2, k_T3, k_T4, k_T5, k_T6, k_T7, k_T8, lp_nx, lp_ct, u_add, u_int, o_sub, o_cmp, o_neg, o_isN0, o_isN1, o_isI0, o_isI1, p_1_0, p_2_01, p_2_10, p_3_012, p_3_021, p_3_102, p_3_120, p_3_201, p_3_210, List.set_cons_succ, List.set_cons_zero, wipe_cons, wipe_nil, tupl_L, x_ok, k_And0, k_And1, k_Or0, k_Or1, e1, e2, e3, e5]
  exact x_cut hd
theorem err_InvalidNumber {d : D} (hd : below 0 d = true) : ∀ h, callP 1 F__law_error [.exv "InvalidNumber" ["given"] [d]] h = .ok (.str "InvalidNumber") h := fun h =>
  c_P (h' := []) (by kernel_rfl) rfl (by simp [belowL, below, hd]) rfl
theorem fld_InvalidNumber {d : D} (hd : below 0 d = true) : ∀ h, callP 2 F__law_field [.exv "InvalidNumber" ["given"] [d], .str "InvalidNumber"] h = .ok d h := fun h => by
  refine c_P (h' := []) ?_ rfl (by simp [belowL, below, hd]) hd
  have ei : initE 2 [D.exv "InvalidNumber" ["given"] [d], .str "InvalidNumber"] = [some (.exv "InvalidNumber" ["given"] [d]), some (.str "InvalidNumber")] := rfl
  have e1 : ∀ h : AH, inUD false (.str "InvalidNumber") (.lst [.str "InvalidRows", .str "InvalidPlan", .str "InvalidTurns", .str "InvalidChain", .str "InvalidExchanges"]) h = .ok (.bl false) h := fun h => by kernel_rfl
  have e2 : ∀ h : AH, inUD false (.str "InvalidNumber") (.lst [.str "InvalidWishes", .str "InUse"]) h = .ok (.bl false) h := fun h => by kernel_rfl
  have e3 : ∀ h : AH, inUD false (.str "InvalidNumber") (.lst [.str "NothingToUndo", .str ""]) h = .ok (.bl false) h := fun h => by kernel_rfl
  have e4 : ∀ h : AH, eqD (.str "InvalidNumber") (.str "Broken") h = .ok (.bl false) h := fun h => by kernel_rfl
  have e5 : ∀ h : AH, xatD xCl_given "given" (.exv "InvalidNumber" ["given"] [d]) h = .ok d h := fun h => by kernel_rfl
  simp only [F__law_field, m__law_field, f_T, ei, e4, b_ok, b_bad, t_ok, t_bad, e_C, e_V0, e_V1, e_V2, e_V3, e_V4, e_V5, e_V6, e_V7, e_V8, e_V9, e_V10, k_Q, k_Bl, k_TruB, k_TruI, k_TruN, k_NotT, k_AndT1, k_AndT0, k_OrT1, k_OrT0, k_And1, k_And0, k_Or1, k_Or0, k_Not, k_If1, k_If0, k_Cons, k_Tup, k_Lst, k_Frz, k_Own, k_Call, k_CallK, k_Chain1, k_Chain0, k_Chain2, e_Chain, e_Bin, e_BinF, e_Un, e_Bl, e_Tru, e_NotT, e_AndT, e_OrT, e_And, e_Or, e_Not, e_If, e_Nil, e_Cons, e_Tup, e_Lst, e_Frz, e_Own, e_CB, e_CBF, e_Call, e_CallP, k_CallKP, e_CallKP, e_CallK, go_nx, go_rt, go_bk, go_ct, e_Next, e_Seq, k_Drop, e_Drop, k_Ret, e_Ret, k_IfS1, k_IfS0, e_IfS, g_Name, g_Nil, g_Cons, g_Tup, k_Nx, k_Asg, e_Asg, k_Par, e_Par, k_Par3, e_Par3, k_Aug2, k_Aug, e_Aug, k_SeqL, k_SeqS, k_SeqT, i_Seq, k_R1, i_R1, k_R2, i_R2, k_For, e_For, k_Turn, k_Lc, e_Lc, k_Wh1, k_Wh0, r_nx, r_rt, x_ok, x_same, k_RevT, e_RevT, k_RevL, e_RevL, k_Rg1, e_Rg1, k_Rg2, e_Rg2, e_LstRg, e_TupRg, k_EnumT, k_EnumL, e_Enum, k_UL, k_US, k_UT, i_U, e_Disp, e_DNew, k_StarT, e_Star, e_NoPart, k_Part, e_Part, k_SlUT, k_SlUL, k_Sl1, e_SlU, k_SlLL, k_SlLS, e_SlL, k_Split, e_Split, k_Join2, k_Join, e_Join, e_Meth0, g_Seq2T, g_Seq2L, g_Seq3L, g_Seq3T, e_SubU, e_Fld, e_MakeS, k_Cm2, e_Cm2, k_DicF, e_DicF, e_SortS, e_Meth, e_V11, e_V12, e_V13, e_V14, e_V15, e_V16, e_V17, e_V18, e_V19, e_V20, e_V21, e_V22, e_V23, e_V24, e_V25, e_V26, e_V27, e_V28, e_V29, e_V30, k_L0, k_L1, k_L2, k_L3, k_L4, k_L5, k_L6, k_L7, k_L8, k_T0, k_T1, k_T2, k_T3, k_T4, k_T5, k_T6, k_T7, k_T8, lp_nx, lp_ct, u_add, u_int, o_sub, o_cmp, o_neg, o_isN0, o_isN1, o_isI0, o_isI1, p_1_0, p_2_01, p_2_10, p_3_012, p_3_021, p_3_102, p_3_120, p_3_201, p_3_210, List.set_cons_succ, List.set_cons_zero, wipe_cons, wipe_nil, tupl_L, x_ok, k_And0, k_And1, k_Or0, k_Or1, e1, e2, e3, e5]
  exact x_cut hd
theorem err_InvalidStanding {d : D} (hd : below 0 d = true) : ∀ h, callP 1 F__law_error [.exv "InvalidStanding" ["given"] [d]] h = .ok (.str "InvalidStanding") h := fun h =>
  c_P (h' := []) (by kernel_rfl) rfl (by simp [belowL, below, hd]) rfl
theorem fld_InvalidStanding {d : D} (hd : below 0 d = true) : ∀ h, callP 2 F__law_field [.exv "InvalidStanding" ["given"] [d], .str "InvalidStanding"] h = .ok d h := fun h => by
  refine c_P (h' := []) ?_ rfl (by simp [belowL, below, hd]) hd
  have ei : initE 2 [D.exv "InvalidStanding" ["given"] [d], .str "InvalidStanding"] = [some (.exv "InvalidStanding" ["given"] [d]), some (.str "InvalidStanding")] := rfl
  have e1 : ∀ h : AH, inUD false (.str "InvalidStanding") (.lst [.str "InvalidRows", .str "InvalidPlan", .str "InvalidTurns", .str "InvalidChain", .str "InvalidExchanges"]) h = .ok (.bl false) h := fun h => by kernel_rfl
  have e2 : ∀ h : AH, inUD false (.str "InvalidStanding") (.lst [.str "InvalidWishes", .str "InUse"]) h = .ok (.bl false) h := fun h => by kernel_rfl
  have e3 : ∀ h : AH, inUD false (.str "InvalidStanding") (.lst [.str "NothingToUndo", .str ""]) h = .ok (.bl false) h := fun h => by kernel_rfl
  have e4 : ∀ h : AH, eqD (.str "InvalidStanding") (.str "Broken") h = .ok (.bl false) h := fun h => by kernel_rfl
  have e5 : ∀ h : AH, xatD xCl_given "given" (.exv "InvalidStanding" ["given"] [d]) h = .ok d h := fun h => by kernel_rfl
  simp only [F__law_field, m__law_field, f_T, ei, e4, b_ok, b_bad, t_ok, t_bad, e_C, e_V0, e_V1, e_V2, e_V3, e_V4, e_V5, e_V6, e_V7, e_V8, e_V9, e_V10, k_Q, k_Bl, k_TruB, k_TruI, k_TruN, k_NotT, k_AndT1, k_AndT0, k_OrT1, k_OrT0, k_And1, k_And0, k_Or1, k_Or0, k_Not, k_If1, k_If0, k_Cons, k_Tup, k_Lst, k_Frz, k_Own, k_Call, k_CallK, k_Chain1, k_Chain0, k_Chain2, e_Chain, e_Bin, e_BinF, e_Un, e_Bl, e_Tru, e_NotT, e_AndT, e_OrT, e_And, e_Or, e_Not, e_If, e_Nil, e_Cons, e_Tup, e_Lst, e_Frz, e_Own, e_CB, e_CBF, e_Call, e_CallP, k_CallKP, e_CallKP, e_CallK, go_nx, go_rt, go_bk, go_ct, e_Next, e_Seq, k_Drop, e_Drop, k_Ret, e_Ret, k_IfS1, k_IfS0, e_IfS, g_Name, g_Nil, g_Cons, g_Tup, k_Nx, k_Asg, e_Asg, k_Par, e_Par, k_Par3, e_Par3, k_Aug2, k_Aug, e_Aug, k_SeqL, k_SeqS, k_SeqT, i_Seq, k_R1, i_R1, k_R2, i_R2, k_For, e_For, k_Turn, k_Lc, e_Lc, k_Wh1, k_Wh0, r_nx, r_rt, x_ok, x_same, k_RevT, e_RevT, k_RevL, e_RevL, k_Rg1, e_Rg1, k_Rg2, e_Rg2, e_LstRg, e_TupRg, k_EnumT, k_EnumL, e_Enum, k_UL, k_US, k_UT, i_U, e_Disp, e_DNew, k_StarT, e_Star, e_NoPart, k_Part, e_Part, k_SlUT, k_SlUL, k_Sl1, e_SlU, k_SlLL, k_SlLS, e_SlL, k_Split, e_Split, k_Join2, k_Join, e_Join, e_Meth0, g_Seq2T, g_Seq2L, g_Seq3L, g_Seq3T, e_SubU, e_Fld, e_MakeS, k_Cm2, e_Cm2, k_DicF, e_DicF, e_SortS, e_Meth, e_V11, e_V12, e_V13, e_V14, e_V15, e_V16, e_V17, e_V18, e_V19, e_V20, e_V21, e_V22, e_V23, e_V24, e_V25, e_V26, e_V27, e_V28, e_V29, e_V30, k_L0, k_L1, k_L2, k_L3, k_L4, k_L5, k_L6, k_L7, k_L8, k_T0, k_T1, k_T2, k_T3, k_T4, k_T5, k_T6, k_T7, k_T8, lp_nx, lp_ct, u_add, u_int, o_sub, o_cmp, o_neg, o_isN0, o_isN1, o_isI0, o_isI1, p_1_0, p_2_01, p_2_10, p_3_012, p_3_021, p_3_102, p_3_120, p_3_201, p_3_210, List.set_cons_succ, List.set_cons_zero, wipe_cons, wipe_nil, tupl_L, x_ok, k_And0, k_And1, k_Or0, k_Or1, e1, e2, e3, e5]
  exact x_cut hd
theorem err_InvalidMove {d : D} (hd : below 0 d = true) : ∀ h, callP 1 F__law_error [.exv "InvalidMove" ["given"] [d]] h = .ok (.str "InvalidMove") h := fun h =>
  c_P (h' := []) (by kernel_rfl) rfl (by simp [belowL, below, hd]) rfl
theorem fld_InvalidMove {d : D} (hd : below 0 d = true) : ∀ h, callP 2 F__law_field [.exv "InvalidMove" ["given"] [d], .str "InvalidMove"] h = .ok d h := fun h => by
  refine c_P (h' := []) ?_ rfl (by simp [belowL, below, hd]) hd
  have ei : initE 2 [D.exv "InvalidMove" ["given"] [d], .str "InvalidMove"] = [some (.exv "InvalidMove" ["given"] [d]), some (.str "InvalidMove")] := rfl
  have e1 : ∀ h : AH, inUD false (.str "InvalidMove") (.lst [.str "InvalidRows", .str "InvalidPlan", .str "InvalidTurns", .str "InvalidChain", .str "InvalidExchanges"]) h = .ok (.bl false) h := fun h => by kernel_rfl
  have e2 : ∀ h : AH, inUD false (.str "InvalidMove") (.lst [.str "InvalidWishes", .str "InUse"]) h = .ok (.bl false) h := fun h => by kernel_rfl
  have e3 : ∀ h : AH, inUD false (.str "InvalidMove") (.lst [.str "NothingToUndo", .str ""]) h = .ok (.bl false) h := fun h => by kernel_rfl
  have e4 : ∀ h : AH, eqD (.str "InvalidMove") (.str "Broken") h = .ok (.bl false) h := fun h => by kernel_rfl
  have e5 : ∀ h : AH, xatD xCl_given "given" (.exv "InvalidMove" ["given"] [d]) h = .ok d h := fun h => by kernel_rfl
  simp only [F__law_field, m__law_field, f_T, ei, e4, b_ok, b_bad, t_ok, t_bad, e_C, e_V0, e_V1, e_V2, e_V3, e_V4, e_V5, e_V6, e_V7, e_V8, e_V9, e_V10, k_Q, k_Bl, k_TruB, k_TruI, k_TruN, k_NotT, k_AndT1, k_AndT0, k_OrT1, k_OrT0, k_And1, k_And0, k_Or1, k_Or0, k_Not, k_If1, k_If0, k_Cons, k_Tup, k_Lst, k_Frz, k_Own, k_Call, k_CallK, k_Chain1, k_Chain0, k_Chain2, e_Chain, e_Bin, e_BinF, e_Un, e_Bl, e_Tru, e_NotT, e_AndT, e_OrT, e_And, e_Or, e_Not, e_If, e_Nil, e_Cons, e_Tup, e_Lst, e_Frz, e_Own, e_CB, e_CBF, e_Call, e_CallP, k_CallKP, e_CallKP, e_CallK, go_nx, go_rt, go_bk, go_ct, e_Next, e_Seq, k_Drop, e_Drop, k_Ret, e_Ret, k_IfS1, k_IfS0, e_IfS, g_Name, g_Nil, g_Cons, g_Tup, k_Nx, k_Asg, e_Asg, k_Par, e_Par, k_Par3, e_Par3, k_Aug2, k_Aug, e_Aug, k_SeqL, k_SeqS, k_SeqT, i_Seq, k_R1, i_R1, k_R2, i_R2, k_For, e_For, k_Turn, k_Lc, e_Lc, k_Wh1, k_Wh0, r_nx, r_rt, x_ok, x_same, k_RevT, e_RevT, k_RevL, e_RevL, k_Rg1, e_Rg1, k_Rg2, e_Rg2, e_LstRg, e_TupRg, k_EnumT, k_EnumL, e_Enum, k_UL, k_US, k_UT, i_U, e_Disp, e_DNew, k_StarT, e_Star, e_NoPart, k_Part, e_Part, k_SlUT, k_SlUL, k_Sl1, e_SlU, k_SlLL, k_SlLS, e_SlL, k_Split, e_Split, k_Join2, k_Join, e_Join, e_Meth0, g_Seq2T, g_Seq2L, g_Seq3L, g_Seq3T, e_SubU, e_Fld, e_MakeS, k_Cm2, e_Cm2, k_DicF, e_DicF, e_SortS, e_Meth, e_V11, e_V12, e_V13, e_V14, e_V15, e_V16, e_V17, e_V18, e_V19, e_V20, e_V21, e_V22, e_V23, e_V24, e_V25, e_V26, e_V27, e_V28, e_V29, e_V30, k_L0, k_L1, k_L2, k_L3, k_L4, k_L5, k_L6, k_L7, k_L8, k_T0, k_T1, k_T2, k_T3, k_T4, k_T5, k_T6, k_T7, k_T8, lp_nx, lp_ct, u_add, u_int, o_sub, o_cmp, o_neg, o_isN0, o_isN1, o_isI0, o_isI1, p_1_0, p_2_01, p_2_10, p_3_012, p_3_021, p_3_102, p_3_120, p_3_201, p_3_210, List.set_cons_succ, List.set_cons_zero, wipe_cons, wipe_nil, tupl_L, x_ok, k_And0, k_And1, k_Or0, k_Or1, e1, e2, e3, e5]
  exact x_cut hd
theorem err_InvalidTurn {d : D} (hd : below 0 d = true) : ∀ h, callP 1 F__law_error [.exv "InvalidTurn" ["given"] [d]] h = .ok (.str "InvalidTurn") h := fun h =>
  c_P (h' := []) (by kernel_rfl) rfl (by simp [belowL, below, hd]) rfl
theorem fld_InvalidTurn {d : D} (hd : below 0 d = true) : ∀ h, callP 2 F__law_field [.exv "InvalidTurn" ["given"] [d], .str "InvalidTurn"] h = .ok d h := fun h => by
  refine c_P (h' := []) ?_ rfl (by simp [belowL, below, hd]) hd
  have ei : initE 2 [D.exv "InvalidTurn" ["given"] [d], .str "InvalidTurn"] = [some (.exv "InvalidTurn" ["given"] [d]), some (.str "InvalidTurn")] := rfl
  have e1 : ∀ h : AH, inUD false (.str "InvalidTurn") (.lst [.str "InvalidRows", .str "InvalidPlan", .str "InvalidTurns", .str "InvalidChain", .str "InvalidExchanges"]) h = .ok (.bl false) h := fun h => by kernel_rfl
  have e2 : ∀ h : AH, inUD false (.str "InvalidTurn") (.lst [.str "InvalidWishes", .str "InUse"]) h = .ok (.bl false) h := fun h => by kernel_rfl
  have e3 : ∀ h : AH, inUD false (.str "InvalidTurn") (.lst [.str "NothingToUndo", .str ""]) h = .ok (.bl false) h := fun h => by kernel_rfl
  have e4 : ∀ h : AH, eqD (.str "InvalidTurn") (.str "Broken") h = .ok (.bl false) h := fun h => by kernel_rfl
  have e5 : ∀ h : AH, xatD xCl_given "given" (.exv "InvalidTurn" ["given"] [d]) h = .ok d h := fun h => by kernel_rfl
  simp only [F__law_field, m__law_field, f_T, ei, e4, b_ok, b_bad, t_ok, t_bad, e_C, e_V0, e_V1, e_V2, e_V3, e_V4, e_V5, e_V6, e_V7, e_V8, e_V9, e_V10, k_Q, k_Bl, k_TruB, k_TruI, k_TruN, k_NotT, k_AndT1, k_AndT0, k_OrT1, k_OrT0, k_And1, k_And0, k_Or1, k_Or0, k_Not, k_If1, k_If0, k_Cons, k_Tup, k_Lst, k_Frz, k_Own, k_Call, k_CallK, k_Chain1, k_Chain0, k_Chain2, e_Chain, e_Bin, e_BinF, e_Un, e_Bl, e_Tru, e_NotT, e_AndT, e_OrT, e_And, e_Or, e_Not, e_If, e_Nil, e_Cons, e_Tup, e_Lst, e_Frz, e_Own, e_CB, e_CBF, e_Call, e_CallP, k_CallKP, e_CallKP, e_CallK, go_nx, go_rt, go_bk, go_ct, e_Next, e_Seq, k_Drop, e_Drop, k_Ret, e_Ret, k_IfS1, k_IfS0, e_IfS, g_Name, g_Nil, g_Cons, g_Tup, k_Nx, k_Asg, e_Asg, k_Par, e_Par, k_Par3, e_Par3, k_Aug2, k_Aug, e_Aug, k_SeqL, k_SeqS, k_SeqT, i_Seq, k_R1, i_R1, k_R2, i_R2, k_For, e_For, k_Turn, k_Lc, e_Lc, k_Wh1, k_Wh0, r_nx, r_rt, x_ok, x_same, k_RevT, e_RevT, k_RevL, e_RevL, k_Rg1, e_Rg1, k_Rg2, e_Rg2, e_LstRg, e_TupRg, k_EnumT, k_EnumL, e_Enum, k_UL, k_US, k_UT, i_U, e_Disp, e_DNew, k_StarT, e_Star, e_NoPart, k_Part, e_Part, k_SlUT, k_SlUL, k_Sl1, e_SlU, k_SlLL, k_SlLS, e_SlL, k_Split, e_Split, k_Join2, k_Join, e_Join, e_Meth0, g_Seq2T, g_Seq2L, g_Seq3L, g_Seq3T, e_SubU, e_Fld, e_MakeS, k_Cm2, e_Cm2, k_DicF, e_DicF, e_SortS, e_Meth, e_V11, e_V12, e_V13, e_V14, e_V15, e_V16, e_V17, e_V18, e_V19, e_V20, e_V21, e_V22, e_V23, e_V24, e_V25, e_V26, e_V27, e_V28, e_V29, e_V30, k_L0, k_L1, k_L2, k_L3, k_L4, k_L5, k_L6, k_L7, k_L8, k_T0, k_T1, k_T2, k_T3, k_T4, k_T5, k_T6, k_T7, k_T8, lp_nx, lp_ct, u_add, u_int, o_sub, o_cmp, o_neg, o_isN0, o_isN1, o_isI0, o_isI1, p_1_0, p_2_01, p_2_10, p_3_012, p_3_021, p_3_102, p_3_120, p_3_201, p_3_210, List.set_cons_succ, List.set_cons_zero, wipe_cons, wipe_nil, tupl_L, x_ok, k_And0, k_And1, k_Or0, k_Or1, e1, e2, e3, e5]
  exact x_cut hd
theorem err_InvalidLot {d : D} (hd : below 0 d = true) : ∀ h, callP 1 F__law_error [.exv "InvalidLot" ["given"] [d]] h = .ok (.str "InvalidLot") h := fun h =>
  c_P (h' := []) (by kernel_rfl) rfl (by simp [belowL, below, hd]) rfl
theorem fld_InvalidLot {d : D} (hd : below 0 d = true) : ∀ h, callP 2 F__law_field [.exv "InvalidLot" ["given"] [d], .str "InvalidLot"] h = .ok d h := fun h => by
  refine c_P (h' := []) ?_ rfl (by simp [belowL, below, hd]) hd
  have ei : initE 2 [D.exv "InvalidLot" ["given"] [d], .str "InvalidLot"] = [some (.exv "InvalidLot" ["given"] [d]), some (.str "InvalidLot")] := rfl
  have e1 : ∀ h : AH, inUD false (.str "InvalidLot") (.lst [.str "InvalidRows", .str "InvalidPlan", .str "InvalidTurns", .str "InvalidChain", .str "InvalidExchanges"]) h = .ok (.bl false) h := fun h => by kernel_rfl
  have e2 : ∀ h : AH, inUD false (.str "InvalidLot") (.lst [.str "InvalidWishes", .str "InUse"]) h = .ok (.bl false) h := fun h => by kernel_rfl
  have e3 : ∀ h : AH, inUD false (.str "InvalidLot") (.lst [.str "NothingToUndo", .str ""]) h = .ok (.bl false) h := fun h => by kernel_rfl
  have e4 : ∀ h : AH, eqD (.str "InvalidLot") (.str "Broken") h = .ok (.bl false) h := fun h => by kernel_rfl
  have e5 : ∀ h : AH, xatD xCl_given "given" (.exv "InvalidLot" ["given"] [d]) h = .ok d h := fun h => by kernel_rfl
  simp only [F__law_field, m__law_field, f_T, ei, e4, b_ok, b_bad, t_ok, t_bad, e_C, e_V0, e_V1, e_V2, e_V3, e_V4, e_V5, e_V6, e_V7, e_V8, e_V9, e_V10, k_Q, k_Bl, k_TruB, k_TruI, k_TruN, k_NotT, k_AndT1, k_AndT0, k_OrT1, k_OrT0, k_And1, k_And0, k_Or1, k_Or0, k_Not, k_If1, k_If0, k_Cons, k_Tup, k_Lst, k_Frz, k_Own, k_Call, k_CallK, k_Chain1, k_Chain0, k_Chain2, e_Chain, e_Bin, e_BinF, e_Un, e_Bl, e_Tru, e_NotT, e_AndT, e_OrT, e_And, e_Or, e_Not, e_If, e_Nil, e_Cons, e_Tup, e_Lst, e_Frz, e_Own, e_CB, e_CBF, e_Call, e_CallP, k_CallKP, e_CallKP, e_CallK, go_nx, go_rt, go_bk, go_ct, e_Next, e_Seq, k_Drop, e_Drop, k_Ret, e_Ret, k_IfS1, k_IfS0, e_IfS, g_Name, g_Nil, g_Cons, g_Tup, k_Nx, k_Asg, e_Asg, k_Par, e_Par, k_Par3, e_Par3, k_Aug2, k_Aug, e_Aug, k_SeqL, k_SeqS, k_SeqT, i_Seq, k_R1, i_R1, k_R2, i_R2, k_For, e_For, k_Turn, k_Lc, e_Lc, k_Wh1, k_Wh0, r_nx, r_rt, x_ok, x_same, k_RevT, e_RevT, k_RevL, e_RevL, k_Rg1, e_Rg1, k_Rg2, e_Rg2, e_LstRg, e_TupRg, k_EnumT, k_EnumL, e_Enum, k_UL, k_US, k_UT, i_U, e_Disp, e_DNew, k_StarT, e_Star, e_NoPart, k_Part, e_Part, k_SlUT, k_SlUL, k_Sl1, e_SlU, k_SlLL, k_SlLS, e_SlL, k_Split, e_Split, k_Join2, k_Join, e_Join, e_Meth0, g_Seq2T, g_Seq2L, g_Seq3L, g_Seq3T, e_SubU, e_Fld, e_MakeS, k_Cm2, e_Cm2, k_DicF, e_DicF, e_SortS, e_Meth, e_V11, e_V12, e_V13, e_V14, e_V15, e_V16, e_V17, e_V18, e_V19, e_V20, e_V21, e_V22, e_V23, e_V24, e_V25, e_V26, e_V27, e_V28, e_V29, e_V30, k_L0, k_L1, k_L2, k_L3, k_L4, k_L5, k_L6, k_L7, k_L8, k_T0, k_T1, k_T2, k_T3, k_T4, k_T5, k_T6, k_T7, k_T8, lp_nx, lp_ct, u_add, u_int, o_sub, o_cmp, o_neg, o_isN0, o_isN1, o_isI0, o_isI1, p_1_0, p_2_01, p_2_10, p_3_012, p_3_021, p_3_102, p_3_120, p_3_201, p_3_210, List.set_cons_succ, List.set_cons_zero, wipe_cons, wipe_nil, tupl_L, x_ok, k_And0, k_And1, k_Or0, k_Or1, e1, e2, e3, e5]
  exact x_cut hd
theorem err_InvalidName {d : D} (hd : below 0 d = true) : ∀ h, callP 1 F__law_error [.exv "InvalidName" ["given"] [d]] h = .ok (.str "InvalidName") h := fun h =>
  c_P (h' := []) (by kernel_rfl) rfl (by simp [belowL, below, hd]) rfl
theorem fld_InvalidName {d : D} (hd : below 0 d = true) : ∀ h, callP 2 F__law_field [.exv "InvalidName" ["given"] [d], .str "InvalidName"] h = .ok d h := fun h => by
  refine c_P (h' := []) ?_ rfl (by simp [belowL, below, hd]) hd
  have ei : initE 2 [D.exv "InvalidName" ["given"] [d], .str "InvalidName"] = [some (.exv "InvalidName" ["given"] [d]), some (.str "InvalidName")] := rfl
  have e1 : ∀ h : AH, inUD false (.str "InvalidName") (.lst [.str "InvalidRows", .str "InvalidPlan", .str "InvalidTurns", .str "InvalidChain", .str "InvalidExchanges"]) h = .ok (.bl false) h := fun h => by kernel_rfl
  have e2 : ∀ h : AH, inUD false (.str "InvalidName") (.lst [.str "InvalidWishes", .str "InUse"]) h = .ok (.bl false) h := fun h => by kernel_rfl
  have e3 : ∀ h : AH, inUD false (.str "InvalidName") (.lst [.str "NothingToUndo", .str ""]) h = .ok (.bl false) h := fun h => by kernel_rfl
  have e4 : ∀ h : AH, eqD (.str "InvalidName") (.str "Broken") h = .ok (.bl false) h := fun h => by kernel_rfl
  have e5 : ∀ h : AH, xatD xCl_given "given" (.exv "InvalidName" ["given"] [d]) h = .ok d h := fun h => by kernel_rfl
  simp only [F__law_field, m__law_field, f_T, ei, e4, b_ok, b_bad, t_ok, t_bad, e_C, e_V0, e_V1, e_V2, e_V3, e_V4, e_V5, e_V6, e_V7, e_V8, e_V9, e_V10, k_Q, k_Bl, k_TruB, k_TruI, k_TruN, k_NotT, k_AndT1, k_AndT0, k_OrT1, k_OrT0, k_And1, k_And0, k_Or1, k_Or0, k_Not, k_If1, k_If0, k_Cons, k_Tup, k_Lst, k_Frz, k_Own, k_Call, k_CallK, k_Chain1, k_Chain0, k_Chain2, e_Chain, e_Bin, e_BinF, e_Un, e_Bl, e_Tru, e_NotT, e_AndT, e_OrT, e_And, e_Or, e_Not, e_If, e_Nil, e_Cons, e_Tup, e_Lst, e_Frz, e_Own, e_CB, e_CBF, e_Call, e_CallP, k_CallKP, e_CallKP, e_CallK, go_nx, go_rt, go_bk, go_ct, e_Next, e_Seq, k_Drop, e_Drop, k_Ret, e_Ret, k_IfS1, k_IfS0, e_IfS, g_Name, g_Nil, g_Cons, g_Tup, k_Nx, k_Asg, e_Asg, k_Par, e_Par, k_Par3, e_Par3, k_Aug2, k_Aug, e_Aug, k_SeqL, k_SeqS, k_SeqT, i_Seq, k_R1, i_R1, k_R2, i_R2, k_For, e_For, k_Turn, k_Lc, e_Lc, k_Wh1, k_Wh0, r_nx, r_rt, x_ok, x_same, k_RevT, e_RevT, k_RevL, e_RevL, k_Rg1, e_Rg1, k_Rg2, e_Rg2, e_LstRg, e_TupRg, k_EnumT, k_EnumL, e_Enum, k_UL, k_US, k_UT, i_U, e_Disp, e_DNew, k_StarT, e_Star, e_NoPart, k_Part, e_Part, k_SlUT, k_SlUL, k_Sl1, e_SlU, k_SlLL, k_SlLS, e_SlL, k_Split, e_Split, k_Join2, k_Join, e_Join, e_Meth0, g_Seq2T, g_Seq2L, g_Seq3L, g_Seq3T, e_SubU, e_Fld, e_MakeS, k_Cm2, e_Cm2, k_DicF, e_DicF, e_SortS, e_Meth, e_V11, e_V12, e_V13, e_V14, e_V15, e_V16, e_V17, e_V18, e_V19, e_V20, e_V21, e_V22, e_V23, e_V24, e_V25, e_V26, e_V27, e_V28, e_V29, e_V30, k_L0, k_L1, k_L2, k_L3, k_L4, k_L5, k_L6, k_L7, k_L8, k_T0, k_T1, k_T2, k_T3, k_T4, k_T5, k_T6, k_T7, k_T8, lp_nx, lp_ct, u_add, u_int, o_sub, o_cmp, o_neg, o_isN0, o_isN1, o_isI0, o_isI1, p_1_0, p_2_01, p_2_10, p_3_012, p_3_021, p_3_102, p_3_120, p_3_201, p_3_210, List.set_cons_succ, List.set_cons_zero, wipe_cons, wipe_nil, tupl_L, x_ok, k_And0, k_And1, k_Or0, k_Or1, e1, e2, e3, e5]
  exact x_cut hd
theorem err_InvalidWish {d : D} (hd : below 0 d = true) : ∀ h, callP 1 F__law_error [.exv "InvalidWish" ["given"] [d]] h = .ok (.str "InvalidWish") h := fun h =>
  c_P (h' := []) (by kernel_rfl) rfl (by simp [belowL, below, hd]) rfl
theorem fld_InvalidWish {d : D} (hd : below 0 d = true) : ∀ h, callP 2 F__law_field [.exv "InvalidWish" ["given"] [d], .str "InvalidWish"] h = .ok d h := fun h => by
  refine c_P (h' := []) ?_ rfl (by simp [belowL, below, hd]) hd
  have ei : initE 2 [D.exv "InvalidWish" ["given"] [d], .str "InvalidWish"] = [some (.exv "InvalidWish" ["given"] [d]), some (.str "InvalidWish")] := rfl
  have e1 : ∀ h : AH, inUD false (.str "InvalidWish") (.lst [.str "InvalidRows", .str "InvalidPlan", .str "InvalidTurns", .str "InvalidChain", .str "InvalidExchanges"]) h = .ok (.bl false) h := fun h => by kernel_rfl
  have e2 : ∀ h : AH, inUD false (.str "InvalidWish") (.lst [.str "InvalidWishes", .str "InUse"]) h = .ok (.bl false) h := fun h => by kernel_rfl
  have e3 : ∀ h : AH, inUD false (.str "InvalidWish") (.lst [.str "NothingToUndo", .str ""]) h = .ok (.bl false) h := fun h => by kernel_rfl
  have e4 : ∀ h : AH, eqD (.str "InvalidWish") (.str "Broken") h = .ok (.bl false) h := fun h => by kernel_rfl
  have e5 : ∀ h : AH, xatD xCl_given "given" (.exv "InvalidWish" ["given"] [d]) h = .ok d h := fun h => by kernel_rfl
  simp only [F__law_field, m__law_field, f_T, ei, e4, b_ok, b_bad, t_ok, t_bad, e_C, e_V0, e_V1, e_V2, e_V3, e_V4, e_V5, e_V6, e_V7, e_V8, e_V9, e_V10, k_Q, k_Bl, k_TruB, k_TruI, k_TruN, k_NotT, k_AndT1, k_AndT0, k_OrT1, k_OrT0, k_And1, k_And0, k_Or1, k_Or0, k_Not, k_If1, k_If0, k_Cons, k_Tup, k_Lst, k_Frz, k_Own, k_Call, k_CallK, k_Chain1, k_Chain0, k_Chain2, e_Chain, e_Bin, e_BinF, e_Un, e_Bl, e_Tru, e_NotT, e_AndT, e_OrT, e_And, e_Or, e_Not, e_If, e_Nil, e_Cons, e_Tup, e_Lst, e_Frz, e_Own, e_CB, e_CBF, e_Call, e_CallP, k_CallKP, e_CallKP, e_CallK, go_nx, go_rt, go_bk, go_ct, e_Next, e_Seq, k_Drop, e_Drop, k_Ret, e_Ret, k_IfS1, k_IfS0, e_IfS, g_Name, g_Nil, g_Cons, g_Tup, k_Nx, k_Asg, e_Asg, k_Par, e_Par, k_Par3, e_Par3, k_Aug2, k_Aug, e_Aug, k_SeqL, k_SeqS, k_SeqT, i_Seq, k_R1, i_R1, k_R2, i_R2, k_For, e_For, k_Turn, k_Lc, e_Lc, k_Wh1, k_Wh0, r_nx, r_rt, x_ok, x_same, k_RevT, e_RevT, k_RevL, e_RevL, k_Rg1, e_Rg1, k_Rg2, e_Rg2, e_LstRg, e_TupRg, k_EnumT, k_EnumL, e_Enum, k_UL, k_US, k_UT, i_U, e_Disp, e_DNew, k_StarT, e_Star, e_NoPart, k_Part, e_Part, k_SlUT, k_SlUL, k_Sl1, e_SlU, k_SlLL, k_SlLS, e_SlL, k_Split, e_Split, k_Join2, k_Join, e_Join, e_Meth0, g_Seq2T, g_Seq2L, g_Seq3L, g_Seq3T, e_SubU, e_Fld, e_MakeS, k_Cm2, e_Cm2, k_DicF, e_DicF, e_SortS, e_Meth, e_V11, e_V12, e_V13, e_V14, e_V15, e_V16, e_V17, e_V18, e_V19, e_V20, e_V21, e_V22, e_V23, e_V24, e_V25, e_V26, e_V27, e_V28, e_V29, e_V30, k_L0, k_L1, k_L2, k_L3, k_L4, k_L5, k_L6, k_L7, k_L8, k_T0, k_T1, k_T2, k_T3, k_T4, k_T5, k_T6, k_T7, k_T8, lp_nx, lp_ct, u_add, u_int, o_sub, o_cmp, o_neg, o_isN0, o_isN1, o_isI0, o_isI1, p_1_0, p_2_01, p_2_10, p_3_012, p_3_021, p_3_102, p_3_120, p_3_201, p_3_210, List.set_cons_succ, List.set_cons_zero, wipe_cons, wipe_nil, tupl_L, x_ok, k_And0, k_And1, k_Or0, k_Or1, e1, e2, e3, e5]
  exact x_cut hd
theorem err_NotATable {d : D} (hd : below 0 d = true) : ∀ h, callP 1 F__law_error [.exv "NotATable" ["given"] [d]] h = .ok (.str "NotATable") h := fun h =>
  c_P (h' := []) (by kernel_rfl) rfl (by simp [belowL, below, hd]) rfl
theorem fld_NotATable {d : D} (hd : below 0 d = true) : ∀ h, callP 2 F__law_field [.exv "NotATable" ["given"] [d], .str "NotATable"] h = .ok d h := fun h => by
  refine c_P (h' := []) ?_ rfl (by simp [belowL, below, hd]) hd
  have ei : initE 2 [D.exv "NotATable" ["given"] [d], .str "NotATable"] = [some (.exv "NotATable" ["given"] [d]), some (.str "NotATable")] := rfl
  have e1 : ∀ h : AH, inUD false (.str "NotATable") (.lst [.str "InvalidRows", .str "InvalidPlan", .str "InvalidTurns", .str "InvalidChain", .str "InvalidExchanges"]) h = .ok (.bl false) h := fun h => by kernel_rfl
  have e2 : ∀ h : AH, inUD false (.str "NotATable") (.lst [.str "InvalidWishes", .str "InUse"]) h = .ok (.bl false) h := fun h => by kernel_rfl
  have e3 : ∀ h : AH, inUD false (.str "NotATable") (.lst [.str "NothingToUndo", .str ""]) h = .ok (.bl false) h := fun h => by kernel_rfl
  have e4 : ∀ h : AH, eqD (.str "NotATable") (.str "Broken") h = .ok (.bl false) h := fun h => by kernel_rfl
  have e5 : ∀ h : AH, xatD xCl_given "given" (.exv "NotATable" ["given"] [d]) h = .ok d h := fun h => by kernel_rfl
  simp only [F__law_field, m__law_field, f_T, ei, e4, b_ok, b_bad, t_ok, t_bad, e_C, e_V0, e_V1, e_V2, e_V3, e_V4, e_V5, e_V6, e_V7, e_V8, e_V9, e_V10, k_Q, k_Bl, k_TruB, k_TruI, k_TruN, k_NotT, k_AndT1, k_AndT0, k_OrT1, k_OrT0, k_And1, k_And0, k_Or1, k_Or0, k_Not, k_If1, k_If0, k_Cons, k_Tup, k_Lst, k_Frz, k_Own, k_Call, k_CallK, k_Chain1, k_Chain0, k_Chain2, e_Chain, e_Bin, e_BinF, e_Un, e_Bl, e_Tru, e_NotT, e_AndT, e_OrT, e_And, e_Or, e_Not, e_If, e_Nil, e_Cons, e_Tup, e_Lst, e_Frz, e_Own, e_CB, e_CBF, e_Call, e_CallP, k_CallKP, e_CallKP, e_CallK, go_nx, go_rt, go_bk, go_ct, e_Next, e_Seq, k_Drop, e_Drop, k_Ret, e_Ret, k_IfS1, k_IfS0, e_IfS, g_Name, g_Nil, g_Cons, g_Tup, k_Nx, k_Asg, e_Asg, k_Par, e_Par, k_Par3, e_Par3, k_Aug2, k_Aug, e_Aug, k_SeqL, k_SeqS, k_SeqT, i_Seq, k_R1, i_R1, k_R2, i_R2, k_For, e_For, k_Turn, k_Lc, e_Lc, k_Wh1, k_Wh0, r_nx, r_rt, x_ok, x_same, k_RevT, e_RevT, k_RevL, e_RevL, k_Rg1, e_Rg1, k_Rg2, e_Rg2, e_LstRg, e_TupRg, k_EnumT, k_EnumL, e_Enum, k_UL, k_US, k_UT, i_U, e_Disp, e_DNew, k_StarT, e_Star, e_NoPart, k_Part, e_Part, k_SlUT, k_SlUL, k_Sl1, e_SlU, k_SlLL, k_SlLS, e_SlL, k_Split, e_Split, k_Join2, k_Join, e_Join, e_Meth0, g_Seq2T, g_Seq2L, g_Seq3L, g_Seq3T, e_SubU, e_Fld, e_MakeS, k_Cm2, e_Cm2, k_DicF, e_DicF, e_SortS, e_Meth, e_V11, e_V12, e_V13, e_V14, e_V15, e_V16, e_V17, e_V18, e_V19, e_V20, e_V21, e_V22, e_V23, e_V24, e_V25, e_V26, e_V27, e_V28, e_V29, e_V30, k_L0, k_L1, k_L2, k_L3, k_L4, k_L5, k_L6, k_L7, k_L8, k_T0, k_T1, k_T2, k_T3, k_T4, k_T5, k_T6, k_T7, k_T8, lp_nx, lp_ct, u_add, u_int, o_sub, o_cmp, o_neg, o_isN0, o_isN1, o_isI0, o_isI1, p_1_0, p_2_01, p_2_10, p_3_012, p_3_021, p_3_102, p_3_120, p_3_201, p_3_210, List.set_cons_succ, List.set_cons_zero, wipe_cons, wipe_nil, tupl_L, x_ok, k_And0, k_And1, k_Or0, k_Or1, e1, e2, e3, e5]
  exact x_cut hd
theorem err_InvalidRows {d : D} (hd : below 0 d = true) : ∀ h, callP 1 F__law_error [.exv "InvalidRows" ["index"] [d]] h = .ok (.str "InvalidRows") h := fun h =>
  c_P (h' := []) (by kernel_rfl) rfl (by simp [belowL, below, hd]) rfl
theorem fld_InvalidRows {d : D} (hd : below 0 d = true) : ∀ h, callP 2 F__law_field [.exv "InvalidRows" ["index"] [d], .str "InvalidRows"] h = .ok d h := fun h => by
  refine c_P (h' := []) ?_ rfl (by simp [belowL, below, hd]) hd
  have ei : initE 2 [D.exv "InvalidRows" ["index"] [d], .str "InvalidRows"] = [some (.exv "InvalidRows" ["index"] [d]), some (.str "InvalidRows")] := rfl
  have e1 : ∀ h : AH, inUD false (.str "InvalidRows") (.lst [.str "InvalidRows", .str "InvalidPlan", .str "InvalidTurns", .str "InvalidChain", .str "InvalidExchanges"]) h = .ok (.bl true) h := fun h => by kernel_rfl
  have e2 : ∀ h : AH, inUD false (.str "InvalidRows") (.lst [.str "InvalidWishes", .str "InUse"]) h = .ok (.bl false) h := fun h => by kernel_rfl
  have e3 : ∀ h : AH, inUD false (.str "InvalidRows") (.lst [.str "NothingToUndo", .str ""]) h = .ok (.bl false) h := fun h => by kernel_rfl
  have e4 : ∀ h : AH, eqD (.str "InvalidRows") (.str "Broken") h = .ok (.bl false) h := fun h => by kernel_rfl
  have e5 : ∀ h : AH, xatD xCl_index "index" (.exv "InvalidRows" ["index"] [d]) h = .ok d h := fun h => by kernel_rfl
  simp only [F__law_field, m__law_field, f_T, ei, e4, b_ok, b_bad, t_ok, t_bad, e_C, e_V0, e_V1, e_V2, e_V3, e_V4, e_V5, e_V6, e_V7, e_V8, e_V9, e_V10, k_Q, k_Bl, k_TruB, k_TruI, k_TruN, k_NotT, k_AndT1, k_AndT0, k_OrT1, k_OrT0, k_And1, k_And0, k_Or1, k_Or0, k_Not, k_If1, k_If0, k_Cons, k_Tup, k_Lst, k_Frz, k_Own, k_Call, k_CallK, k_Chain1, k_Chain0, k_Chain2, e_Chain, e_Bin, e_BinF, e_Un, e_Bl, e_Tru, e_NotT, e_AndT, e_OrT, e_And, e_Or, e_Not, e_If, e_Nil, e_Cons, e_Tup, e_Lst, e_Frz, e_Own, e_CB, e_CBF, e_Call, e_CallP, k_CallKP, e_CallKP, e_CallK, go_nx, go_rt, go_bk, go_ct, e_Next, e_Seq, k_Drop, e_Drop, k_Ret, e_Ret, k_IfS1, k_IfS0, e_IfS, g_Name, g_Nil, g_Cons, g_Tup, k_Nx, k_Asg, e_Asg, k_Par, e_Par, k_Par3, e_Par3, k_Aug2, k_Aug, e_Aug, k_SeqL, k_SeqS, k_SeqT, i_Seq, k_R1, i_R1, k_R2, i_R2, k_For, e_For, k_Turn, k_Lc, e_Lc, k_Wh1, k_Wh0, r_nx, r_rt, x_ok, x_same, k_RevT, e_RevT, k_RevL, e_RevL, k_Rg1, e_Rg1, k_Rg2, e_Rg2, e_LstRg, e_TupRg, k_EnumT, k_EnumL, e_Enum, k_UL, k_US, k_UT, i_U, e_Disp, e_DNew, k_StarT, e_Star, e_NoPart, k_Part, e_Part, k_SlUT, k_SlUL, k_Sl1, e_SlU, k_SlLL, k_SlLS, e_SlL, k_Split, e_Split, k_Join2, k_Join, e_Join, e_Meth0, g_Seq2T, g_Seq2L, g_Seq3L, g_Seq3T, e_SubU, e_Fld, e_MakeS, k_Cm2, e_Cm2, k_DicF, e_DicF, e_SortS, e_Meth, e_V11, e_V12, e_V13, e_V14, e_V15, e_V16, e_V17, e_V18, e_V19, e_V20, e_V21, e_V22, e_V23, e_V24, e_V25, e_V26, e_V27, e_V28, e_V29, e_V30, k_L0, k_L1, k_L2, k_L3, k_L4, k_L5, k_L6, k_L7, k_L8, k_T0, k_T1, k_T2, k_T3, k_T4, k_T5, k_T6, k_T7, k_T8, lp_nx, lp_ct, u_add, u_int, o_sub, o_cmp, o_neg, o_isN0, o_isN1, o_isI0, o_isI1, p_1_0, p_2_01, p_2_10, p_3_012, p_3_021, p_3_102, p_3_120, p_3_201, p_3_210, List.set_cons_succ, List.set_cons_zero, wipe_cons, wipe_nil, tupl_L, x_ok, k_And0, k_And1, k_Or0, k_Or1, e1, e2, e3, e5]
  exact x_cut hd
theorem err_InvalidPlan {d : D} (hd : below 0 d = true) : ∀ h, callP 1 F__law_error [.exv "InvalidPlan" ["index"] [d]] h = .ok (.str "InvalidPlan") h := fun h =>
  c_P (h' := []) (by kernel_rfl) rfl (by simp [belowL, below, hd]) rfl
theorem fld_InvalidPlan {d : D} (hd : below 0 d = true) : ∀ h, callP 2 F__law_field [.exv "InvalidPlan" ["index"] [d], .str "InvalidPlan"] h = .ok d h := fun h => by
  refine c_P (h' := []) ?_ rfl (by simp [belowL, below, hd]) hd
  have ei : initE 2 [D.exv "InvalidPlan" ["index"] [d], .str "InvalidPlan"] = [some (.exv "InvalidPlan" ["index"] [d]), some (.str "InvalidPlan")] := rfl
  have e1 : ∀ h : AH, inUD false (.str "InvalidPlan") (.lst [.str "InvalidRows", .str "InvalidPlan", .str "InvalidTurns", .str "InvalidChain", .str "InvalidExchanges"]) h = .ok (.bl true) h := fun h => by kernel_rfl
  have e2 : ∀ h : AH, inUD false (.str "InvalidPlan") (.lst [.str "InvalidWishes", .str "InUse"]) h = .ok (.bl false) h := fun h => by kernel_rfl
  have e3 : ∀ h : AH, inUD false (.str "InvalidPlan") (.lst [.str "NothingToUndo", .str ""]) h = .ok (.bl false) h := fun h => by kernel_rfl
  have e4 : ∀ h : AH, eqD (.str "InvalidPlan") (.str "Broken") h = .ok (.bl false) h := fun h => by kernel_rfl
  have e5 : ∀ h : AH, xatD xCl_index "index" (.exv "InvalidPlan" ["index"] [d]) h = .ok d h := fun h => by kernel_rfl
  simp only [F__law_field, m__law_field, f_T, ei, e4, b_ok, b_bad, t_ok, t_bad, e_C, e_V0, e_V1, e_V2, e_V3, e_V4, e_V5, e_V6, e_V7, e_V8, e_V9, e_V10, k_Q, k_Bl, k_TruB, k_TruI, k_TruN, k_NotT, k_AndT1, k_AndT0, k_OrT1, k_OrT0, k_And1, k_And0, k_Or1, k_Or0, k_Not, k_If1, k_If0, k_Cons, k_Tup, k_Lst, k_Frz, k_Own, k_Call, k_CallK, k_Chain1, k_Chain0, k_Chain2, e_Chain, e_Bin, e_BinF, e_Un, e_Bl, e_Tru, e_NotT, e_AndT, e_OrT, e_And, e_Or, e_Not, e_If, e_Nil, e_Cons, e_Tup, e_Lst, e_Frz, e_Own, e_CB, e_CBF, e_Call, e_CallP, k_CallKP, e_CallKP, e_CallK, go_nx, go_rt, go_bk, go_ct, e_Next, e_Seq, k_Drop, e_Drop, k_Ret, e_Ret, k_IfS1, k_IfS0, e_IfS, g_Name, g_Nil, g_Cons, g_Tup, k_Nx, k_Asg, e_Asg, k_Par, e_Par, k_Par3, e_Par3, k_Aug2, k_Aug, e_Aug, k_SeqL, k_SeqS, k_SeqT, i_Seq, k_R1, i_R1, k_R2, i_R2, k_For, e_For, k_Turn, k_Lc, e_Lc, k_Wh1, k_Wh0, r_nx, r_rt, x_ok, x_same, k_RevT, e_RevT, k_RevL, e_RevL, k_Rg1, e_Rg1, k_Rg2, e_Rg2, e_LstRg, e_TupRg, k_EnumT, k_EnumL, e_Enum, k_UL, k_US, k_UT, i_U, e_Disp, e_DNew, k_StarT, e_Star, e_NoPart, k_Part, e_Part, k_SlUT, k_SlUL, k_Sl1, e_SlU, k_SlLL, k_SlLS, e_SlL, k_Split, e_Split, k_Join2, k_Join, e_Join, e_Meth0, g_Seq2T, g_Seq2L, g_Seq3L, g_Seq3T, e_SubU, e_Fld, e_MakeS, k_Cm2, e_Cm2, k_DicF, e_DicF, e_SortS, e_Meth, e_V11, e_V12, e_V13, e_V14, e_V15, e_V16, e_V17, e_V18, e_V19, e_V20, e_V21, e_V22, e_V23, e_V24, e_V25, e_V26, e_V27, e_V28, e_V29, e_V30, k_L0, k_L1, k_L2, k_L3, k_L4, k_L5, k_L6, k_L7, k_L8, k_T0, k_T1, k_T2, k_T3, k_T4, k_T5, k_T6, k_T7, k_T8, lp_nx, lp_ct, u_add, u_int, o_sub, o_cmp, o_neg, o_isN0, o_isN1, o_isI0, o_isI1, p_1_0, p_2_01, p_2_10, p_3_012, p_3_021, p_3_102, p_3_120, p_3_201, p_3_210, List.set_cons_succ, List.set_cons_zero, wipe_cons, wipe_nil, tupl_L, x_ok, k_And0, k_And1, k_Or0, k_Or1, e1, e2, e3, e5]
  exact x_cut hd
theorem err_InvalidTurns {d : D} (hd : below 0 d = true) : ∀ h, callP 1 F__law_error [.exv "InvalidTurns" ["index"] [d]] h = .ok (.str "InvalidTurns") h := fun h =>
  c_P (h' := []) (by kernel_rfl) rfl (by simp [belowL, below, hd]) rfl
theorem fld_InvalidTurns {d : D} (hd : below 0 d = true) : ∀ h, callP 2 F__law_field [.exv "InvalidTurns" ["index"] [d], .str "InvalidTurns"] h = .ok d h := fun h => by
  refine c_P (h' := []) ?_ rfl (by simp [belowL, below, hd]) hd
  have ei : initE 2 [D.exv "InvalidTurns" ["index"] [d], .str "InvalidTurns"] = [some (.exv "InvalidTurns" ["index"] [d]), some (.str "InvalidTurns")] := rfl
  have e1 : ∀ h : AH, inUD false (.str "InvalidTurns") (.lst [.str "InvalidRows", .str "InvalidPlan", .str "InvalidTurns", .str "InvalidChain", .str "InvalidExchanges"]) h = .ok (.bl true) h := fun h => by kernel_rfl
  have e2 : ∀ h : AH, inUD false (.str "InvalidTurns") (.lst [.str "InvalidWishes", .str "InUse"]) h = .ok (.bl false) h := fun h => by kernel_rfl
  have e3 : ∀ h : AH, inUD false (.str "InvalidTurns") (.lst [.str "NothingToUndo", .str ""]) h = .ok (.bl false) h := fun h => by kernel_rfl
  have e4 : ∀ h : AH, eqD (.str "InvalidTurns") (.str "Broken") h = .ok (.bl false) h := fun h => by kernel_rfl
  have e5 : ∀ h : AH, xatD xCl_index "index" (.exv "InvalidTurns" ["index"] [d]) h = .ok d h := fun h => by kernel_rfl
  simp only [F__law_field, m__law_field, f_T, ei, e4, b_ok, b_bad, t_ok, t_bad, e_C, e_V0, e_V1, e_V2, e_V3, e_V4, e_V5, e_V6, e_V7, e_V8, e_V9, e_V10, k_Q, k_Bl, k_TruB, k_TruI, k_TruN, k_NotT, k_AndT1, k_AndT0, k_OrT1, k_OrT0, k_And1, k_And0, k_Or1, k_Or0, k_Not, k_If1, k_If0, k_Cons, k_Tup, k_Lst, k_Frz, k_Own, k_Call, k_CallK, k_Chain1, k_Chain0, k_Chain2, e_Chain, e_Bin, e_BinF, e_Un, e_Bl, e_Tru, e_NotT, e_AndT, e_OrT, e_And, e_Or, e_Not, e_If, e_Nil, e_Cons, e_Tup, e_Lst, e_Frz, e_Own, e_CB, e_CBF, e_Call, e_CallP, k_CallKP, e_CallKP, e_CallK, go_nx, go_rt, go_bk, go_ct, e_Next, e_Seq, k_Drop, e_Drop, k_Ret, e_Ret, k_IfS1, k_IfS0, e_IfS, g_Name, g_Nil, g_Cons, g_Tup, k_Nx, k_Asg, e_Asg, k_Par, e_Par, k_Par3, e_Par3, k_Aug2, k_Aug, e_Aug, k_SeqL, k_SeqS, k_SeqT, i_Seq, k_R1, i_R1, k_R2, i_R2, k_For, e_For, k_Turn, k_Lc, e_Lc, k_Wh1, k_Wh0, r_nx, r_rt, x_ok, x_same, k_RevT, e_RevT, k_RevL, e_RevL, k_Rg1, e_Rg1, k_Rg2, e_Rg2, e_LstRg, e_TupRg, k_EnumT, k_EnumL, e_Enum, k_UL, k_US, k_UT, i_U, e_Disp, e_DNew, k_StarT, e_Star, e_NoPart, k_Part, e_Part, k_SlUT, k_SlUL, k_Sl1, e_SlU, k_SlLL, k_SlLS, e_SlL, k_Split, e_Split, k_Join2, k_Join, e_Join, e_Meth0, g_Seq2T, g_Seq2L, g_Seq3L, g_Seq3T, e_SubU, e_Fld, e_MakeS, k_Cm2, e_Cm2, k_DicF, e_DicF, e_SortS, e_Meth, e_V11, e_V12, e_V13, e_V14, e_V15, e_V16, e_V17, e_V18, e_V19, e_V20, e_V21, e_V22, e_V23, e_V24, e_V25, e_V26, e_V27, e_V28, e_V29, e_V30, k_L0, k_L1, k_L2, k_L3, k_L4, k_L5, k_L6, k_L7, k_L8, k_T0, k_T1, k_T2, k_T3, k_T4, k_T5, k_T6, k_T7, k_T8, lp_nx, lp_ct, u_add, u_int, o_sub, o_cmp, o_neg, o_isN0, o_isN1, o_isI0, o_isI1, p_1_0, p_2_01, p_2_10, p_3_012, p_3_021, p_3_102, p_3_120, p_3_201, p_3_210, List.set_cons_succ, List.set_cons_zero, wipe_cons, wipe_nil, tupl_L, x_ok, k_And0, k_And1, k_Or0, k_Or1, e1, e2, e3, e5]
  exact x_cut hd
theorem err_InvalidChain {d : D} (hd : below 0 d = true) : ∀ h, callP 1 F__law_error [.exv "InvalidChain" ["index"] [d]] h = .ok (.str "InvalidChain") h := fun h =>
  c_P (h' := []) (by kernel_rfl) rfl (by simp [belowL, below, hd]) rfl
theorem fld_InvalidChain {d : D} (hd : below 0 d = true) : ∀ h, callP 2 F__law_field [.exv "InvalidChain" ["index"] [d], .str "InvalidChain"] h = .ok d h := fun h => by
  refine c_P (h' := []) ?_ rfl (by simp [belowL, below, hd]) hd
  have ei : initE 2 [D.exv "InvalidChain" ["index"] [d], .str "InvalidChain"] = [some (.exv "InvalidChain" ["index"] [d]), some (.str "InvalidChain")] := rfl
  have e1 : ∀ h : AH, inUD false (.str "InvalidChain") (.lst [.str "InvalidRows", .str "InvalidPlan", .str "InvalidTurns", .str "InvalidChain", .str "InvalidExchanges"]) h = .ok (.bl true) h := fun h => by kernel_rfl
  have e2 : ∀ h : AH, inUD false (.str "InvalidChain") (.lst [.str "InvalidWishes", .str "InUse"]) h = .ok (.bl false) h := fun h => by kernel_rfl
  have e3 : ∀ h : AH, inUD false (.str "InvalidChain") (.lst [.str "NothingToUndo", .str ""]) h = .ok (.bl false) h := fun h => by kernel_rfl
  have e4 : ∀ h : AH, eqD (.str "InvalidChain") (.str "Broken") h = .ok (.bl false) h := fun h => by kernel_rfl
  have e5 : ∀ h : AH, xatD xCl_index "index" (.exv "InvalidChain" ["index"] [d]) h = .ok d h := fun h => by kernel_rfl
  simp only [F__law_field, m__law_field, f_T, ei, e4, b_ok, b_bad, t_ok, t_bad, e_C, e_V0, e_V1, e_V2, e_V3, e_V4, e_V5, e_V6, e_V7, e_V8, e_V9, e_V10, k_Q, k_Bl, k_TruB, k_TruI, k_TruN, k_NotT, k_AndT1, k_AndT0, k_OrT1, k_OrT0, k_And1, k_And0, k_Or1, k_Or0, k_Not, k_If1, k_If0, k_Cons, k_Tup, k_Lst, k_Frz, k_Own, k_Call, k_CallK, k_Chain1, k_Chain0, k_Chain2, e_Chain, e_Bin, e_BinF, e_Un, e_Bl, e_Tru, e_NotT, e_AndT, e_OrT, e_And, e_Or, e_Not, e_If, e_Nil, e_Cons, e_Tup, e_Lst, e_Frz, e_Own, e_CB, e_CBF, e_Call, e_CallP, k_CallKP, e_CallKP, e_CallK, go_nx, go_rt, go_bk, go_ct, e_Next, e_Seq, k_Drop, e_Drop, k_Ret, e_Ret, k_IfS1, k_IfS0, e_IfS, g_Name, g_Nil, g_Cons, g_Tup, k_Nx, k_Asg, e_Asg, k_Par, e_Par, k_Par3, e_Par3, k_Aug2, k_Aug, e_Aug, k_SeqL, k_SeqS, k_SeqT, i_Seq, k_R1, i_R1, k_R2, i_R2, k_For, e_For, k_Turn, k_Lc, e_Lc, k_Wh1, k_Wh0, r_nx, r_rt, x_ok, x_same, k_RevT, e_RevT, k_RevL, e_RevL, k_Rg1, e_Rg1, k_Rg2, e_Rg2, e_LstRg, e_TupRg, k_EnumT, k_EnumL, e_Enum, k_UL, k_US, k_UT, i_U, e_Disp, e_DNew, k_StarT, e_Star, e_NoPart, k_Part, e_Part, k_SlUT, k_SlUL, k_Sl1, e_SlU, k_SlLL, k_SlLS, e_SlL, k_Split, e_Split, k_Join2, k_Join, e_Join, e_Meth0, g_Seq2T, g_Seq2L, g_Seq3L, g_Seq3T, e_SubU, e_Fld, e_MakeS, k_Cm2, e_Cm2, k_DicF, e_DicF, e_SortS, e_Meth, e_V11, e_V12, e_V13, e_V14, e_V15, e_V16, e_V17, e_V18, e_V19, e_V20, e_V21, e_V22, e_V23, e_V24, e_V25, e_V26, e_V27, e_V28, e_V29, e_V30, k_L0, k_L1, k_L2, k_L3, k_L4, k_L5, k_L6, k_L7, k_L8, k_T0, k_T1, k_T2, k_T3, k_T4, k_T5, k_T6, k_T7, k_T8, lp_nx, lp_ct, u_add, u_int, o_sub, o_cmp, o_neg, o_isN0, o_isN1, o_isI0, o_isI1, p_1_0, p_2_01, p_2_10, p_3_012, p_3_021, p_3_102, p_3_120, p_3_201, p_3_210, List.set_cons_succ, List.set_cons_zero, wipe_cons, wipe_nil, tupl_L, x_ok, k_And0, k_And1, k_Or0, k_Or1, e1, e2, e3, e5]
  exact x_cut hd
theorem err_InvalidExchanges {d : D} (hd : below 0 d = true) : ∀ h, callP 1 F__law_error [.exv "InvalidExchanges" ["index"] [d]] h = .ok (.str "InvalidExchanges") h := fun h =>
  c_P (h' := []) (by kernel_rfl) rfl (by simp [belowL, below, hd]) rfl
theorem fld_InvalidExchanges {d : D} (hd : below 0 d = true) : ∀ h, callP 2 F__law_field [.exv "InvalidExchanges" ["index"] [d], .str "InvalidExchanges"] h = .ok d h := fun h => by
  refine c_P (h' := []) ?_ rfl (by simp [belowL, below, hd]) hd
  have ei : initE 2 [D.exv "InvalidExchanges" ["index"] [d], .str "InvalidExchanges"] = [some (.exv "InvalidExchanges" ["index"] [d]), some (.str "InvalidExchanges")] := rfl
  have e1 : ∀ h : AH, inUD false (.str "InvalidExchanges") (.lst [.str "InvalidRows", .str "InvalidPlan", .str "InvalidTurns", .str "InvalidChain", .str "InvalidExchanges"]) h = .ok (.bl true) h := fun h => by kernel_rfl
  have e2 : ∀ h : AH, inUD false (.str "InvalidExchanges") (.lst [.str "InvalidWishes", .str "InUse"]) h = .ok (.bl false) h := fun h => by kernel_rfl
  have e3 : ∀ h : AH, inUD false (.str "InvalidExchanges") (.lst [.str "NothingToUndo", .str ""]) h = .ok (.bl false) h := fun h => by kernel_rfl
  have e4 : ∀ h : AH, eqD (.str "InvalidExchanges") (.str "Broken") h = .ok (.bl false) h := fun h => by kernel_rfl
  have e5 : ∀ h : AH, xatD xCl_index "index" (.exv "InvalidExchanges" ["index"] [d]) h = .ok d h := fun h => by kernel_rfl
  simp only [F__law_field, m__law_field, f_T, ei, e4, b_ok, b_bad, t_ok, t_bad, e_C, e_V0, e_V1, e_V2, e_V3, e_V4, e_V5, e_V6, e_V7, e_V8, e_V9, e_V10, k_Q, k_Bl, k_TruB, k_TruI, k_TruN, k_NotT, k_AndT1, k_AndT0, k_OrT1, k_OrT0, k_And1, k_And0, k_Or1, k_Or0, k_Not, k_If1, k_If0, k_Cons, k_Tup, k_Lst, k_Frz, k_Own, k_Call, k_CallK, k_Chain1, k_Chain0, k_Chain2, e_Chain, e_Bin, e_BinF, e_Un, e_Bl, e_Tru, e_NotT, e_AndT, e_OrT, e_And, e_Or, e_Not, e_If, e_Nil, e_Cons, e_Tup, e_Lst, e_Frz, e_Own, e_CB, e_CBF, e_Call, e_CallP, k_CallKP, e_CallKP, e_CallK, go_nx, go_rt, go_bk, go_ct, e_Next, e_Seq, k_Drop, e_Drop, k_Ret, e_Ret, k_IfS1, k_IfS0, e_IfS, g_Name, g_Nil, g_Cons, g_Tup, k_Nx, k_Asg, e_Asg, k_Par, e_Par, k_Par3, e_Par3, k_Aug2, k_Aug, e_Aug, k_SeqL, k_SeqS, k_SeqT, i_Seq, k_R1, i_R1, k_R2, i_R2, k_For, e_For, k_Turn, k_Lc, e_Lc, k_Wh1, k_Wh0, r_nx, r_rt, x_ok, x_same, k_RevT, e_RevT, k_RevL, e_RevL, k_Rg1, e_Rg1, k_Rg2, e_Rg2, e_LstRg, e_TupRg, k_EnumT, k_EnumL, e_Enum, k_UL, k_US, k_UT, i_U, e_Disp, e_DNew, k_StarT, e_Star, e_NoPart, k_Part, e_Part, k_SlUT, k_SlUL, k_Sl1, e_SlU, k_SlLL, k_SlLS, e_SlL, k_Split, e_Split, k_Join2, k_Join, e_Join, e_Meth0, g_Seq2T, g_Seq2L, g_Seq3L, g_Seq3T, e_SubU, e_Fld, e_MakeS, k_Cm2, e_Cm2, k_DicF, e_DicF, e_SortS, e_Meth, e_V11, e_V12, e_V13, e_V14, e_V15, e_V16, e_V17, e_V18, e_V19, e_V20, e_V21, e_V22, e_V23, e_V24, e_V25, e_V26, e_V27, e_V28, e_V29, e_V30, k_L0, k_L1, k_L2, k_L3, k_L4, k_L5, k_L6, k_L7, k_L8, k_T0, k_T1, k_T2, k_T3, k_T4, k_T5, k_T6, k_T7, k_T8, lp_nx, lp_ct, u_add, u_int, o_sub, o_cmp, o_neg, o_isN0, o_isN1, o_isI0, o_isI1, p_1_0, p_2_01, p_2_10, p_3_012, p_3_021, p_3_102, p_3_120, p_3_201, p_3_210, List.set_cons_succ, List.set_cons_zero, wipe_cons, wipe_nil, tupl_L, x_ok, k_And0, k_And1, k_Or0, k_Or1, e1, e2, e3, e5]
  exact x_cut hd
theorem err_InvalidWishes {d : D} (hd : below 0 d = true) : ∀ h, callP 1 F__law_error [.exv "InvalidWishes" ["index"] [d]] h = .ok (.str "InvalidWishes") h := fun h =>
  c_P (h' := []) (by kernel_rfl) rfl (by simp [belowL, below, hd]) rfl
theorem fld_InvalidWishes {d : D} (hd : below 0 d = true) : ∀ h, callP 2 F__law_field [.exv "InvalidWishes" ["index"] [d], .str "InvalidWishes"] h = .ok d h := fun h => by
  refine c_P (h' := []) ?_ rfl (by simp [belowL, below, hd]) hd
  have ei : initE 2 [D.exv "InvalidWishes" ["index"] [d], .str "InvalidWishes"] = [some (.exv "InvalidWishes" ["index"] [d]), some (.str "InvalidWishes")] := rfl
  have e1 : ∀ h : AH, inUD false (.str "InvalidWishes") (.lst [.str "InvalidRows", .str "InvalidPlan", .str "InvalidTurns", .str "InvalidChain", .str "InvalidExchanges"]) h = .ok (.bl false) h := fun h => by kernel_rfl
  have e2 : ∀ h : AH, inUD false (.str "InvalidWishes") (.lst [.str "InvalidWishes", .str "InUse"]) h = .ok (.bl true) h := fun h => by kernel_rfl
  have e3 : ∀ h : AH, inUD false (.str "InvalidWishes") (.lst [.str "NothingToUndo", .str ""]) h = .ok (.bl false) h := fun h => by kernel_rfl
  have e4 : ∀ h : AH, eqD (.str "InvalidWishes") (.str "Broken") h = .ok (.bl false) h := fun h => by kernel_rfl
  have e5 : ∀ h : AH, xatD xCl_index "index" (.exv "InvalidWishes" ["index"] [d]) h = .ok d h := fun h => by kernel_rfl
  simp only [F__law_field, m__law_field, f_T, ei, e4, b_ok, b_bad, t_ok, t_bad, e_C, e_V0, e_V1, e_V2, e_V3, e_V4, e_V5, e_V6, e_V7, e_V8, e_V9, e_V10, k_Q, k_Bl, k_TruB, k_TruI, k_TruN, k_NotT, k_AndT1, k_AndT0, k_OrT1, k_OrT0, k_And1, k_And0, k_Or1, k_Or0, k_Not, k_If1, k_If0, k_Cons, k_Tup, k_Lst, k_Frz, k_Own, k_Call, k_CallK, k_Chain1, k_Chain0, k_Chain2, e_Chain, e_Bin, e_BinF, e_Un, e_Bl, e_Tru, e_NotT, e_AndT, e_OrT, e_And, e_Or, e_Not, e_If, e_Nil, e_Cons, e_Tup, e_Lst, e_Frz, e_Own, e_CB, e_CBF, e_Call, e_CallP, k_CallKP, e_CallKP, e_CallK, go_nx, go_rt, go_bk, go_ct, e_Next, e_Seq, k_Drop, e_Drop, k_Ret, e_Ret, k_IfS1, k_IfS0, e_IfS, g_Name, g_Nil, g_Cons, g_Tup, k_Nx, k_Asg, e_Asg, k_Par, e_Par, k_Par3, e_Par3, k_Aug2, k_Aug, e_Aug, k_SeqL, k_SeqS, k_SeqT, i_Seq, k_R1, i_R1, k_R2, i_R2, k_For, e_For, k_Turn, k_Lc, e_Lc, k_Wh1, k_Wh0, r_nx, r_rt, x_ok, x_same, k_RevT, e_RevT, k_RevL, e_RevL, k_Rg1, e_Rg1, k_Rg2, e_Rg2, e_LstRg, e_TupRg, k_EnumT, k_EnumL, e_Enum, k_UL, k_US, k_UT, i_U, e_Disp, e_DNew, k_StarT, e_Star, e_NoPart, k_Part, e_Part, k_SlUT, k_SlUL, k_Sl1, e_SlU, k_SlLL, k_SlLS, e_SlL, k_Split, e_Split, k_Join2, k_Join, e_Join, e_Meth0, g_Seq2T, g_Seq2L, g_Seq3L, g_Seq3T, e_SubU, e_Fld, e_MakeS, k_Cm2, e_Cm2, k_DicF, e_DicF, e_SortS, e_Meth, e_V11, e_V12, e_V13, e_V14, e_V15, e_V16, e_V17, e_V18, e_V19, e_V20, e_V21, e_V22, e_V23, e_V24, e_V25, e_V26, e_V27, e_V28, e_V29, e_V30, k_L0, k_L1, k_L2, k_L3, k_L4, k_L5, k_L6, k_L7, k_L8, k_T0, k_T1, k_T2, k_T3, k_T4, k_T5, k_T6, k_T7, k_T8, lp_nx, lp_ct, u_add, u_int, o_sub, o_cmp, o_neg, o_isN0, o_isN1, o_isI0, o_isI1, p_1_0, p_2_01, p_2_10, p_3_012, p_3_021, p_3_102, p_3_120, p_3_201, p_3_210, List.set_cons_succ, List.set_cons_zero, wipe_cons, wipe_nil, tupl_L, x_ok, k_And0, k_And1, k_Or0, k_Or1, e1, e2, e3, e5]
  exact x_cut hd
theorem err_UnknownName {d : D} (hd : below 0 d = true) : ∀ h, callP 1 F__law_error [.exv "UnknownName" ["given"] [d]] h = .ok (.str "UnknownName") h := fun h =>
  c_P (h' := []) (by kernel_rfl) rfl (by simp [belowL, below, hd]) rfl
theorem fld_UnknownName {d : D} (hd : below 0 d = true) : ∀ h, callP 2 F__law_field [.exv "UnknownName" ["given"] [d], .str "UnknownName"] h = .ok d h := fun h => by
  refine c_P (h' := []) ?_ rfl (by simp [belowL, below, hd]) hd
  have ei : initE 2 [D.exv "UnknownName" ["given"] [d], .str "UnknownName"] = [some (.exv "UnknownName" ["given"] [d]), some (.str "UnknownName")] := rfl
  have e1 : ∀ h : AH, inUD false (.str "UnknownName") (.lst [.str "InvalidRows", .str "InvalidPlan", .str "InvalidTurns", .str "InvalidChain", .str "InvalidExchanges"]) h = .ok (.bl false) h := fun h => by kernel_rfl
  have e2 : ∀ h : AH, inUD false (.str "UnknownName") (.lst [.str "InvalidWishes", .str "InUse"]) h = .ok (.bl false) h := fun h => by kernel_rfl
  have e3 : ∀ h : AH, inUD false (.str "UnknownName") (.lst [.str "NothingToUndo", .str ""]) h = .ok (.bl false) h := fun h => by kernel_rfl
  have e4 : ∀ h : AH, eqD (.str "UnknownName") (.str "Broken") h = .ok (.bl false) h := fun h => by kernel_rfl
  have e5 : ∀ h : AH, xatD xCl_given "given" (.exv "UnknownName" ["given"] [d]) h = .ok d h := fun h => by kernel_rfl
  simp only [F__law_field, m__law_field, f_T, ei, e4, b_ok, b_bad, t_ok, t_bad, e_C, e_V0, e_V1, e_V2, e_V3, e_V4, e_V5, e_V6, e_V7, e_V8, e_V9, e_V10, k_Q, k_Bl, k_TruB, k_TruI, k_TruN, k_NotT, k_AndT1, k_AndT0, k_OrT1, k_OrT0, k_And1, k_And0, k_Or1, k_Or0, k_Not, k_If1, k_If0, k_Cons, k_Tup, k_Lst, k_Frz, k_Own, k_Call, k_CallK, k_Chain1, k_Chain0, k_Chain2, e_Chain, e_Bin, e_BinF, e_Un, e_Bl, e_Tru, e_NotT, e_AndT, e_OrT, e_And, e_Or, e_Not, e_If, e_Nil, e_Cons, e_Tup, e_Lst, e_Frz, e_Own, e_CB, e_CBF, e_Call, e_CallP, k_CallKP, e_CallKP, e_CallK, go_nx, go_rt, go_bk, go_ct, e_Next, e_Seq, k_Drop, e_Drop, k_Ret, e_Ret, k_IfS1, k_IfS0, e_IfS, g_Name, g_Nil, g_Cons, g_Tup, k_Nx, k_Asg, e_Asg, k_Par, e_Par, k_Par3, e_Par3, k_Aug2, k_Aug, e_Aug, k_SeqL, k_SeqS, k_SeqT, i_Seq, k_R1, i_R1, k_R2, i_R2, k_For, e_For, k_Turn, k_Lc, e_Lc, k_Wh1, k_Wh0, r_nx, r_rt, x_ok, x_same, k_RevT, e_RevT, k_RevL, e_RevL, k_Rg1, e_Rg1, k_Rg2, e_Rg2, e_LstRg, e_TupRg, k_EnumT, k_EnumL, e_Enum, k_UL, k_US, k_UT, i_U, e_Disp, e_DNew, k_StarT, e_Star, e_NoPart, k_Part, e_Part, k_SlUT, k_SlUL, k_Sl1, e_SlU, k_SlLL, k_SlLS, e_SlL, k_Split, e_Split, k_Join2, k_Join, e_Join, e_Meth0, g_Seq2T, g_Seq2L, g_Seq3L, g_Seq3T, e_SubU, e_Fld, e_MakeS, k_Cm2, e_Cm2, k_DicF, e_DicF, e_SortS, e_Meth, e_V11, e_V12, e_V13, e_V14, e_V15, e_V16, e_V17, e_V18, e_V19, e_V20, e_V21, e_V22, e_V23, e_V24, e_V25, e_V26, e_V27, e_V28, e_V29, e_V30, k_L0, k_L1, k_L2, k_L3, k_L4, k_L5, k_L6, k_L7, k_L8, k_T0, k_T1, k_T2, k_T3, k_T4, k_T5, k_T6, k_T7, k_T8, lp_nx, lp_ct, u_add, u_int, o_sub, o_cmp, o_neg, o_isN0, o_isN1, o_isI0, o_isI1, p_1_0, p_2_01, p_2_10, p_3_012, p_3_021, p_3_102, p_3_120, p_3_201, p_3_210, List.set_cons_succ, List.set_cons_zero, wipe_cons, wipe_nil, tupl_L, x_ok, k_And0, k_And1, k_Or0, k_Or1, e1, e2, e3, e5]
  exact x_cut hd
theorem err_InUse {d : D} (hd : below 0 d = true) : ∀ h, callP 1 F__law_error [.exv "InUse" ["index"] [d]] h = .ok (.str "InUse") h := fun h =>
  c_P (h' := []) (by kernel_rfl) rfl (by simp [belowL, below, hd]) rfl
theorem fld_InUse {d : D} (hd : below 0 d = true) : ∀ h, callP 2 F__law_field [.exv "InUse" ["index"] [d], .str "InUse"] h = .ok d h := fun h => by
  refine c_P (h' := []) ?_ rfl (by simp [belowL, below, hd]) hd
  have ei : initE 2 [D.exv "InUse" ["index"] [d], .str "InUse"] = [some (.exv "InUse" ["index"] [d]), some (.str "InUse")] := rfl
  have e1 : ∀ h : AH, inUD false (.str "InUse") (.lst [.str "InvalidRows", .str "InvalidPlan", .str "InvalidTurns", .str "InvalidChain", .str "InvalidExchanges"]) h = .ok (.bl false) h := fun h => by kernel_rfl
  have e2 : ∀ h : AH, inUD false (.str "InUse") (.lst [.str "InvalidWishes", .str "InUse"]) h = .ok (.bl true) h := fun h => by kernel_rfl
  have e3 : ∀ h : AH, inUD false (.str "InUse") (.lst [.str "NothingToUndo", .str ""]) h = .ok (.bl false) h := fun h => by kernel_rfl
  have e4 : ∀ h : AH, eqD (.str "InUse") (.str "Broken") h = .ok (.bl false) h := fun h => by kernel_rfl
  have e5 : ∀ h : AH, xatD xCl_index "index" (.exv "InUse" ["index"] [d]) h = .ok d h := fun h => by kernel_rfl
  simp only [F__law_field, m__law_field, f_T, ei, e4, b_ok, b_bad, t_ok, t_bad, e_C, e_V0, e_V1, e_V2, e_V3, e_V4, e_V5, e_V6, e_V7, e_V8, e_V9, e_V10, k_Q, k_Bl, k_TruB, k_TruI, k_TruN, k_NotT, k_AndT1, k_AndT0, k_OrT1, k_OrT0, k_And1, k_And0, k_Or1, k_Or0, k_Not, k_If1, k_If0, k_Cons, k_Tup, k_Lst, k_Frz, k_Own, k_Call, k_CallK, k_Chain1, k_Chain0, k_Chain2, e_Chain, e_Bin, e_BinF, e_Un, e_Bl, e_Tru, e_NotT, e_AndT, e_OrT, e_And, e_Or, e_Not, e_If, e_Nil, e_Cons, e_Tup, e_Lst, e_Frz, e_Own, e_CB, e_CBF, e_Call, e_CallP, k_CallKP, e_CallKP, e_CallK, go_nx, go_rt, go_bk, go_ct, e_Next, e_Seq, k_Drop, e_Drop, k_Ret, e_Ret, k_IfS1, k_IfS0, e_IfS, g_Name, g_Nil, g_Cons, g_Tup, k_Nx, k_Asg, e_Asg, k_Par, e_Par, k_Par3, e_Par3, k_Aug2, k_Aug, e_Aug, k_SeqL, k_SeqS, k_SeqT, i_Seq, k_R1, i_R1, k_R2, i_R2, k_For, e_For, k_Turn, k_Lc, e_Lc, k_Wh1, k_Wh0, r_nx, r_rt, x_ok, x_same, k_RevT, e_RevT, k_RevL, e_RevL, k_Rg1, e_Rg1, k_Rg2, e_Rg2, e_LstRg, e_TupRg, k_EnumT, k_EnumL, e_Enum, k_UL, k_US, k_UT, i_U, e_Disp, e_DNew, k_StarT, e_Star, e_NoPart, k_Part, e_Part, k_SlUT, k_SlUL, k_Sl1, e_SlU, k_SlLL, k_SlLS, e_SlL, k_Split, e_Split, k_Join2, k_Join, e_Join, e_Meth0, g_Seq2T, g_Seq2L, g_Seq3L, g_Seq3T, e_SubU, e_Fld, e_MakeS, k_Cm2, e_Cm2, k_DicF, e_DicF, e_SortS, e_Meth, e_V11, e_V12, e_V13, e_V14, e_V15, e_V16, e_V17, e_V18, e_V19, e_V20, e_V21, e_V22, e_V23, e_V24, e_V25, e_V26, e_V27, e_V28, e_V29, e_V30, k_L0, k_L1, k_L2, k_L3, k_L4, k_L5, k_L6, k_L7, k_L8, k_T0, k_T1, k_T2, k_T3, k_T4, k_T5, k_T6, k_T7, k_T8, lp_nx, lp_ct, u_add, u_int, o_sub, o_cmp, o_neg, o_isN0, o_isN1, o_isI0, o_isI1, p_1_0, p_2_01, p_2_10, p_3_012, p_3_021, p_3_102, p_3_120, p_3_201, p_3_210, List.set_cons_succ, List.set_cons_zero, wipe_cons, wipe_nil, tupl_L, x_ok, k_And0, k_And1, k_Or0, k_Or1, e1, e2, e3, e5]
  exact x_cut hd
theorem err_TooMany {d : D} (hd : below 0 d = true) : ∀ h, callP 1 F__law_error [.exv "TooMany" ["given"] [d]] h = .ok (.str "TooMany") h := fun h =>
  c_P (h' := []) (by kernel_rfl) rfl (by simp [belowL, below, hd]) rfl
theorem fld_TooMany {d : D} (hd : below 0 d = true) : ∀ h, callP 2 F__law_field [.exv "TooMany" ["given"] [d], .str "TooMany"] h = .ok d h := fun h => by
  refine c_P (h' := []) ?_ rfl (by simp [belowL, below, hd]) hd
  have ei : initE 2 [D.exv "TooMany" ["given"] [d], .str "TooMany"] = [some (.exv "TooMany" ["given"] [d]), some (.str "TooMany")] := rfl
  have e1 : ∀ h : AH, inUD false (.str "TooMany") (.lst [.str "InvalidRows", .str "InvalidPlan", .str "InvalidTurns", .str "InvalidChain", .str "InvalidExchanges"]) h = .ok (.bl false) h := fun h => by kernel_rfl
  have e2 : ∀ h : AH, inUD false (.str "TooMany") (.lst [.str "InvalidWishes", .str "InUse"]) h = .ok (.bl false) h := fun h => by kernel_rfl
  have e3 : ∀ h : AH, inUD false (.str "TooMany") (.lst [.str "NothingToUndo", .str ""]) h = .ok (.bl false) h := fun h => by kernel_rfl
  have e4 : ∀ h : AH, eqD (.str "TooMany") (.str "Broken") h = .ok (.bl false) h := fun h => by kernel_rfl
  have e5 : ∀ h : AH, xatD xCl_given "given" (.exv "TooMany" ["given"] [d]) h = .ok d h := fun h => by kernel_rfl
  simp only [F__law_field, m__law_field, f_T, ei, e4, b_ok, b_bad, t_ok, t_bad, e_C, e_V0, e_V1, e_V2, e_V3, e_V4, e_V5, e_V6, e_V7, e_V8, e_V9, e_V10, k_Q, k_Bl, k_TruB, k_TruI, k_TruN, k_NotT, k_AndT1, k_AndT0, k_OrT1, k_OrT0, k_And1, k_And0, k_Or1, k_Or0, k_Not, k_If1, k_If0, k_Cons, k_Tup, k_Lst, k_Frz, k_Own, k_Call, k_CallK, k_Chain1, k_Chain0, k_Chain2, e_Chain, e_Bin, e_BinF, e_Un, e_Bl, e_Tru, e_NotT, e_AndT, e_OrT, e_And, e_Or, e_Not, e_If, e_Nil, e_Cons, e_Tup, e_Lst, e_Frz, e_Own, e_CB, e_CBF, e_Call, e_CallP, k_CallKP, e_CallKP, e_CallK, go_nx, go_rt, go_bk, go_ct, e_Next, e_Seq, k_Drop, e_Drop, k_Ret, e_Ret, k_IfS1, k_IfS0, e_IfS, g_Name, g_Nil, g_Cons, g_Tup, k_Nx, k_Asg, e_Asg, k_Par, e_Par, k_Par3, e_Par3, k_Aug2, k_Aug, e_Aug, k_SeqL, k_SeqS, k_SeqT, i_Seq, k_R1, i_R1, k_R2, i_R2, k_For, e_For, k_Turn, k_Lc, e_Lc, k_Wh1, k_Wh0, r_nx, r_rt, x_ok, x_same, k_RevT, e_RevT, k_RevL, e_RevL, k_Rg1, e_Rg1, k_Rg2, e_Rg2, e_LstRg, e_TupRg, k_EnumT, k_EnumL, e_Enum, k_UL, k_US, k_UT, i_U, e_Disp, e_DNew, k_StarT, e_Star, e_NoPart, k_Part, e_Part, k_SlUT, k_SlUL, k_Sl1, e_SlU, k_SlLL, k_SlLS, e_SlL, k_Split, e_Split, k_Join2, k_Join, e_Join, e_Meth0, g_Seq2T, g_Seq2L, g_Seq3L, g_Seq3T, e_SubU, e_Fld, e_MakeS, k_Cm2, e_Cm2, k_DicF, e_DicF, e_SortS, e_Meth, e_V11, e_V12, e_V13, e_V14, e_V15, e_V16, e_V17, e_V18, e_V19, e_V20, e_V21, e_V22, e_V23, e_V24, e_V25, e_V26, e_V27, e_V28, e_V29, e_V30, k_L0, k_L1, k_L2, k_L3, k_L4, k_L5, k_L6, k_L7, k_L8, k_T0, k_T1, k_T2, k_T3, k_T4, k_T5, k_T6, k_T7, k_T8, lp_nx, lp_ct, u_add, u_int, o_sub, o_cmp, o_neg, o_isN0, o_isN1, o_isI0, o_isI1, p_1_0, p_2_01, p_2_10, p_3_012, p_3_021, p_3_102, p_3_120, p_3_201, p_3_210, List.set_cons_succ, List.set_cons_zero, wipe_cons, wipe_nil, tupl_L, x_ok, k_And0, k_And1, k_Or0, k_Or1, e1, e2, e3, e5]
  exact x_cut hd
theorem err_Broken {d e : D} (hd : below 0 d = true) (he : below 0 e = true) : ∀ h, callP 1 F__law_error [.exv "Broken" ["index", "shown"] [d, e]] h = .ok (.str "Broken") h := fun h =>
  c_P (h' := []) (by kernel_rfl) rfl (by simp only [belowL, below, hd, he, Bool.and_true]) rfl
theorem fld_Broken {d e : D} (hd : below 0 d = true) (he : below 0 e = true) : ∀ h, callP 2 F__law_field [.exv "Broken" ["index", "shown"] [d, e], .str "Broken"] h = .ok (.lst [d, e]) h := fun h => by
  refine c_P (h' := []) ?_ rfl (by simp [belowL, below, hd, he]) (by simp [belowL, below, hd, he])
  have ei : initE 2 [D.exv "Broken" ["index", "shown"] [d, e], .str "Broken"] = [some (.exv "Broken" ["index", "shown"] [d, e]), some (.str "Broken")] := rfl
  have e1 : ∀ h : AH, inUD false (.str "Broken") (.lst [.str "InvalidRows", .str "InvalidPlan", .str "InvalidTurns", .str "InvalidChain", .str "InvalidExchanges"]) h = .ok (.bl false) h := fun h => by kernel_rfl
  have e2 : ∀ h : AH, inUD false (.str "Broken") (.lst [.str "InvalidWishes", .str "InUse"]) h = .ok (.bl false) h := fun h => by kernel_rfl
  have e4 : ∀ h : AH, eqD (.str "Broken") (.str "Broken") h = .ok (.bl true) h := fun h => by kernel_rfl
  have e5 : ∀ h : AH, xatD xCl_index "index" (.exv "Broken" ["index", "shown"] [d, e]) h = .ok d h := fun h => by kernel_rfl
  have e6 : ∀ h : AH, xatD xCl_shown "shown" (.exv "Broken" ["index", "shown"] [d, e]) h = .ok e h := fun h => by kernel_rfl
  have k2 : ∀ (a b : D) (h : AH), kLst [a, b] h = .ok [a, b] h := fun a b h => k_Lst (by simp)
  simp only [F__law_field, m__law_field, f_T, ei, e4, b_ok, b_bad, t_ok, t_bad, e_C, e_V0, e_V1, e_V2, e_V3, e_V4, e_V5, e_V6, e_V7, e_V8, e_V9, e_V10, k_Q, k_Bl, k_TruB, k_TruI, k_TruN, k_NotT, k_AndT1, k_AndT0, k_OrT1, k_OrT0, k_And1, k_And0, k_Or1, k_Or0, k_Not, k_If1, k_If0, k_Cons, k_Tup, k_Lst, k_Frz, k_Own, k_Call, k_CallK, k_Chain1, k_Chain0, k_Chain2, e_Chain, e_Bin, e_BinF, e_Un, e_Bl, e_Tru, e_NotT, e_AndT, e_OrT, e_And, e_Or, e_Not, e_If, e_Nil, e_Cons, e_Tup, e_Lst, e_Frz, e_Own, e_CB, e_CBF, e_Call, e_CallP, k_CallKP, e_CallKP, e_CallK, go_nx, go_rt, go_bk, go_ct, e_Next, e_Seq, k_Drop, e_Drop, k_Ret, e_Ret, k_IfS1, k_IfS0, e_IfS, g_Name, g_Nil, g_Cons, g_Tup, k_Nx, k_Asg, e_Asg, k_Par, e_Par, k_Par3, e_Par3, k_Aug2, k_Aug, e_Aug, k_SeqL, k_SeqS, k_SeqT, i_Seq, k_R1, i_R1, k_R2, i_R2, k_For, e_For, k_Turn, k_Lc, e_Lc, k_Wh1, k_Wh0, r_nx, r_rt, x_ok, x_same, k_RevT, e_RevT, k_RevL, e_RevL, k_Rg1, e_Rg1, k_Rg2, e_Rg2, e_LstRg, e_TupRg, k_EnumT, k_EnumL, e_Enum, k_UL, k_US, k_UT, i_U, e_Disp, e_DNew, k_StarT, e_Star, e_NoPart, k_Part, e_Part, k_SlUT, k_SlUL, k_Sl1, e_SlU, k_SlLL, k_SlLS, e_SlL, k_Split, e_Split, k_Join2, k_Join, e_Join, e_Meth0, g_Seq2T, g_Seq2L, g_Seq3L, g_Seq3T, e_SubU, e_Fld, e_MakeS, k_Cm2, e_Cm2, k_DicF, e_DicF, e_SortS, e_Meth, e_V11, e_V12, e_V13, e_V14, e_V15, e_V16, e_V17, e_V18, e_V19, e_V20, e_V21, e_V22, e_V23, e_V24, e_V25, e_V26, e_V27, e_V28, e_V29, e_V30, k_L0, k_L1, k_L2, k_L3, k_L4, k_L5, k_L6, k_L7, k_L8, k_T0, k_T1, k_T2, k_T3, k_T4, k_T5, k_T6, k_T7, k_T8, lp_nx, lp_ct, u_add, u_int, o_sub, o_cmp, o_neg, o_isN0, o_isN1, o_isI0, o_isI1, p_1_0, p_2_01, p_2_10, p_3_012, p_3_021, p_3_102, p_3_120, p_3_201, p_3_210, List.set_cons_succ, List.set_cons_zero, wipe_cons, wipe_nil, tupl_L, x_ok, k_And0, k_And1, k_Or0, k_Or1, e1, e2, e5, e6, k2]
  exact x_cut (by simp only [belowL, below, hd, he, Bool.and_true])
theorem err_Nothing : ∀ h, callP 1 F__law_error [.exv "NothingToUndo" [] []] h = .ok (.str "NothingToUndo") h := fun h => c_P (h' := []) (by kernel_rfl) rfl rfl rfl
/-! all of one field -/
def cs : List (Str × Str) := [("InvalidText", "given"), ("InvalidNumber", "given"), ("InvalidStanding", "given"), ("InvalidMove", "given"), ("InvalidTurn", "given"), ("InvalidLot", "given"), ("InvalidName", "given"), ("InvalidWish", "given"), ("NotATable", "given"), ("InvalidRows", "index"), ("InvalidPlan", "index"), ("InvalidTurns", "index"), ("InvalidChain", "index"), ("InvalidExchanges", "index"), ("InvalidWishes", "index"), ("UnknownName", "given"), ("InUse", "index"), ("TooMany", "given")]
def errs (d : D) : List D := [.exv "InvalidText" ["given"] [d], .exv "InvalidText" ["given"] [d], .exv "InvalidNumber" ["given"] [d], .exv "InvalidNumber" ["given"] [d], .exv "InvalidStanding" ["given"] [d], .exv "InvalidStanding" ["given"] [d], .exv "InvalidMove" ["given"] [d], .exv "InvalidMove" ["given"] [d], .exv "InvalidTurn" ["given"] [d], .exv "InvalidTurn" ["given"] [d], .exv "InvalidLot" ["given"] [d], .exv "InvalidLot" ["given"] [d], .exv "InvalidName" ["given"] [d], .exv "InvalidName" ["given"] [d], .exv "InvalidWish" ["given"] [d], .exv "InvalidWish" ["given"] [d], .exv "NotATable" ["given"] [d], .exv "NotATable" ["given"] [d], .exv "InvalidRows" ["index"] [d], .exv "InvalidRows" ["index"] [d], .exv "InvalidPlan" ["index"] [d], .exv "InvalidPlan" ["index"] [d], .exv "InvalidTurns" ["index"] [d], .exv "InvalidTurns" ["index"] [d], .exv "InvalidChain" ["index"] [d], .exv "InvalidChain" ["index"] [d], .exv "InvalidExchanges" ["index"] [d], .exv "InvalidExchanges" ["index"] [d], .exv "InvalidWishes" ["index"] [d], .exv "InvalidWishes" ["index"] [d], .exv "UnknownName" ["given"] [d], .exv "UnknownName" ["given"] [d], .exv "InUse" ["index"] [d], .exv "InUse" ["index"] [d], .exv "TooMany" ["given"] [d], .exv "TooMany" ["given"] [d]]
def NM : List D := [.str "InvalidText", .str "InvalidNumber", .str "InvalidStanding", .str "InvalidMove", .str "InvalidTurn", .str "InvalidLot", .str "InvalidName", .str "InvalidWish", .str "NotATable", .str "InvalidRows", .str "InvalidPlan", .str "InvalidTurns", .str "InvalidChain", .str "InvalidExchanges", .str "InvalidWishes", .str "UnknownName", .str "InUse", .str "TooMany"]
def at_ (i : Nat) : Str × Str := cs.getD (i / 2) ("", "")
theorem errs_at (d : D) (hi : i < 36) : (errs d)[i]? = some (.exv (at_ i).1 [(at_ i).2] [d]) := by
  rcases (by omega : i = 0 ∨ i = 1 ∨ i = 2 ∨ i = 3 ∨ i = 4 ∨ i = 5 ∨ i = 6 ∨ i = 7 ∨ i = 8 ∨ i = 9 ∨ i = 10 ∨ i = 11 ∨ i = 12 ∨ i = 13 ∨ i = 14 ∨ i = 15 ∨ i = 16 ∨ i = 17 ∨ i = 18 ∨ i = 19 ∨ i = 20 ∨ i = 21 ∨ i = 22 ∨ i = 23 ∨ i = 24 ∨ i = 25 ∨ i = 26 ∨ i = 27 ∨ i = 28 ∨ i = 29 ∨ i = 30 ∨ i = 31 ∨ i = 32 ∨ i = 33 ∨ i = 34 ∨ i = 35) with rfl | rfl | rfl | rfl | rfl | rfl | rfl | rfl | rfl | rfl | rfl | rfl | rfl | rfl | rfl | rfl | rfl | rfl | rfl | rfl | rfl | rfl | rfl | rfl | rfl | rfl | rfl | rfl | rfl | rfl | rfl | rfl | rfl | rfl | rfl | rfl <;> rfl
theorem NM_at (hi : i < 36) : NM[i / 2]? = some (.str (at_ i).1) := by
  rcases (by omega : i = 0 ∨ i = 1 ∨ i = 2 ∨ i = 3 ∨ i = 4 ∨ i = 5 ∨ i = 6 ∨ i = 7 ∨ i = 8 ∨ i = 9 ∨ i = 10 ∨ i = 11 ∨ i = 12 ∨ i = 13 ∨ i = 14 ∨ i = 15 ∨ i = 16 ∨ i = 17 ∨ i = 18 ∨ i = 19 ∨ i = 20 ∨ i = 21 ∨ i = 22 ∨ i = 23 ∨ i = 24 ∨ i = 25 ∨ i = 26 ∨ i = 27 ∨ i = 28 ∨ i = 29 ∨ i = 30 ∨ i = 31 ∨ i = 32 ∨ i = 33 ∨ i = 34 ∨ i = 35) with rfl | rfl | rfl | rfl | rfl | rfl | rfl | rfl | rfl | rfl | rfl | rfl | rfl | rfl | rfl | rfl | rfl | rfl | rfl | rfl | rfl | rfl | rfl | rfl | rfl | rfl | rfl | rfl | rfl | rfl | rfl | rfl | rfl | rfl | rfl | rfl <;> rfl
theorem at_mem (hi : i < 36) : at_ i ∈ cs := by
  have : i / 2 < cs.length := by show i / 2 < 18; omega
  unfold at_
  rw [List.getD_eq_getElem?_getD, List.getElem?_eq_getElem this]
  exact List.getElem_mem _
theorem err_all {p : Str × Str} (hp : p ∈ cs) {d : D} (hd : below 0 d = true) : ∀ h, callP 1 F__law_error [.exv p.1 [p.2] [d]] h = .ok (.str p.1) h := by
  simp only [cs, List.mem_cons, List.not_mem_nil, or_false] at hp
  rcases hp with rfl | rfl | rfl | rfl | rfl | rfl | rfl | rfl | rfl | rfl | rfl | rfl | rfl | rfl | rfl | rfl | rfl | rfl
  · exact err_InvalidText hd
  · exact err_InvalidNumber hd
  · exact err_InvalidStanding hd
  · exact err_InvalidMove hd
  · exact err_InvalidTurn hd
  · exact err_InvalidLot hd
  · exact err_InvalidName hd
  · exact err_InvalidWish hd
  · exact err_NotATable hd
  · exact err_InvalidRows hd
  · exact err_InvalidPlan hd
  · exact err_InvalidTurns hd
  · exact err_InvalidChain hd
  · exact err_InvalidExchanges hd
  · exact err_InvalidWishes hd
  · exact err_UnknownName hd
  · exact err_InUse hd
  · exact err_TooMany hd
theorem fld_all {p : Str × Str} (hp : p ∈ cs) {d : D} (hd : below 0 d = true) : ∀ h, callP 2 F__law_field [.exv p.1 [p.2] [d], .str p.1] h = .ok d h := by
  simp only [cs, List.mem_cons, List.not_mem_nil, or_false] at hp
  rcases hp with rfl | rfl | rfl | rfl | rfl | rfl | rfl | rfl | rfl | rfl | rfl | rfl | rfl | rfl | rfl | rfl | rfl | rfl
  · exact fld_InvalidText hd
  · exact fld_InvalidNumber hd
  · exact fld_InvalidStanding hd
  · exact fld_InvalidMove hd
  · exact fld_InvalidTurn hd
  · exact fld_InvalidLot hd
  · exact fld_InvalidName hd
  · exact fld_InvalidWish hd
  · exact fld_NotATable hd
  · exact fld_InvalidRows hd
  · exact fld_InvalidPlan hd
  · exact fld_InvalidTurns hd
  · exact fld_InvalidChain hd
  · exact fld_InvalidExchanges hd
  · exact fld_InvalidWishes hd
  · exact fld_UnknownName hd
  · exact fld_InUse hd
  · exact fld_TooMany hd
theorem errs_b {d : D} (hd : below 0 d = true) : below 0 (.lst (errs d)) = true := by
  simp only [errs, below, belowL, hd, Bool.and_true]
theorem errors_c {d : D} (hd : below 0 d = true) : ∀ h, callP 1 F__law_errors [d] h = .ok (.lst (errs d)) h := fun h => by
  refine c_P (h' := []) ?_ rfl (by simp only [belowL, hd, Bool.and_true]) (errs_b hd)
  have ei : initE 2 [d] = [some d, none] := rfl
  have e : m__law_errors [some d, none] [] = .rt (.lst (errs d)) [] := by kernel_rfl
  rw [F__law_errors, f_T, ei, e]
  exact x_cut (errs_b hd)
/-! what is shown -/
def repN : D → Option Str
  | .lst ds => (match toPyXL ds with
    | some ps => if reprOkN (.list ps) = true then some (PyData.list ps).shown else none
    | none => none)
  | d => Tb.reprP d
theorem repN_lst {ds : List D} (e : repN (.lst ds) = some z) : ∀ h : AH, reprND [.lst ds] h = .ok (.str z) h := fun h => by
  unfold repN at e
  unfold reprND
  dsimp only at e ⊢
  split at e
  · rename_i ps hp
    split at e
    · rename_i hk
      cases e
      first
        | (rw [hp]; exact if_pos hk)
        | exact if_pos hk
    · cases e
  · cases e
theorem repN_ok {d : D} (v : Va d) (e : repN d = some z) : ∀ h : AH, reprND [d] h = .ok (.str z) h := fun h => by
  by_cases q : ∃ ds, d = .lst ds
  · obtain ⟨ds, rfl⟩ := q
    exact repN_lst e h
  · have e2 : Tb.reprP d = some z := by
      cases d with
      | lst ds => exact absurd ⟨ds, rfl⟩ q
      | _ => exact e
    have := Tb.repr_P v e2 h
    cases d with
    | lst ds => exact absurd ⟨ds, rfl⟩ q
    | _ => exact this
theorem rep_all : (oddL.all fun d => (repN d).isSome) = true := by kernel_rfl
def oneB (d : D) : Bool := match toPyX d with
  | some p => p.showable && (Nat.ble p.shown.length 200 && Nat.ble p.depth 20)
  | none => false
theorem one_all : oddL.all oneB = true := by kernel_rfl
theorem one_of {d : D} (hd : d ∈ oddL) : ∃ p, toPyX d = some p ∧ p.showable = true ∧ p.shown.length ≤ 200 ∧ p.depth ≤ 20 := by
  have := List.all_eq_true.mp one_all d hd
  unfold oneB at this
  split at this
  · rename_i p e
    rw [Bool.and_eq_true, Bool.and_eq_true] at this
    exact ⟨p, e, this.1, Nat.le_of_ble_eq_true this.2.1, Nat.le_of_ble_eq_true this.2.2⟩
  · cases this
theorem list2 {p q : PyData} {a b : Nat} (hp : p.shown.length ≤ a) (hq : q.shown.length ≤ b) : (PyData.list [p, q]).shown.length ≤ a + b + 8 := by
  have h2 := listText_le (PyData.shownAll [p, q])
  rw [PyData.shown]
  have e : PyData.shownAll [p, q] = [p.shown, q.shown] := rfl
  rw [e] at h2 ⊢
  rw [piled_cons, piled_cons] at h2
  have e0 : piled [] = 0 := rfl
  omega
theorem rep_of {d : D} (hd : d ∈ oddL) : ∃ z, ∀ h : AH, reprND [d] h = .ok (.str z) h := by
  obtain ⟨z, e⟩ := Option.isSome_iff_exists.mp (List.all_eq_true.mp rep_all d hd)
  exact ⟨z, repN_ok (odd_va hd) e⟩
theorem rep2_of {d e : D} (hd : d ∈ oddL) (he : e ∈ oddL) : ∃ z, ∀ h : AH, reprND [.lst [.lst [d, e], .lst [d, e]]] h = .ok (.str z) h := by
  obtain ⟨p, tp, sp, lp, dp⟩ := one_of hd
  obtain ⟨q, tq, sq, lq, dq⟩ := one_of he
  have t1 : toPyXL [.lst [d, e], .lst [d, e]] = some [.list [p, q], .list [p, q]] := by simp [toPyXL, toPyX, tp, tq]
  have l1 := list2 lp lq
  have l2 := list2 l1 l1
  have ok : reprOkN (.list [.list [p, q], .list [p, q]]) = true := by
    unfold reprOkN
    rw [Bool.and_eq_true, Bool.and_eq_true, decide_eq_true_eq, decide_eq_true_eq]
    refine ⟨by simp [PyData.showable, PyData.showableAll, sp, sq], Nat.le_trans l2 (by rw [sizeLine_eq]; decide), ?_⟩
    simp only [PyData.depth, PyData.depthAll]
    omega
  exact ⟨_, fun h => by
    unfold reprND
    dsimp only
    rw [t1]
    exact if_pos ok⟩
/-! one by one -/
theorem turn {d e : D} (hd : d ∈ oddL) (hi : i < 36) {x6 : Option D} : b__law_right_1 [some (.loc k), some d, some e, some (.lst NM), some (.lst (errs d)), some (.int (i : Nat)), x6, none, none] h = .nx [some (.loc k), some d, some e, some (.lst NM), some (.lst (errs d)), some (.int (i : Nat)), some (.str (at_ i).1), none, none] h := by
  obtain ⟨z, rp⟩ := rep_of hd
  have b0 := (odd_va hd).bw 0
  have i1 : ∀ h : AH, ixUD (.lst (errs d)) (.int (i : Nat)) h = .ok (.exv (at_ i).1 [(at_ i).2] [d]) h := fun h => u_ixL (Ab.atI_nat (errs_at d hi))
  have i2 : ∀ h : AH, ixUD (.lst NM) (.int ((i / 2 : Nat) : Int)) h = .ok (.str (at_ i).1) h := fun h => u_ixL (Ab.atI_nat (NM_at hi))
  have dv : ∀ h : AH, divD (.int (i : Nat)) (.int 2) h = .ok (.int ((i / 2 : Nat) : Int)) h := fun h => by
    have e : ((i : Nat) : Int) / 2 = ((i / 2 : Nat) : Int) := by omega
    rw [o_div (by decide) (by decide), e]
  have er := err_all (at_mem hi) b0
  have fl := fld_all (at_mem hi) b0
  have n1 := ne_str (at_ i).1
  have n2 := ne_str z
  have e2 : ((i : Nat) : Int) / 2 = ((i / 2 : Nat) : Int) := by omega
  simp only [b__law_right_1, b_ok, b_bad, t_ok, t_bad, e_C, e_V0, e_V1, e_V2, e_V3, e_V4, e_V5, e_V6, e_V7, e_V8, e_V9, e_V10, k_Q, k_Bl, k_TruB, k_TruI, k_TruN, k_NotT, k_AndT1, k_AndT0, k_OrT1, k_OrT0, k_And1, k_And0, k_Or1, k_Or0, k_Not, k_If1, k_If0, k_Cons, k_Tup, k_Lst, k_Frz, k_Own, k_Call, k_CallK, k_Chain1, k_Chain0, k_Chain2, e_Chain, e_Bin, e_BinF, e_Un, e_Bl, e_Tru, e_NotT, e_AndT, e_OrT, e_And, e_Or, e_Not, e_If, e_Nil, e_Cons, e_Tup, e_Lst, e_Frz, e_Own, e_CB, e_CBF, e_Call, e_CallP, k_CallKP, e_CallKP, e_CallK, go_nx, go_rt, go_bk, go_ct, e_Next, e_Seq, k_Drop, e_Drop, k_Ret, e_Ret, k_IfS1, k_IfS0, e_IfS, g_Name, g_Nil, g_Cons, g_Tup, k_Nx, k_Asg, e_Asg, k_Par, e_Par, k_Par3, e_Par3, k_Aug2, k_Aug, e_Aug, k_SeqL, k_SeqS, k_SeqT, i_Seq, k_R1, i_R1, k_R2, i_R2, k_For, e_For, k_Turn, k_Lc, e_Lc, k_Wh1, k_Wh0, r_nx, r_rt, x_ok, x_same, k_RevT, e_RevT, k_RevL, e_RevL, k_Rg1, e_Rg1, k_Rg2, e_Rg2, e_LstRg, e_TupRg, k_EnumT, k_EnumL, e_Enum, k_UL, k_US, k_UT, i_U, e_Disp, e_DNew, k_StarT, e_Star, e_NoPart, k_Part, e_Part, k_SlUT, k_SlUL, k_Sl1, e_SlU, k_SlLL, k_SlLS, e_SlL, k_Split, e_Split, k_Join2, k_Join, e_Join, e_Meth0, g_Seq2T, g_Seq2L, g_Seq3L, g_Seq3T, e_SubU, e_Fld, e_MakeS, k_Cm2, e_Cm2, k_DicF, e_DicF, e_SortS, e_Meth, e_V11, e_V12, e_V13, e_V14, e_V15, e_V16, e_V17, e_V18, e_V19, e_V20, e_V21, e_V22, e_V23, e_V24, e_V25, e_V26, e_V27, e_V28, e_V29, e_V30, k_L0, k_L1, k_L2, k_L3, k_L4, k_L5, k_L6, k_L7, k_L8, k_T0, k_T1, k_T2, k_T3, k_T4, k_T5, k_T6, k_T7, k_T8, lp_nx, lp_ct, u_add, u_int, o_sub, o_cmp, o_neg, o_isN0, o_isN1, o_isI0, o_isI1, p_1_0, p_2_01, p_2_10, p_3_012, p_3_021, p_3_102, p_3_120, p_3_201, p_3_210, List.set_cons_succ, List.set_cons_zero, wipe_cons, wipe_nil, tupl_L, x_ok, k_And0, k_And1, k_Or0, k_Or1, i1, er, dv, e2, i2, n1, fl, rp, n2]
theorem loop {d e : D} (hd : d ∈ oddL) : ∀ (m j : Nat) (x5 x6 : Option D), j + m ≤ 36 → ∃ y5 y6, forItems (mgName 5) b__law_right_1 ((List.range' j m).map fun i : Nat => D.int (i : Nat)) [some (.loc k), some d, some e, some (.lst NM), some (.lst (errs d)), x5, x6, none, none] h = .nx [some (.loc k), some d, some e, some (.lst NM), some (.lst (errs d)), y5, y6, none, none] h
  | 0, j, x5, x6, _ => ⟨x5, x6, rfl⟩
  | m + 1, j, x5, x6, hj => by
    obtain ⟨y5, y6, ih⟩ := loop (e := e) hd m (j + 1) (some (.int (j : Nat))) (some (.str (at_ j).1)) (by omega)
    refine ⟨y5, y6, ?_⟩
    have one := turn (k := k) (e := e) (h := h) hd (show j < 36 by omega) (x6 := x6)
    rw [List.range'_succ, List.map_cons, for_cons]
    simp only [g_Name, List.set_cons_succ, List.set_cons_zero, t_ok, k_Turn, one, lp_nx]
    exact ih
theorem right_ok (s0 : Sp3 h k) (f0 : Fl h) : ∃ h', F__law_right [.loc k] h = .ok (.bl true) h' ∧ Fl h' := by
  have ei : initE 9 [D.loc k] = [some (.loc k), none, none, none, none, none, none, none, none] := rfl
  obtain ⟨d, h1, e1, hd, t1⟩ := Tb.odd_ok s0
  obtain ⟨e, h2, e2, he, t2⟩ := Tb.odd_ok t1.1
  rw [← q_odd] at e1 e2
  have b0 := (odd_va hd).bw 0
  have b1 := (odd_va he).bw 0
  have r0 : (mPar 1 2 (mCons (mCall 1 F__law_odd (mCons (mVar 0) mNil)) (mCons (mCall 1 F__law_odd (mCons (mVar 0) mNil)) mNil))) [some (.loc k), none, none, none, none, none, none, none, none] h = .nx [some (.loc k), some d, some e, none, none, none, none, none, none] h2 := by
    simp only [b_ok, b_bad, t_ok, t_bad, e_C, e_V0, e_V1, e_V2, e_V3, e_V4, e_V5, e_V6, e_V7, e_V8, e_V9, e_V10, k_Q, k_Bl, k_TruB, k_TruI, k_TruN, k_NotT, k_AndT1, k_AndT0, k_OrT1, k_OrT0, k_And1, k_And0, k_Or1, k_Or0, k_Not, k_If1, k_If0, k_Cons, k_Tup, k_Lst, k_Frz, k_Own, k_Call, k_CallK, k_Chain1, k_Chain0, k_Chain2, e_Chain, e_Bin, e_BinF, e_Un, e_Bl, e_Tru, e_NotT, e_AndT, e_OrT, e_And, e_Or, e_Not, e_If, e_Nil, e_Cons, e_Tup, e_Lst, e_Frz, e_Own, e_CB, e_CBF, e_Call, e_CallP, k_CallKP, e_CallKP, e_CallK, go_nx, go_rt, go_bk, go_ct, e_Next, e_Seq, k_Drop, e_Drop, k_Ret, e_Ret, k_IfS1, k_IfS0, e_IfS, g_Name, g_Nil, g_Cons, g_Tup, k_Nx, k_Asg, e_Asg, k_Par, e_Par, k_Par3, e_Par3, k_Aug2, k_Aug, e_Aug, k_SeqL, k_SeqS, k_SeqT, i_Seq, k_R1, i_R1, k_R2, i_R2, k_For, e_For, k_Turn, k_Lc, e_Lc, k_Wh1, k_Wh0, r_nx, r_rt, x_ok, x_same, k_RevT, e_RevT, k_RevL, e_RevL, k_Rg1, e_Rg1, k_Rg2, e_Rg2, e_LstRg, e_TupRg, k_EnumT, k_EnumL, e_Enum, k_UL, k_US, k_UT, i_U, e_Disp, e_DNew, k_StarT, e_Star, e_NoPart, k_Part, e_Part, k_SlUT, k_SlUL, k_Sl1, e_SlU, k_SlLL, k_SlLS, e_SlL, k_Split, e_Split, k_Join2, k_Join, e_Join, e_Meth0, g_Seq2T, g_Seq2L, g_Seq3L, g_Seq3T, e_SubU, e_Fld, e_MakeS, k_Cm2, e_Cm2, k_DicF, e_DicF, e_SortS, e_Meth, e_V11, e_V12, e_V13, e_V14, e_V15, e_V16, e_V17, e_V18, e_V19, e_V20, e_V21, e_V22, e_V23, e_V24, e_V25, e_V26, e_V27, e_V28, e_V29, e_V30, k_L0, k_L1, k_L2, k_L3, k_L4, k_L5, k_L6, k_L7, k_L8, k_T0, k_T1, k_T2, k_T3, k_T4, k_T5, k_T6, k_T7, k_T8, lp_nx, lp_ct, u_add, u_int, o_sub, o_cmp, o_neg, o_isN0, o_isN1, o_isI0, o_isI1, p_1_0, p_2_01, p_2_10, p_3_012, p_3_021, p_3_102, p_3_120, p_3_201, p_3_210, List.set_cons_succ, List.set_cons_zero, wipe_cons, wipe_nil, tupl_L, x_ok, k_And0, k_And1, k_Or0, k_Or1, e1, e2]
  have c1 : ∀ h : AH, catD (.lst [.str "InvalidText", .str "InvalidNumber", .str "InvalidStanding", .str "InvalidMove", .str "InvalidTurn", .str "InvalidLot"]) (.lst [.str "InvalidName", .str "InvalidWish", .str "NotATable", .str "InvalidRows", .str "InvalidPlan", .str "InvalidTurns"]) h = .ok [.str "InvalidText", .str "InvalidNumber", .str "InvalidStanding", .str "InvalidMove", .str "InvalidTurn", .str "InvalidLot", .str "InvalidName", .str "InvalidWish", .str "NotATable", .str "InvalidRows", .str "InvalidPlan", .str "InvalidTurns"] h := fun h => by kernel_rfl
  have c2 : ∀ h : AH, catD (.lst [.str "InvalidText", .str "InvalidNumber", .str "InvalidStanding", .str "InvalidMove", .str "InvalidTurn", .str "InvalidLot", .str "InvalidName", .str "InvalidWish", .str "NotATable", .str "InvalidRows", .str "InvalidPlan", .str "InvalidTurns"]) (.lst [.str "InvalidChain", .str "InvalidExchanges", .str "InvalidWishes", .str "UnknownName", .str "InUse", .str "TooMany"]) h = .ok [.str "InvalidText", .str "InvalidNumber", .str "InvalidStanding", .str "InvalidMove", .str "InvalidTurn", .str "InvalidLot", .str "InvalidName", .str "InvalidWish", .str "NotATable", .str "InvalidRows", .str "InvalidPlan", .str "InvalidTurns", .str "InvalidChain", .str "InvalidExchanges", .str "InvalidWishes", .str "UnknownName", .str "InUse", .str "TooMany"] h := fun h => by kernel_rfl
  have k6 : ∀ (a b c d e f : D) (h : AH), kLst [a, b, c, d, e, f] h = .ok [a, b, c, d, e, f] h := fun a b c d e f h => k_Lst (by simp)
  have r1 : (mAsg (mFrz (mLst (mCons (mC (.str "InvalidText")) (mCons (mC (.str "InvalidNumber")) (mCons (mC (.str "InvalidStanding")) (mCons (mC (.str "InvalidMove")) (mCons (mC (.str "InvalidTurn")) (mCons (mC (.str "InvalidLot")) mNil)))))))) (mgName 3)) [some (.loc k), some d, some e, none, none, none, none, none, none] h2 = .nx [some (.loc k), some d, some e, some (.lst [.str "InvalidText", .str "InvalidNumber", .str "InvalidStanding", .str "InvalidMove", .str "InvalidTurn", .str "InvalidLot"]), none, none, none, none, none] h2 := by
    simp only [b_ok, b_bad, t_ok, t_bad, e_C, e_V0, e_V1, e_V2, e_V3, e_V4, e_V5, e_V6, e_V7, e_V8, e_V9, e_V10, k_Q, k_Bl, k_TruB, k_TruI, k_TruN, k_NotT, k_AndT1, k_AndT0, k_OrT1, k_OrT0, k_And1, k_And0, k_Or1, k_Or0, k_Not, k_If1, k_If0, k_Cons, k_Tup, k_Lst, k_Frz, k_Own, k_Call, k_CallK, k_Chain1, k_Chain0, k_Chain2, e_Chain, e_Bin, e_BinF, e_Un, e_Bl, e_Tru, e_NotT, e_AndT, e_OrT, e_And, e_Or, e_Not, e_If, e_Nil, e_Cons, e_Tup, e_Lst, e_Frz, e_Own, e_CB, e_CBF, e_Call, e_CallP, k_CallKP, e_CallKP, e_CallK, go_nx, go_rt, go_bk, go_ct, e_Next, e_Seq, k_Drop, e_Drop, k_Ret, e_Ret, k_IfS1, k_IfS0, e_IfS, g_Name, g_Nil, g_Cons, g_Tup, k_Nx, k_Asg, e_Asg, k_Par, e_Par, k_Par3, e_Par3, k_Aug2, k_Aug, e_Aug, k_SeqL, k_SeqS, k_SeqT, i_Seq, k_R1, i_R1, k_R2, i_R2, k_For, e_For, k_Turn, k_Lc, e_Lc, k_Wh1, k_Wh0, r_nx, r_rt, x_ok, x_same, k_RevT, e_RevT, k_RevL, e_RevL, k_Rg1, e_Rg1, k_Rg2, e_Rg2, e_LstRg, e_TupRg, k_EnumT, k_EnumL, e_Enum, k_UL, k_US, k_UT, i_U, e_Disp, e_DNew, k_StarT, e_Star, e_NoPart, k_Part, e_Part, k_SlUT, k_SlUL, k_Sl1, e_SlU, k_SlLL, k_SlLS, e_SlL, k_Split, e_Split, k_Join2, k_Join, e_Join, e_Meth0, g_Seq2T, g_Seq2L, g_Seq3L, g_Seq3T, e_SubU, e_Fld, e_MakeS, k_Cm2, e_Cm2, k_DicF, e_DicF, e_SortS, e_Meth, e_V11, e_V12, e_V13, e_V14, e_V15, e_V16, e_V17, e_V18, e_V19, e_V20, e_V21, e_V22, e_V23, e_V24, e_V25, e_V26, e_V27, e_V28, e_V29, e_V30, k_L0, k_L1, k_L2, k_L3, k_L4, k_L5, k_L6, k_L7, k_L8, k_T0, k_T1, k_T2, k_T3, k_T4, k_T5, k_T6, k_T7, k_T8, lp_nx, lp_ct, u_add, u_int, o_sub, o_cmp, o_neg, o_isN0, o_isN1, o_isI0, o_isI1, p_1_0, p_2_01, p_2_10, p_3_012, p_3_021, p_3_102, p_3_120, p_3_201, p_3_210, List.set_cons_succ, List.set_cons_zero, wipe_cons, wipe_nil, tupl_L, x_ok, k_And0, k_And1, k_Or0, k_Or1, k6]
  have r2 : (mAsg (mFrz (mBinF catD (mVar 3) (mFrz (mLst (mCons (mC (.str "InvalidName")) (mCons (mC (.str "InvalidWish")) (mCons (mC (.str "NotATable")) (mCons (mC (.str "InvalidRows")) (mCons (mC (.str "InvalidPlan")) (mCons (mC (.str "InvalidTurns")) mNil)))))))))) (mgName 3)) [some (.loc k), some d, some e, some (.lst [.str "InvalidText", .str "InvalidNumber", .str "InvalidStanding", .str "InvalidMove", .str "InvalidTurn", .str "InvalidLot"]), none, none, none, none, none] h2 = .nx [some (.loc k), some d, some e, some (.lst [.str "InvalidText", .str "InvalidNumber", .str "InvalidStanding", .str "InvalidMove", .str "InvalidTurn", .str "InvalidLot", .str "InvalidName", .str "InvalidWish", .str "NotATable", .str "InvalidRows", .str "InvalidPlan", .str "InvalidTurns"]), none, none, none, none, none] h2 := by
    simp only [b_ok, b_bad, t_ok, t_bad, e_C, e_V0, e_V1, e_V2, e_V3, e_V4, e_V5, e_V6, e_V7, e_V8, e_V9, e_V10, k_Q, k_Bl, k_TruB, k_TruI, k_TruN, k_NotT, k_AndT1, k_AndT0, k_OrT1, k_OrT0, k_And1, k_And0, k_Or1, k_Or0, k_Not, k_If1, k_If0, k_Cons, k_Tup, k_Lst, k_Frz, k_Own, k_Call, k_CallK, k_Chain1, k_Chain0, k_Chain2, e_Chain, e_Bin, e_BinF, e_Un, e_Bl, e_Tru, e_NotT, e_AndT, e_OrT, e_And, e_Or, e_Not, e_If, e_Nil, e_Cons, e_Tup, e_Lst, e_Frz, e_Own, e_CB, e_CBF, e_Call, e_CallP, k_CallKP, e_CallKP, e_CallK, go_nx, go_rt, go_bk, go_ct, e_Next, e_Seq, k_Drop, e_Drop, k_Ret, e_Ret, k_IfS1, k_IfS0, e_IfS, g_Name, g_Nil, g_Cons, g_Tup, k_Nx, k_Asg, e_Asg, k_Par, e_Par, k_Par3, e_Par3, k_Aug2, k_Aug, e_Aug, k_SeqL, k_SeqS, k_SeqT, i_Seq, k_R1, i_R1, k_R2, i_R2, k_For, e_For, k_Turn, k_Lc, e_Lc, k_Wh1, k_Wh0, r_nx, r_rt, x_ok, x_same, k_RevT, e_RevT, k_RevL, e_RevL, k_Rg1, e_Rg1, k_Rg2, e_Rg2, e_LstRg, e_TupRg, k_EnumT, k_EnumL, e_Enum, k_UL, k_US, k_UT, i_U, e_Disp, e_DNew, k_StarT, e_Star, e_NoPart, k_Part, e_Part, k_SlUT, k_SlUL, k_Sl1, e_SlU, k_SlLL, k_SlLS, e_SlL, k_Split, e_Split, k_Join2, k_Join, e_Join, e_Meth0, g_Seq2T, g_Seq2L, g_Seq3L, g_Seq3T, e_SubU, e_Fld, e_MakeS, k_Cm2, e_Cm2, k_DicF, e_DicF, e_SortS, e_Meth, e_V11, e_V12, e_V13, e_V14, e_V15, e_V16, e_V17, e_V18, e_V19, e_V20, e_V21, e_V22, e_V23, e_V24, e_V25, e_V26, e_V27, e_V28, e_V29, e_V30, k_L0, k_L1, k_L2, k_L3, k_L4, k_L5, k_L6, k_L7, k_L8, k_T0, k_T1, k_T2, k_T3, k_T4, k_T5, k_T6, k_T7, k_T8, lp_nx, lp_ct, u_add, u_int, o_sub, o_cmp, o_neg, o_isN0, o_isN1, o_isI0, o_isI1, p_1_0, p_2_01, p_2_10, p_3_012, p_3_021, p_3_102, p_3_120, p_3_201, p_3_210, List.set_cons_succ, List.set_cons_zero, wipe_cons, wipe_nil, tupl_L, x_ok, k_And0, k_And1, k_Or0, k_Or1, k6, c1]
  have r3 : (mAsg (mFrz (mBinF catD (mVar 3) (mFrz (mLst (mCons (mC (.str "InvalidChain")) (mCons (mC (.str "InvalidExchanges")) (mCons (mC (.str "InvalidWishes")) (mCons (mC (.str "UnknownName")) (mCons (mC (.str "InUse")) (mCons (mC (.str "TooMany")) mNil)))))))))) (mgName 3)) [some (.loc k), some d, some e, some (.lst [.str "InvalidText", .str "InvalidNumber", .str "InvalidStanding", .str "InvalidMove", .str "InvalidTurn", .str "InvalidLot", .str "InvalidName", .str "InvalidWish", .str "NotATable", .str "InvalidRows", .str "InvalidPlan", .str "InvalidTurns"]), none, none, none, none, none] h2 = .nx [some (.loc k), some d, some e, some (.lst NM), none, none, none, none, none] h2 := by
    unfold NM
    simp only [b_ok, b_bad, t_ok, t_bad, e_C, e_V0, e_V1, e_V2, e_V3, e_V4, e_V5, e_V6, e_V7, e_V8, e_V9, e_V10, k_Q, k_Bl, k_TruB, k_TruI, k_TruN, k_NotT, k_AndT1, k_AndT0, k_OrT1, k_OrT0, k_And1, k_And0, k_Or1, k_Or0, k_Not, k_If1, k_If0, k_Cons, k_Tup, k_Lst, k_Frz, k_Own, k_Call, k_CallK, k_Chain1, k_Chain0, k_Chain2, e_Chain, e_Bin, e_BinF, e_Un, e_Bl, e_Tru, e_NotT, e_AndT, e_OrT, e_And, e_Or, e_Not, e_If, e_Nil, e_Cons, e_Tup, e_Lst, e_Frz, e_Own, e_CB, e_CBF, e_Call, e_CallP, k_CallKP, e_CallKP, e_CallK, go_nx, go_rt, go_bk, go_ct, e_Next, e_Seq, k_Drop, e_Drop, k_Ret, e_Ret, k_IfS1, k_IfS0, e_IfS, g_Name, g_Nil, g_Cons, g_Tup, k_Nx, k_Asg, e_Asg, k_Par, e_Par, k_Par3, e_Par3, k_Aug2, k_Aug, e_Aug, k_SeqL, k_SeqS, k_SeqT, i_Seq, k_R1, i_R1, k_R2, i_R2, k_For, e_For, k_Turn, k_Lc, e_Lc, k_Wh1, k_Wh0, r_nx, r_rt, x_ok, x_same, k_RevT, e_RevT, k_RevL, e_RevL, k_Rg1, e_Rg1, k_Rg2, e_Rg2, e_LstRg, e_TupRg, k_EnumT, k_EnumL, e_Enum, k_UL, k_US, k_UT, i_U, e_Disp, e_DNew, k_StarT, e_Star, e_NoPart, k_Part, e_Part, k_SlUT, k_SlUL, k_Sl1, e_SlU, k_SlLL, k_SlLS, e_SlL, k_Split, e_Split, k_Join2, k_Join, e_Join, e_Meth0, g_Seq2T, g_Seq2L, g_Seq3L, g_Seq3T, e_SubU, e_Fld, e_MakeS, k_Cm2, e_Cm2, k_DicF, e_DicF, e_SortS, e_Meth, e_V11, e_V12, e_V13, e_V14, e_V15, e_V16, e_V17, e_V18, e_V19, e_V20, e_V21, e_V22, e_V23, e_V24, e_V25, e_V26, e_V27, e_V28, e_V29, e_V30, k_L0, k_L1, k_L2, k_L3, k_L4, k_L5, k_L6, k_L7, k_L8, k_T0, k_T1, k_T2, k_T3, k_T4, k_T5, k_T6, k_T7, k_T8, lp_nx, lp_ct, u_add, u_int, o_sub, o_cmp, o_neg, o_isN0, o_isN1, o_isI0, o_isI1, p_1_0, p_2_01, p_2_10, p_3_012, p_3_021, p_3_102, p_3_120, p_3_201, p_3_210, List.set_cons_succ, List.set_cons_zero, wipe_cons, wipe_nil, tupl_L, x_ok, k_And0, k_And1, k_Or0, k_Or1, k6, c2]
  have ec := errors_c b0
  have r4 : (mAsg (mCallP 1 F__law_errors (mCons (mVar 1) mNil)) (mgName 4)) [some (.loc k), some d, some e, some (.lst NM), none, none, none, none, none] h2 = .nx [some (.loc k), some d, some e, some (.lst NM), some (.lst (errs d)), none, none, none, none] h2 := by
    simp only [b_ok, b_bad, t_ok, t_bad, e_C, e_V0, e_V1, e_V2, e_V3, e_V4, e_V5, e_V6, e_V7, e_V8, e_V9, e_V10, k_Q, k_Bl, k_TruB, k_TruI, k_TruN, k_NotT, k_AndT1, k_AndT0, k_OrT1, k_OrT0, k_And1, k_And0, k_Or1, k_Or0, k_Not, k_If1, k_If0, k_Cons, k_Tup, k_Lst, k_Frz, k_Own, k_Call, k_CallK, k_Chain1, k_Chain0, k_Chain2, e_Chain, e_Bin, e_BinF, e_Un, e_Bl, e_Tru, e_NotT, e_AndT, e_OrT, e_And, e_Or, e_Not, e_If, e_Nil, e_Cons, e_Tup, e_Lst, e_Frz, e_Own, e_CB, e_CBF, e_Call, e_CallP, k_CallKP, e_CallKP, e_CallK, go_nx, go_rt, go_bk, go_ct, e_Next, e_Seq, k_Drop, e_Drop, k_Ret, e_Ret, k_IfS1, k_IfS0, e_IfS, g_Name, g_Nil, g_Cons, g_Tup, k_Nx, k_Asg, e_Asg, k_Par, e_Par, k_Par3, e_Par3, k_Aug2, k_Aug, e_Aug, k_SeqL, k_SeqS, k_SeqT, i_Seq, k_R1, i_R1, k_R2, i_R2, k_For, e_For, k_Turn, k_Lc, e_Lc, k_Wh1, k_Wh0, r_nx, r_rt, x_ok, x_same, k_RevT, e_RevT, k_RevL, e_RevL, k_Rg1, e_Rg1, k_Rg2, e_Rg2, e_LstRg, e_TupRg, k_EnumT, k_EnumL, e_Enum, k_UL, k_US, k_UT, i_U, e_Disp, e_DNew, k_StarT, e_Star, e_NoPart, k_Part, e_Part, k_SlUT, k_SlUL, k_Sl1, e_SlU, k_SlLL, k_SlLS, e_SlL, k_Split, e_Split, k_Join2, k_Join, e_Join, e_Meth0, g_Seq2T, g_Seq2L, g_Seq3L, g_Seq3T, e_SubU, e_Fld, e_MakeS, k_Cm2, e_Cm2, k_DicF, e_DicF, e_SortS, e_Meth, e_V11, e_V12, e_V13, e_V14, e_V15, e_V16, e_V17, e_V18, e_V19, e_V20, e_V21, e_V22, e_V23, e_V24, e_V25, e_V26, e_V27, e_V28, e_V29, e_V30, k_L0, k_L1, k_L2, k_L3, k_L4, k_L5, k_L6, k_L7, k_L8, k_T0, k_T1, k_T2, k_T3, k_T4, k_T5, k_T6, k_T7, k_T8, lp_nx, lp_ct, u_add, u_int, o_sub, o_cmp, o_neg, o_isN0, o_isN1, o_isI0, o_isI1, p_1_0, p_2_01, p_2_10, p_3_012, p_3_021, p_3_102, p_3_120, p_3_201, p_3_210, List.set_cons_succ, List.set_cons_zero, wipe_cons, wipe_nil, tupl_L, x_ok, k_And0, k_And1, k_Or0, k_Or1, ec]
  have ln : ∀ h : AH, lenUD [.lst (errs d)] h = .ok (.int 36) h := fun h => u_lenL
  have er : ∀ H : AH, kR1 [.int 36] H = .ok (.items ((List.range' 0 36).map fun i : Nat => D.int (i : Nat))) H := fun H => (k_R1 (by decide) (by decide)).trans (congrArg (fun l => Ab.R.ok (AI.items l) H) (by kernel_rfl))
  obtain ⟨y5, y6, lp⟩ := loop (k := k) (h := h2) (e := e) hd 36 0 none none (by decide)
  have r5 : (mFor (miRng1 (mCons (mCB lenUD (mCons (mVar 4) mNil)) mNil)) (mgName 5) b__law_right_1) [some (.loc k), some d, some e, some (.lst NM), some (.lst (errs d)), none, none, none, none] h2 = .nx [some (.loc k), some d, some e, some (.lst NM), some (.lst (errs d)), y5, y6, none, none] h2 := by
    simp only [b_ok, b_bad, t_ok, t_bad, e_C, e_V0, e_V1, e_V2, e_V3, e_V4, e_V5, e_V6, e_V7, e_V8, e_V9, e_V10, k_Q, k_Bl, k_TruB, k_TruI, k_TruN, k_NotT, k_AndT1, k_AndT0, k_OrT1, k_OrT0, k_And1, k_And0, k_Or1, k_Or0, k_Not, k_If1, k_If0, k_Cons, k_Tup, k_Lst, k_Frz, k_Own, k_Call, k_CallK, k_Chain1, k_Chain0, k_Chain2, e_Chain, e_Bin, e_BinF, e_Un, e_Bl, e_Tru, e_NotT, e_AndT, e_OrT, e_And, e_Or, e_Not, e_If, e_Nil, e_Cons, e_Tup, e_Lst, e_Frz, e_Own, e_CB, e_CBF, e_Call, e_CallP, k_CallKP, e_CallKP, e_CallK, go_nx, go_rt, go_bk, go_ct, e_Next, e_Seq, k_Drop, e_Drop, k_Ret, e_Ret, k_IfS1, k_IfS0, e_IfS, g_Name, g_Nil, g_Cons, g_Tup, k_Nx, k_Asg, e_Asg, k_Par, e_Par, k_Par3, e_Par3, k_Aug2, k_Aug, e_Aug, k_SeqL, k_SeqS, k_SeqT, i_Seq, k_R1, i_R1, k_R2, i_R2, k_For, e_For, k_Turn, k_Lc, e_Lc, k_Wh1, k_Wh0, r_nx, r_rt, x_ok, x_same, k_RevT, e_RevT, k_RevL, e_RevL, k_Rg1, e_Rg1, k_Rg2, e_Rg2, e_LstRg, e_TupRg, k_EnumT, k_EnumL, e_Enum, k_UL, k_US, k_UT, i_U, e_Disp, e_DNew, k_StarT, e_Star, e_NoPart, k_Part, e_Part, k_SlUT, k_SlUL, k_Sl1, e_SlU, k_SlLL, k_SlLS, e_SlL, k_Split, e_Split, k_Join2, k_Join, e_Join, e_Meth0, g_Seq2T, g_Seq2L, g_Seq3L, g_Seq3T, e_SubU, e_Fld, e_MakeS, k_Cm2, e_Cm2, k_DicF, e_DicF, e_SortS, e_Meth, e_V11, e_V12, e_V13, e_V14, e_V15, e_V16, e_V17, e_V18, e_V19, e_V20, e_V21, e_V22, e_V23, e_V24, e_V25, e_V26, e_V27, e_V28, e_V29, e_V30, k_L0, k_L1, k_L2, k_L3, k_L4, k_L5, k_L6, k_L7, k_L8, k_T0, k_T1, k_T2, k_T3, k_T4, k_T5, k_T6, k_T7, k_T8, lp_nx, lp_ct, u_add, u_int, o_sub, o_cmp, o_neg, o_isN0, o_isN1, o_isI0, o_isI1, p_1_0, p_2_01, p_2_10, p_3_012, p_3_021, p_3_102, p_3_120, p_3_201, p_3_210, List.set_cons_succ, List.set_cons_zero, wipe_cons, wipe_nil, tupl_L, x_ok, k_And0, k_And1, k_Or0, k_Or1, ln, er]
    exact lp
  have k2 : ∀ (a b : D) (h : AH), kLst [a, b] h = .ok [a, b] h := fun a b h => k_Lst (by simp)
  have xk : ∀ {ma mb : M D} {env : En} {h : AH}, mExvK2 "Broken" "index" "shown" (mCons ma (mCons mb mNil)) env h = (mCons ma (mCons mb mNil) env h).bind fun ds h1 => match ds with
    | [d2, d] => .ok (.exv "Broken" ["index", "shown"] [d, d2]) h1
    | _ => .bad := rfl
  have r6 : (mAsg (mFrz (mLst (mCons (mExv2 "Broken" "index" "shown" (mVar 1) (mVar 2)) (mCons (mExvK2 "Broken" "index" "shown" (mCons (mVar 2) (mCons (mVar 1) mNil))) mNil)))) (mgName 7)) [some (.loc k), some d, some e, some (.lst NM), some (.lst (errs d)), y5, y6, none, none] h2 = .nx [some (.loc k), some d, some e, some (.lst NM), some (.lst (errs d)), y5, y6, some (.lst [.exv "Broken" ["index", "shown"] [d, e], .exv "Broken" ["index", "shown"] [d, e]]), none] h2 := by
    simp only [e_Exv2, xk, b_ok, b_bad, t_ok, t_bad, e_C, e_V0, e_V1, e_V2, e_V3, e_V4, e_V5, e_V6, e_V7, e_V8, e_V9, e_V10, k_Q, k_Bl, k_TruB, k_TruI, k_TruN, k_NotT, k_AndT1, k_AndT0, k_OrT1, k_OrT0, k_And1, k_And0, k_Or1, k_Or0, k_Not, k_If1, k_If0, k_Cons, k_Tup, k_Lst, k_Frz, k_Own, k_Call, k_CallK, k_Chain1, k_Chain0, k_Chain2, e_Chain, e_Bin, e_BinF, e_Un, e_Bl, e_Tru, e_NotT, e_AndT, e_OrT, e_And, e_Or, e_Not, e_If, e_Nil, e_Cons, e_Tup, e_Lst, e_Frz, e_Own, e_CB, e_CBF, e_Call, e_CallP, k_CallKP, e_CallKP, e_CallK, go_nx, go_rt, go_bk, go_ct, e_Next, e_Seq, k_Drop, e_Drop, k_Ret, e_Ret, k_IfS1, k_IfS0, e_IfS, g_Name, g_Nil, g_Cons, g_Tup, k_Nx, k_Asg, e_Asg, k_Par, e_Par, k_Par3, e_Par3, k_Aug2, k_Aug, e_Aug, k_SeqL, k_SeqS, k_SeqT, i_Seq, k_R1, i_R1, k_R2, i_R2, k_For, e_For, k_Turn, k_Lc, e_Lc, k_Wh1, k_Wh0, r_nx, r_rt, x_ok, x_same, k_RevT, e_RevT, k_RevL, e_RevL, k_Rg1, e_Rg1, k_Rg2, e_Rg2, e_LstRg, e_TupRg, k_EnumT, k_EnumL, e_Enum, k_UL, k_US, k_UT, i_U, e_Disp, e_DNew, k_StarT, e_Star, e_NoPart, k_Part, e_Part, k_SlUT, k_SlUL, k_Sl1, e_SlU, k_SlLL, k_SlLS, e_SlL, k_Split, e_Split, k_Join2, k_Join, e_Join, e_Meth0, g_Seq2T, g_Seq2L, g_Seq3L, g_Seq3T, e_SubU, e_Fld, e_MakeS, k_Cm2, e_Cm2, k_DicF, e_DicF, e_SortS, e_Meth, e_V11, e_V12, e_V13, e_V14, e_V15, e_V16, e_V17, e_V18, e_V19, e_V20, e_V21, e_V22, e_V23, e_V24, e_V25, e_V26, e_V27, e_V28, e_V29, e_V30, k_L0, k_L1, k_L2, k_L3, k_L4, k_L5, k_L6, k_L7, k_L8, k_T0, k_T1, k_T2, k_T3, k_T4, k_T5, k_T6, k_T7, k_T8, lp_nx, lp_ct, u_add, u_int, o_sub, o_cmp, o_neg, o_isN0, o_isN1, o_isI0, o_isI1, p_1_0, p_2_01, p_2_10, p_3_012, p_3_021, p_3_102, p_3_120, p_3_201, p_3_210, List.set_cons_succ, List.set_cons_zero, wipe_cons, wipe_nil, tupl_L, x_ok, k_And0, k_And1, k_Or0, k_Or1, k2]
  have uL : ∀ H : AH, kU (.lst [.exv "Broken" ["index", "shown"] [d, e], .exv "Broken" ["index", "shown"] [d, e]]) H = .ok (.items [.exv "Broken" ["index", "shown"] [d, e], .exv "Broken" ["index", "shown"] [d, e]]) H := fun H => rfl
  have sL : ([.exv "Broken" ["index", "shown"] [d, e], .exv "Broken" ["index", "shown"] [d, e]] : List D).length ≤ sizeLine := small_line (show 2 ≤ 1000000 by decide)
  have eb := err_Broken b0 b1
  have fb := fld_Broken b0 b1
  have n7 : ∀ H : AH, neD (.lst [.str "Broken", .str "Broken"]) (.lst [.str "Broken", .str "Broken"]) H = .ok (.bl false) H := fun H => by kernel_rfl
  have r7 : (mIfS (mBl (mBin neD (mFrz (mLc (miU (mVar 7)) (mgName 8) (fun _ h => .ok true h) (mCallP 1 F__law_error (mCons (mVar 8) mNil)) [8])) (mFrz (mLst (mCons (mC (.str "Broken")) (mCons (mC (.str "Broken")) mNil)))))) (mRet (mC (.bl false))) mNext) [some (.loc k), some d, some e, some (.lst NM), some (.lst (errs d)), y5, y6, some (.lst [.exv "Broken" ["index", "shown"] [d, e], .exv "Broken" ["index", "shown"] [d, e]]), none] h2 = .nx [some (.loc k), some d, some e, some (.lst NM), some (.lst (errs d)), y5, y6, some (.lst [.exv "Broken" ["index", "shown"] [d, e], .exv "Broken" ["index", "shown"] [d, e]]), none] h2 := by
    simp only [b_ok, b_bad, t_ok, t_bad, e_C, e_V0, e_V1, e_V2, e_V3, e_V4, e_V5, e_V6, e_V7, e_V8, e_V9, e_V10, k_Q, k_Bl, k_TruB, k_TruI, k_TruN, k_NotT, k_AndT1, k_AndT0, k_OrT1, k_OrT0, k_And1, k_And0, k_Or1, k_Or0, k_Not, k_If1, k_If0, k_Cons, k_Tup, k_Lst, k_Frz, k_Own, k_Call, k_CallK, k_Chain1, k_Chain0, k_Chain2, e_Chain, e_Bin, e_BinF, e_Un, e_Bl, e_Tru, e_NotT, e_AndT, e_OrT, e_And, e_Or, e_Not, e_If, e_Nil, e_Cons, e_Tup, e_Lst, e_Frz, e_Own, e_CB, e_CBF, e_Call, e_CallP, k_CallKP, e_CallKP, e_CallK, go_nx, go_rt, go_bk, go_ct, e_Next, e_Seq, k_Drop, e_Drop, k_Ret, e_Ret, k_IfS1, k_IfS0, e_IfS, g_Name, g_Nil, g_Cons, g_Tup, k_Nx, k_Asg, e_Asg, k_Par, e_Par, k_Par3, e_Par3, k_Aug2, k_Aug, e_Aug, k_SeqL, k_SeqS, k_SeqT, i_Seq, k_R1, i_R1, k_R2, i_R2, k_For, e_For, k_Turn, k_Lc, e_Lc, k_Wh1, k_Wh0, r_nx, r_rt, x_ok, x_same, k_RevT, e_RevT, k_RevL, e_RevL, k_Rg1, e_Rg1, k_Rg2, e_Rg2, e_LstRg, e_TupRg, k_EnumT, k_EnumL, e_Enum, k_UL, k_US, k_UT, i_U, e_Disp, e_DNew, k_StarT, e_Star, e_NoPart, k_Part, e_Part, k_SlUT, k_SlUL, k_Sl1, e_SlU, k_SlLL, k_SlLS, e_SlL, k_Split, e_Split, k_Join2, k_Join, e_Join, e_Meth0, g_Seq2T, g_Seq2L, g_Seq3L, g_Seq3T, e_SubU, e_Fld, e_MakeS, k_Cm2, e_Cm2, k_DicF, e_DicF, e_SortS, e_Meth, e_V11, e_V12, e_V13, e_V14, e_V15, e_V16, e_V17, e_V18, e_V19, e_V20, e_V21, e_V22, e_V23, e_V24, e_V25, e_V26, e_V27, e_V28, e_V29, e_V30, k_L0, k_L1, k_L2, k_L3, k_L4, k_L5, k_L6, k_L7, k_L8, k_T0, k_T1, k_T2, k_T3, k_T4, k_T5, k_T6, k_T7, k_T8, lp_nx, lp_ct, u_add, u_int, o_sub, o_cmp, o_neg, o_isN0, o_isN1, o_isI0, o_isI1, p_1_0, p_2_01, p_2_10, p_3_012, p_3_021, p_3_102, p_3_120, p_3_201, p_3_210, List.set_cons_succ, List.set_cons_zero, wipe_cons, wipe_nil, tupl_L, x_ok, k_And0, k_And1, k_Or0, k_Or1, uL, k_Lc sL, lc_cons, lc_nil, if_true, eb, k2, n7]
  obtain ⟨z, rp⟩ := rep2_of hd he
  have nz := ne_str z
  have r8 : (mIfS (mBl (mBin neD (mCB reprND (mCons (mFrz (mLc (miU (mVar 7)) (mgName 8) (fun _ h => .ok true h) (mCallP 2 F__law_field (mCons (mVar 8) (mCons (mC (.str "Broken")) mNil))) [8])) mNil)) (mCB reprND (mCons (mFrz (mLst (mCons (mFrz (mLst (mCons (mVar 1) (mCons (mVar 2) mNil)))) (mCons (mFrz (mLst (mCons (mVar 1) (mCons (mVar 2) mNil)))) mNil)))) mNil)))) (mRet (mC (.bl false))) mNext) [some (.loc k), some d, some e, some (.lst NM), some (.lst (errs d)), y5, y6, some (.lst [.exv "Broken" ["index", "shown"] [d, e], .exv "Broken" ["index", "shown"] [d, e]]), none] h2 = .nx [some (.loc k), some d, some e, some (.lst NM), some (.lst (errs d)), y5, y6, some (.lst [.exv "Broken" ["index", "shown"] [d, e], .exv "Broken" ["index", "shown"] [d, e]]), none] h2 := by
    simp only [b_ok, b_bad, t_ok, t_bad, e_C, e_V0, e_V1, e_V2, e_V3, e_V4, e_V5, e_V6, e_V7, e_V8, e_V9, e_V10, k_Q, k_Bl, k_TruB, k_TruI, k_TruN, k_NotT, k_AndT1, k_AndT0, k_OrT1, k_OrT0, k_And1, k_And0, k_Or1, k_Or0, k_Not, k_If1, k_If0, k_Cons, k_Tup, k_Lst, k_Frz, k_Own, k_Call, k_CallK, k_Chain1, k_Chain0, k_Chain2, e_Chain, e_Bin, e_BinF, e_Un, e_Bl, e_Tru, e_NotT, e_AndT, e_OrT, e_And, e_Or, e_Not, e_If, e_Nil, e_Cons, e_Tup, e_Lst, e_Frz, e_Own, e_CB, e_CBF, e_Call, e_CallP, k_CallKP, e_CallKP, e_CallK, go_nx, go_rt, go_bk, go_ct, e_Next, e_Seq, k_Drop, e_Drop, k_Ret, e_Ret, k_IfS1, k_IfS0, e_IfS, g_Name, g_Nil, g_Cons, g_Tup, k_Nx, k_Asg, e_Asg, k_Par, e_Par, k_Par3, e_Par3, k_Aug2, k_Aug, e_Aug, k_SeqL, k_SeqS, k_SeqT, i_Seq, k_R1, i_R1, k_R2, i_R2, k_For, e_For, k_Turn, k_Lc, e_Lc, k_Wh1, k_Wh0, r_nx, r_rt, x_ok, x_same, k_RevT, e_RevT, k_RevL, e_RevL, k_Rg1, e_Rg1, k_Rg2, e_Rg2, e_LstRg, e_TupRg, k_EnumT, k_EnumL, e_Enum, k_UL, k_US, k_UT, i_U, e_Disp, e_DNew, k_StarT, e_Star, e_NoPart, k_Part, e_Part, k_SlUT, k_SlUL, k_Sl1, e_SlU, k_SlLL, k_SlLS, e_SlL, k_Split, e_Split, k_Join2, k_Join, e_Join, e_Meth0, g_Seq2T, g_Seq2L, g_Seq3L, g_Seq3T, e_SubU, e_Fld, e_MakeS, k_Cm2, e_Cm2, k_DicF, e_DicF, e_SortS, e_Meth, e_V11, e_V12, e_V13, e_V14, e_V15, e_V16, e_V17, e_V18, e_V19, e_V20, e_V21, e_V22, e_V23, e_V24, e_V25, e_V26, e_V27, e_V28, e_V29, e_V30, k_L0, k_L1, k_L2, k_L3, k_L4, k_L5, k_L6, k_L7, k_L8, k_T0, k_T1, k_T2, k_T3, k_T4, k_T5, k_T6, k_T7, k_T8, lp_nx, lp_ct, u_add, u_int, o_sub, o_cmp, o_neg, o_isN0, o_isN1, o_isI0, o_isI1, p_1_0, p_2_01, p_2_10, p_3_012, p_3_021, p_3_102, p_3_120, p_3_201, p_3_210, List.set_cons_succ, List.set_cons_zero, wipe_cons, wipe_nil, tupl_L, x_ok, k_And0, k_And1, k_Or0, k_Or1, uL, k_Lc sL, lc_cons, lc_nil, if_true, fb, k2, rp, nz]
  have x0 : ∀ {env : En} {h : AH}, mExv0 "NothingToUndo" env h = .ok (.exv "NothingToUndo" [] []) h := rfl
  have q9 : ∀ H : AH, eqD (.str "NothingToUndo") (.str "NothingToUndo") H = .ok (.bl true) H := fun H => by kernel_rfl
  have t : Dr h k h2 := ⟨t2.1, by rw [t2.2.1, t1.2.1], fun i ne => by rw [t2.2.2 i ne, t1.2.2 i ne]⟩
  refine ⟨h2, ?_, f0.dr t⟩
  unfold F__law_right m__law_right
  rw [f_T, ei, e_Seq, r0, go_nx, e_Seq, r1, go_nx, e_Seq, r2, go_nx, e_Seq, r3, go_nx, e_Seq, r4, go_nx, e_Seq, r5, go_nx, e_Seq, r6, go_nx, e_Seq, r7, go_nx, e_Seq, r8, go_nx]
  simp only [x0, b_ok, b_bad, t_ok, t_bad, e_C, e_V0, e_V1, e_V2, e_V3, e_V4, e_V5, e_V6, e_V7, e_V8, e_V9, e_V10, k_Q, k_Bl, k_TruB, k_TruI, k_TruN, k_NotT, k_AndT1, k_AndT0, k_OrT1, k_OrT0, k_And1, k_And0, k_Or1, k_Or0, k_Not, k_If1, k_If0, k_Cons, k_Tup, k_Lst, k_Frz, k_Own, k_Call, k_CallK, k_Chain1, k_Chain0, k_Chain2, e_Chain, e_Bin, e_BinF, e_Un, e_Bl, e_Tru, e_NotT, e_AndT, e_OrT, e_And, e_Or, e_Not, e_If, e_Nil, e_Cons, e_Tup, e_Lst, e_Frz, e_Own, e_CB, e_CBF, e_Call, e_CallP, k_CallKP, e_CallKP, e_CallK, go_nx, go_rt, go_bk, go_ct, e_Next, e_Seq, k_Drop, e_Drop, k_Ret, e_Ret, k_IfS1, k_IfS0, e_IfS, g_Name, g_Nil, g_Cons, g_Tup, k_Nx, k_Asg, e_Asg, k_Par, e_Par, k_Par3, e_Par3, k_Aug2, k_Aug, e_Aug, k_SeqL, k_SeqS, k_SeqT, i_Seq, k_R1, i_R1, k_R2, i_R2, k_For, e_For, k_Turn, k_Lc, e_Lc, k_Wh1, k_Wh0, r_nx, r_rt, x_ok, x_same, k_RevT, e_RevT, k_RevL, e_RevL, k_Rg1, e_Rg1, k_Rg2, e_Rg2, e_LstRg, e_TupRg, k_EnumT, k_EnumL, e_Enum, k_UL, k_US, k_UT, i_U, e_Disp, e_DNew, k_StarT, e_Star, e_NoPart, k_Part, e_Part, k_SlUT, k_SlUL, k_Sl1, e_SlU, k_SlLL, k_SlLS, e_SlL, k_Split, e_Split, k_Join2, k_Join, e_Join, e_Meth0, g_Seq2T, g_Seq2L, g_Seq3L, g_Seq3T, e_SubU, e_Fld, e_MakeS, k_Cm2, e_Cm2, k_DicF, e_DicF, e_SortS, e_Meth, e_V11, e_V12, e_V13, e_V14, e_V15, e_V16, e_V17, e_V18, e_V19, e_V20, e_V21, e_V22, e_V23, e_V24, e_V25, e_V26, e_V27, e_V28, e_V29, e_V30, k_L0, k_L1, k_L2, k_L3, k_L4, k_L5, k_L6, k_L7, k_L8, k_T0, k_T1, k_T2, k_T3, k_T4, k_T5, k_T6, k_T7, k_T8, lp_nx, lp_ct, u_add, u_int, o_sub, o_cmp, o_neg, o_isN0, o_isN1, o_isI0, o_isI1, p_1_0, p_2_01, p_2_10, p_3_012, p_3_021, p_3_102, p_3_120, p_3_201, p_3_210, List.set_cons_succ, List.set_cons_zero, wipe_cons, wipe_nil, tupl_L, x_ok, k_And0, k_And1, k_Or0, k_Or1, err_Nothing, q9]
  exact x_same t.2.1 rfl
end
end K01

namespace K01
open PySem PySem.Spec L2 Ab
open Tb (Fl)
section
/-- the slots behind the first, and the heap, behind a row -/
def outS (N : Nat) : SS → List (Option D) × AH
  | .nx env h => (env.drop 1, h)
  | _ => ([], [])
def st0 : List (Option D) × AH := ([none, none, none], [])
def st1 : List (Option D) × AH := outS 4 ((mAsg (mFrz (mLst (mCons (mC (.int 6)) (mCons (mC (.int 9)) (mCons (mC (.int 32)) (mCons (mC (.int 3)) (mCons (mC (.int 12)) (mCons (mC (.int 1000000000)) (mCons (mC (.int 5)) mNil))))))))) (mgName 1)) (some .non :: st0.1) st0.2)
def st2 : List (Option D) × AH := outS 4 ((mIfS (mBl (mBin neD (mCB reprND (mCons (mVar 1) mNil)) (mCB reprND (mCons (mFrz (mLst (mCons (mC (.int 6)) (mCons (mC (.int 9)) (mCons (mC (.int 32)) (mCons (mC (.int 3)) (mCons (mC (.int 12)) (mCons (mBin powD (mC (.int 10)) (mC (.int 9))) (mCons (mC (.int 5)) mNil))))))))) mNil)))) (mRet (mC (.bl false))) mNext) (some .non :: st1.1) st1.2)
def st3 : List (Option D) × AH := outS 4 ((mAsg (mFrz (mLst (mCons (mCB (isXD xT xTs xNs) (mCons (mExv0 "WrongValue") (mCons (mC (.ty "ValueError")) mNil))) (mCons (mCB (isXD xT xTs xNs) (mCons (mExv0 "WrongName") (mCons (mC (.ty "LookupError")) mNil))) mNil)))) (mgName 2)) (some .non :: st2.1) st2.2)
def st4 : List (Option D) × AH := outS 4 ((mAsg (mFrz (mBinF catD (mVar 2) (mFrz (mLst (mCons (mCB (isXD xT xTs xNs) (mCons (mExv0 "NoAnswer") (mCons (mC (.ty "ArithmeticError")) mNil))) (mCons (mCB (isXD xT xTs xNs) (mCons (mExv0 "NoAnswer") (mCons (mC (.glo "WrongValue")) mNil))) mNil)))))) (mgName 2)) (some .non :: st3.1) st3.2)
def st5 : List (Option D) × AH := outS 4 ((mIfS (mBl (mBin neD (mVar 2) (mFrz (mLst (mCons (mC (.bl true)) (mCons (mC (.bl true)) (mCons (mC (.bl true)) (mCons (mC (.bl false)) mNil)))))))) (mRet (mC (.bl false))) mNext) (some .non :: st4.1) st4.2)
theorem f1 {S : Option D} {q : MS} : SS.go ((mAsg (mFrz (mLst (mCons (mC (.int 6)) (mCons (mC (.int 9)) (mCons (mC (.int 32)) (mCons (mC (.int 3)) (mCons (mC (.int 12)) (mCons (mC (.int 1000000000)) (mCons (mC (.int 5)) mNil))))))))) (mgName 1)) (S :: st0.1) st0.2) q = q (S :: st1.1) st1.2 := by kernel_rfl
theorem f2 {S : Option D} {q : MS} : SS.go ((mIfS (mBl (mBin neD (mCB reprND (mCons (mVar 1) mNil)) (mCB reprND (mCons (mFrz (mLst (mCons (mC (.int 6)) (mCons (mC (.int 9)) (mCons (mC (.int 32)) (mCons (mC (.int 3)) (mCons (mC (.int 12)) (mCons (mBin powD (mC (.int 10)) (mC (.int 9))) (mCons (mC (.int 5)) mNil))))))))) mNil)))) (mRet (mC (.bl false))) mNext) (S :: st1.1) st1.2) q = q (S :: st2.1) st2.2 := by kernel_rfl
theorem f3 {S : Option D} {q : MS} : SS.go ((mAsg (mFrz (mLst (mCons (mCB (isXD xT xTs xNs) (mCons (mExv0 "WrongValue") (mCons (mC (.ty "ValueError")) mNil))) (mCons (mCB (isXD xT xTs xNs) (mCons (mExv0 "WrongName") (mCons (mC (.ty "LookupError")) mNil))) mNil)))) (mgName 2)) (S :: st2.1) st2.2) q = q (S :: st3.1) st3.2 := by kernel_rfl
theorem f4 {S : Option D} {q : MS} : SS.go ((mAsg (mFrz (mBinF catD (mVar 2) (mFrz (mLst (mCons (mCB (isXD xT xTs xNs) (mCons (mExv0 "NoAnswer") (mCons (mC (.ty "ArithmeticError")) mNil))) (mCons (mCB (isXD xT xTs xNs) (mCons (mExv0 "NoAnswer") (mCons (mC (.glo "WrongValue")) mNil))) mNil)))))) (mgName 2)) (S :: st3.1) st3.2) q = q (S :: st4.1) st4.2 := by kernel_rfl
theorem f5 {S : Option D} {q : MS} : SS.go ((mIfS (mBl (mBin neD (mVar 2) (mFrz (mLst (mCons (mC (.bl true)) (mCons (mC (.bl true)) (mCons (mC (.bl true)) (mCons (mC (.bl false)) mNil)))))))) (mRet (mC (.bl false))) mNext) (S :: st4.1) st4.2) q = q (S :: st5.1) st5.2 := by kernel_rfl
theorem heap_end : st5.2 = [] := by kernel_rfl
theorem len_end : st5.1.length = 3 := by kernel_rfl
theorem law_holds (ns : List Int) (hl : ns.length ≤ 63) : ∃ h', F_law [.scr (ns.map Ab.D.int)] [] = .ok (.bl true) h' := by
  obtain ⟨h', e⟩ := Tb.tail (FS := F__law_spring) rfl (fun h k s f => right_ok s f) (W := 4) (by decide) (by decide) (iv := 3) (r := st5.1) hl (by rw [len_end]; decide) (by decide) (h := []) Tb.fl_nil
  refine Tb.law_of (N := 4) (m := m_law) rfl (h2 := h') ?_
  have ei : initE 4 [D.scr (ns.map .int)] = some (.scr (ns.map .int)) :: st0.1 := rfl
  have e0 : ([] : AH) = st0.2 := rfl
  unfold m_law
  rw [ei, e0, e_Seq, f1, e_Seq, f2, e_Seq, f3, e_Seq, f4, e_Seq, f5, heap_end]
  exact e
end
end K01

theorem PySem.Challenge.cw_turnedblind_k01_errors_and_limits_holds : PySem.Challenge.rw_turnedblind_k01_errors_and_limits.Holds :=
  K01.fits K01.law_holds
