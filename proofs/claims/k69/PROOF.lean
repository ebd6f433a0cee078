import PyProof.Rows.All
import Wide.All
import OpenK.AllK
import Wide.FinOn
import HandS.ForMost
import HandS.Defaults
import HandS.HeadHook2
import HandS.Lambda
import HandS.Flow
import HandS.Wide
import HandS.TupAny
import HandS.IsInst
import HandS.Iter
import HandS.Conv
import HandS.Star
import HandS.More
import HandS.HeadEnd
import HandS.Exc
import HandS.Deep
import HandS.TupMul
import HandS.RaiseMore
import HandS.Style
import HandS.Text
import HandS.Zip
import HandS.SortInts
import PyProof.EnumMake
import KE.GoesMore
import HandS.DictComp
import HandS.SetBool
import HandS.TupSets
import HandS.SortOrd
import HandS.TupLen
import HandS.Property
import HandS.ClsMeth
import HandS.HeadNt
import KE.DatumOrd
import KE.KDictCopyH
import KE.KDictOf
import OpenK.KOps
import HandS.HeadHook3
import HandS.SetFor
import HandS.FStr
import HandS.ExcInit
import HandS.ExcSuper
import KE.KSuper
import KE.KExcSuper
import KE.KTryMore
import HandS.HotCalls
import HandS.ExcField
import KE.KExcIs
import HandS.ExcIs
import PyProof.ReprNest
import PyProof.StrHeap
import PyProof.Rows.Digits
import HandS.Head0
import HandS.Head1
import HandS.Head2
import HandS.HeadHook1
import HandS.Strs
import KE.KDictKeyed
import KE.KeyNested
import PyProof.InstNe
import PySem.Challenge.RW_turnedblind_k69_whole_kinds_of_rings
set_option Elab.async false
set_option linter.all false
set_option maxRecDepth 100000
set_option maxHeartbeats 0
/-! The abstract layer: data as trees, a numbered heap of what is mutable, and how both stand for a HandS heap. -/
namespace Ab
open PySem PySem.Spec L2

/-- a value: a tree of what never changes, or the number of something that may -/
inductive D where
  | non | bl (b : Bool) | int (i : Int) | str (x : Str) | glo (x : Str) | ty (n : String)
  | tup (ds : List D) | lst (ds : List D) | scr (ds : List D) | loc (n : Nat)
  | obj (c : Str) (ns : List Str) (ds : List D) | dic (ks : List (List Key)) (ds : List D) | nd (ks : List (List (List Int))) (ds : List D) | exv (c : Str) (ns : List Str) (ds : List D) | fn (a : Nat) | dk (kvs : List (Str × Int)) | dv (ks : List Str) (ds : List D)
/-- what stands at a number -/
inductive AO where
  | lst (ds : List D)
  | dct (kvs : List (List Key × D))
  | ins (c : Str) (fs : List (Str × D))
  | ndt (kvs : List (List (List Int) × D))
abbrev AH := List AO
abbrev En := List (Option D)
abbrev Ro := Nat → Option Addr

/-- how a computation ends -/
inductive R (α : Type) where
  | ok (a : α) (h : AH)
  | exc (x : Str) (fs : List (Str × D)) (h : AH)
  | bad
def R.bind {α β : Type} (r : R α) (k : α → AH → R β) : R β := match r with
  | .ok a h => k a h
  | .exc x fs h => .exc x fs h
  | .bad => .bad
abbrev M (α : Type) := En → AH → R α

section
variable (K : PySem.W.Frag)
/-- the hash of a tuple of tuples of whole numbers -/
def hash2 (k : List (List Int)) : Int := reduceHash (Builtin.Tuple.tupleHashOf (k.map fun t => reduceHash (Builtin.Tuple.tupleHashOf (t.map hashInt))))
/-- at a: a dict whose keys are tuples of tuples of whole numbers; where the keys' own tuples stand is told -/
def NdO (a : Addr) (xs : List (List (List Int) × Addr × V)) : HO := .ext fun h => (a == sysModules) = false ∧ xs.length ≤ sizeLine ∧ (xs.map (·.1)).Nodup ∧
  ∃ ys : List Value, Vals (xs.map (·.2.2)) ys ∧ ∃ o es ep, h.get? a = some o ∧ o.ExactDict ∧ o.data = .dict es ep ∧ es.toList = (xs.zip ys).map fun p => (⟨hash2 p.1.1, .ref p.1.2.1, p.2⟩ : DictEntry)
/-- the tuple of tuples at b is the key k -/
def NK (P : Hp) (b : Addr) (k : List (List Int)) : Prop := ∃ cs : List Addr, P b = some (.tup (cs.map V.ref)) ∧ cs.length = k.length ∧ ∀ p ∈ cs.zip k, P p.1 = some (.tup (p.2.map V.int))
theorem NK.up {P P' : Hp} {b : Addr} {k : List (List Int)} (s : ∀ a o, P a = some o → P' a = some o) (x : NK P b k) : NK P' b k := by
  obtain ⟨cs, e, l, q⟩ := x
  exact ⟨cs, s _ _ e, l, fun p hp => s _ _ (q p hp)⟩
/-- at a: an exception of the class at C that was caught, its dict (none | at d) -/
def XvO (a C : Addr) (d : Option Addr) : HO := .ext fun h => ∃ (oe : Obj) (vs : Array Value), h.get? a = some oe ∧ Zc (.ref C) d oe ∧ oe.data = .fields vs
def XdP (P : Hp) (d : Option Addr) (fvs : List (Str × V)) : Prop := (d = none ∧ fvs = []) ∨ ∃ dx, d = some dx ∧ P dx = some (.xd fvs)
theorem XdP.up {P P' : Hp} {d : Option Addr} {fvs : List (Str × V)} (s : ∀ a o, P a = some o → P' a = some o) (x : XdP P d fvs) : XdP P' d fvs := x.imp (fun z => z) fun ⟨dx, e, q⟩ => ⟨dx, e, s _ _ q⟩
def NoR (ρ : Ro) (a : Addr) : Prop := ∀ n, ρ n ≠ some a
mutual
/-- how a value stands: by the numbers' addresses ρ and the part of the heap that never changes P -/
inductive Rep (ρ : Ro) (P : Hp) : D → V → Prop
  | non : Rep ρ P .non .non
  | bl (b : Bool) : Rep ρ P (.bl b) (.bl b)
  | int (i : Int) : Rep ρ P (.int i) (.int i)
  | str (x : Str) : Rep ρ P (.str x) (.str x)
  | glo (x : Str) : Rep ρ P (.glo x) (.ref (He.ga K x))
  | ty (n : String) : Rep ρ P (.ty n) (.ty n)
  | tup {a : Addr} {vs : List V} {ds : List D} : P a = some (.tup vs) → RepL ρ P ds vs → Rep ρ P (.tup ds) (.ref a)
  | lst {a : Addr} {vs : List V} {ds : List D} : P a = some (.lst vs) → RepL ρ P ds vs → Rep ρ P (.lst ds) (.ref a)
  | scr {a : Addr} {vs : List V} {ds : List D} : SqL K P a vs → RepL ρ P ds vs → Rep ρ P (.scr ds) (.ref a)
  | loc {n : Nat} {a : Addr} : ρ n = some a → Rep ρ P (.loc n) (.ref a)
  | obj {a dx : Addr} {c : Str} {ns : List Str} {ds : List D} {fvs : List (Str × V)} {vs : List V} : P a = some (.ins (He.ga K c) dx fvs) → fvs = ns.zip vs → ns.length = vs.length → RepL ρ P ds vs → Rep ρ P (.obj c ns ds) (.ref a)
  | dic {a : Addr} {ks : List (List Key)} {ds : List D} {kws : List (List Key × V)} {vs : List V} : P a = some (.dT kws) → kws = ks.zip vs → ks.length = vs.length → RepL ρ P ds vs → Rep ρ P (.dic ks ds) (.ref a)
  | nd {a : Addr} {ks : List (List (List Int))} {ds : List D} {xs : List (List (List Int) × Addr × V)} {vs : List V} : P a = some (NdO a xs) → xs.map (·.1) = ks → vs = xs.map (·.2.2) → (∀ x ∈ xs, NK P x.2.1 x.1) → RepL ρ P ds vs → Rep ρ P (.nd ks ds) (.ref a)
  | exv {a : Addr} {d : Option Addr} {c : Str} {ns : List Str} {ds : List D} {fvs : List (Str × V)} {vs : List V} : P a = some (XvO a (He.ga K c) d) → XdP P d fvs → fvs = ns.zip vs → ns.length = vs.length → RepL ρ P ds vs → Rep ρ P (.exv c ns ds) (.ref a)
  | fn (a : Addr) : Rep ρ P (.fn a) (.ref a)
  | dk {a : Addr} {kvs : List (Str × Int)} : P a = some (.dK (kvs.map fun p => (Sum.inr p.1, V.int p.2))) → Rep ρ P (.dk kvs) (.ref a)
  | dv {a : Addr} {ks : List Str} {ds : List D} {kws : List (Key × V)} {vs : List V} : P a = some (.dK kws) → kws = (ks.map Sum.inr).zip vs → ks.length = vs.length → RepL ρ P ds vs → Rep ρ P (.dv ks ds) (.ref a)
inductive RepL (ρ : Ro) (P : Hp) : List D → List V → Prop
  | nil : RepL ρ P [] []
  | cons {d : D} {v : V} {ds : List D} {vs : List V} : Rep ρ P d v → RepL ρ P ds vs → RepL ρ P (d :: ds) (v :: vs)
end
/-- an object -/
def RO (ρ : Ro) (P H : Hp) (a : Addr) : AO → Prop
  | .lst ds => ∃ vs, H a = some (.lst vs) ∧ RepL K ρ P ds vs
  | .dct kvs => ∃ kws : List (List Key × V), H a = some (.dT kws) ∧ kws.map (·.1) = kvs.map (·.1) ∧ RepL K ρ P (kvs.map (·.2)) (kws.map (·.2))
  | .ins c fs => ∃ dx, ∃ fvs : List (Str × V), H a = some (.ins (He.ga K c) dx fvs) ∧ fvs.map (·.1) = fs.map (·.1) ∧ RepL K ρ P (fs.map (·.2)) (fvs.map (·.2))
  | .ndt kvs => ∃ xs : List (List (List Int) × Addr × V), H a = some (NdO a xs) ∧ xs.map (·.1) = kvs.map (·.1) ∧ (∀ x ∈ xs, NK P x.2.1 x.1) ∧ RepL K ρ P (kvs.map (·.2)) (xs.map (·.2.2))
/-- all but dicts -/
def nD : HO → Bool
  | .dT _ => false
  | _ => true
def Sub (P H : Hp) : Prop := ∀ a o, P a = some o → nD o = true → H a = some o
def nT : HO → Bool
  | .tbl _ => false
  | _ => true
def noTup : HO → Bool
  | .tup _ => false
  | .tbl _ => false
  | _ => true
theorem noT_nT {o : HO} (h : noTup o = true) : nT o = true := by
  cases o with
  | tbl ps => cases h
  | _ => rfl
/-- the code objects of K's functions, their tables that K does not hold, a lambda's name there -/
def tabs3 : List (Addr × Addr × Str) := K.filterMap fun p => match p.2.data with
  | .func fd => (match fd.code with
    | .ref c => (match K.lookup c with
      | some ⟨_, _, .fields vs, _⟩ => (match (vs[11]? : Option Value) with
        | some (.ref b) => if (K.lookup b).isNone = true then some (c, b, fd.qualname ++ ".<locals>." ++ "<lambda>") else none
        | _ => none)
      | _ => none)
    | _ => none)
  | _ => none
def tabsOf : List (Addr × Str) := (tabs3 K).map (·.2)
theorem tabs3_none {p : Addr × Addr × Str} (h : p ∈ tabs3 K) : K.lookup p.2.1 = none := by
  unfold tabs3 at h
  obtain ⟨q, _, e⟩ := List.mem_filterMap.mp h
  try dsimp only at e
  repeat' split at e
  all_goals first
    | (cases e; done)
    | (cases e; exact Option.isNone_iff_eq_none.mp (by assumption))
/-- neither a table of code objects nor a code object -/
def noC (o : HO) : Prop := (∀ ps, o ≠ .tbl ps) ∧ ∀ c q, o ≠ LamX.CodeO c q
def nE : HO → Bool
  | .ext _ => false
  | .tbl _ => false
  | _ => true
theorem noC_of {o : HO} (h : nE o = true) : noC o := by
  refine ⟨fun ps z => ?_, fun c q z => ?_⟩
  · subst z; cases h
  · subst z; cases (show false = true from h)
theorem noC_nT {o : HO} (h : noC o) : nT o = true := by
  cases o with
  | tbl ps => exact absurd rfl (h.1 ps)
  | _ => rfl
/-- what tells of a thing that is no row of fields -/
theorem noC_ext {φ : Heap → Prop} (hφ : ∀ h, φ h → ∃ a o, h.get? a = some o ∧ ∀ vs, o.data ≠ .fields vs) : noC (.ext φ) := by
  refine ⟨fun ps z => (by cases z), fun c q z => ?_⟩
  have z := HO.ext.inj (show HO.ext _ = HO.ext _ from z)
  have hg : ∀ b : Nat, (Heap.mk (Array.replicate (c + 1) (⟨.type "code", none, .fields #[.none, .str q 0], #[]⟩ : Obj)) {}).get? b = if b < c + 1 then some ⟨.type "code", none, .fields #[.none, .str q 0], #[]⟩ else none := fun b => by
    unfold Heap.get?
    simp only [Array.getElem?_replicate]
    by_cases hb : b < c + 1
    · simp only [if_pos hb]
    · simp only [if_neg hb]
  have y := (congrFun z (Heap.mk (Array.replicate (c + 1) (⟨.type "code", none, .fields #[.none, .str q 0], #[]⟩ : Obj)) {})).mpr ⟨_, _, 0, (hg c).trans (if_pos (Nat.lt_succ_self c)), rfl, rfl⟩
  obtain ⟨a, o, ho, hd⟩ := hφ _ y
  rw [hg] at ho
  split at ho
  · cases ho; exact hd _ rfl
  · cases ho
theorem noC_nd {a : Addr} {xs : List (List (List Int) × Addr × V)} : noC (NdO a xs) := noC_ext fun h y => by
  obtain ⟨_, _, _, ys, _, o, es, ep, ho, _, hd, _⟩ := y
  exact ⟨_, o, ho, fun vs z => by rw [hd] at z; cases z⟩
theorem tabs_upd {T : List (Addr × Str)} {H : Hp} {p : Addr} {o : HO} (t : LamX.Tabs T H) (hp : ∀ u, H p = some u → noC u) : LamX.Tabs T (upd H p o) := fun x hx => by
  obtain ⟨ps, h1, h2, h3⟩ := t x hx
  refine ⟨ps, ?_, h2, fun pos cv hc => ?_⟩
  · rw [upd_ne (fun z => (hp (.tbl ps) (by rw [← z]; exact h1)).1 ps rfl)]; exact h1
  · obtain ⟨c, e1, e2⟩ := h3 pos cv hc
    exact ⟨c, e1, by rw [upd_ne (fun z => (hp _ (by rw [← z]; exact e2)).2 _ _ rfl)]; exact e2⟩
/-- what is told of tables of code objects: they are those of K's functions, nothing of them counts as pure -/
structure TbOk (P H : Hp) : Prop where
  tb : LamX.Tabs (tabsOf K) H
  np : ∀ a o, P a = some o → nT o = true
theorem TbOk.upd {P H : Hp} (t : TbOk K P H) {p : Addr} {o : HO} (hc : ∀ u, H p = some u → noC u) (ho : nT o = true) : TbOk K P (upd H p o) := ⟨tabs_upd t.tb hc, t.np⟩
theorem TbOk.new {P H : Hp} (t : TbOk K P H) {p : Addr} {o : HO} (hp : H p = none) (ho : nT o = true) : TbOk K P (L2.upd H p o) := t.upd K (fun u e => by rw [hp] at e; cases e) ho
theorem TbOk.updP {P H : Hp} (t : TbOk K P H) {p : Addr} {o : HO} (ho : nT o = true) : TbOk K (L2.upd P p o) H := ⟨t.tb, fun a u e => by
  by_cases z : a = p
  · subst z; rw [upd_same] at e; cases e; exact ho
  · rw [upd_ne z] at e; exact t.np a u e⟩
/-- the heaps; a dict that nobody changes may be locked while it is walked -/
structure SR (ρ : Ro) (P H : Hp) (h : AH) : Prop where
  sub : Sub P H
  subD : ∀ a kws, P a = some (.dT kws) → Rd H a (.dT kws)
  apart : ∀ n a, ρ n = some a → P a = none
  inj : ∀ n m a, ρ n = some a → ρ m = some a → n = m
  obj : ∀ n o, h[n]? = some o → ∃ a, ρ n = some a ∧ RO K ρ P H a o
  dom : ∀ n, h.length ≤ n → ρ n = none
  tabs : TbOk K P H
/-- the frame -/
def RE (ρ : Ro) (P : Hp) (env : En) (σ : L2.St) : Prop := env.length = σ.length ∧ ∀ (i : Nat) (d : D), env[i]? = some (some d) → ∃ v, σ[i]? = some (some v) ∧ Rep K ρ P d v
end
/-- what a computation may do to what stood -/
structure Step (ρ : Ro) (P H : Hp) (ρ' : Ro) (P' H' : Hp) : Prop where
  mono : ∀ n a, ρ n = some a → ρ' n = some a
  pure : ∀ a o, P a = some o → P' a = some o
  newr : ∀ n a, ρ n = none → ρ' n = some a → H a = none
  newp : ∀ a, P a = none → ((∃ n, ρ n = some a) ∨ ∃ u, H a = some u ∧ noTup u = true) → P' a = none
  keep : ∀ a o, H a = some o → NoR ρ a → (nT o = true ∧ (P a = none ∨ nD o = true)) → H' a = some o
  there : ∀ a, H a ≠ none → H' a ≠ none
section
variable {K : PySem.W.Frag} {ρ ρ' ρ1 : Ro} {P H P' H' P1 H1 : Hp}
theorem Step.refl (ρ : Ro) (P H : Hp) : Step ρ P H ρ P H := ⟨fun _ _ h => h, fun _ _ h => h, fun n a h h' => (by rw [h] at h'; cases h'), fun _ h _ => h, fun _ _ h _ _ => h, fun _ h => h⟩
theorem Step.noR (s : Step ρ P H ρ' P' H') {a : Addr} (ha : H a ≠ none) (h : NoR ρ a) : NoR ρ' a := fun n e => by
  cases q : ρ n with
  | none => exact ha (s.newr n a q e)
  | some b =>
    have := s.mono n b q
    rw [this] at e
    cases e
    exact h n q
theorem Step.noP (s : Step ρ P H ρ' P' H') {a : Addr} (h : P a = none) (ha : (∃ n, ρ n = some a) ∨ ∃ u, H a = some u ∧ noTup u = true) : P' a = none := s.newp a h ha
theorem Step.free (s : Step ρ P H ρ' P' H') {a : Addr} (h : H' a = none) : H a = none := by
  cases w : H a with
  | none => rfl
  | some o => exact absurd h (s.there a (by rw [w]; simp))
theorem nP_step (s : Step ρ P H ρ1 P1 H1) {a : Addr} {o : HO} (h : H a = some o) (w : P a = none ∨ nD o = true) : P1 a = none ∨ nD o = true := by
  rcases w with w | w
  · cases z : noTup o with
    | true => exact .inl (s.newp a w (.inr ⟨o, h, z⟩))
    | false =>
      cases o with
      | tup xs => exact .inr rfl
      | tbl xs => exact .inr rfl
      | _ => cases z
  · exact .inr w
theorem Step.trans (s : Step ρ P H ρ1 P1 H1) (t : Step ρ1 P1 H1 ρ' P' H') : Step ρ P H ρ' P' H' := by
  refine ⟨fun n a h => t.mono n a (s.mono n a h), fun a o h => t.pure a o (s.pure a o h), fun n a h h' => ?_, fun a h ha => ?_, fun a o h hn w => t.keep a o (s.keep a o h hn w) (s.noR (by rw [h]; simp) hn) ⟨w.1, nP_step s h w.2⟩, fun a h => t.there a (s.there a h)⟩
  · cases q : ρ1 n with
    | none => exact s.free (t.newr n a q h')
    | some b =>
      have e := t.mono n b q
      rw [e] at h'
      cases h'
      exact s.newr n a h q
  · have h1 := s.newp a h ha
    refine t.newp a h1 ?_
    by_cases z : ∃ n, ρ n = some a
    · obtain ⟨n, e⟩ := z
      exact .inl ⟨n, s.mono n a e⟩
    · rcases ha with w | ⟨u, e, w⟩
      · exact absurd w z
      · exact .inr ⟨u, s.keep a u e (fun n e => z ⟨n, e⟩) ⟨noT_nT w, .inl h⟩, w⟩
theorem sqL_sub (s : ∀ a o, P a = some o → P' a = some o) {a : Addr} {xs : List V} (h : SqL K P a xs) : SqL K P' a xs := h.imp (fun q => q.imp (s _ _) fun ⟨o, q⟩ => ⟨o, s _ _ q⟩) fun q => q
theorem sqL_s (s : Sub P P') {a : Addr} {xs : List V} (h : SqL K P a xs) : SqL K P' a xs := h.imp (fun q => q.imp (fun q => s _ _ q rfl) fun ⟨o, q⟩ => ⟨o, s _ _ q rfl⟩) fun q => q
theorem sqT_s (s : Sub P P') {a : Addr} {xs : List V} (h : SqT K P a xs) : SqT K P' a xs := h.imp (fun q => q.imp (fun q => s _ _ q rfl) fun ⟨o, q⟩ => ⟨o, s _ _ q rfl⟩) fun q => q
theorem sqT_tk (s : Sub P P') {a : Addr} {xs : List V} (h : P a = some (.tup xs)) : SqT K P' a xs := .of (s _ _ h rfl)
theorem sqT_sub (s : ∀ a o, P a = some o → P' a = some o) {a : Addr} {xs : List V} (h : SqT K P a xs) : SqT K P' a xs := h.imp (fun q => q.imp (s _ _) fun ⟨o, q⟩ => ⟨o, s _ _ q⟩) fun q => q
mutual
theorem Rep.up (r : ∀ n a, ρ n = some a → ρ' n = some a) (s : ∀ a o, P a = some o → P' a = some o) : ∀ {d : D} {v : V}, Rep K ρ P d v → Rep K ρ' P' d v
  | _, _, .non => .non
  | _, _, .bl b => .bl b
  | _, _, .int i => .int i
  | _, _, .str x => .str x
  | _, _, .glo x => .glo x
  | _, _, .ty n => .ty n
  | _, _, .tup p q => .tup (s _ _ p) (RepL.up r s q)
  | _, _, .lst p q => .lst (s _ _ p) (RepL.up r s q)
  | _, _, .scr p q => .scr (sqL_sub s p) (RepL.up r s q)
  | _, _, .loc e => .loc (r _ _ e)
  | _, _, .obj p e l q => .obj (s _ _ p) e l (RepL.up r s q)
  | _, _, .dic p e l q => .dic (s _ _ p) e l (RepL.up r s q)
  | _, _, .nd p e l k q => .nd (s _ _ p) e l (fun x hx => (k x hx).up s) (RepL.up r s q)
  | _, _, .exv p d e l q => .exv (s _ _ p) (d.up s) e l (RepL.up r s q)
  | _, _, .fn a => .fn a
  | _, _, .dk p => .dk (s _ _ p)
  | _, _, .dv p e l q => .dv (s _ _ p) e l (RepL.up r s q)
theorem RepL.up (r : ∀ n a, ρ n = some a → ρ' n = some a) (s : ∀ a o, P a = some o → P' a = some o) : ∀ {ds : List D} {vs : List V}, RepL K ρ P ds vs → RepL K ρ' P' ds vs
  | _, _, .nil => .nil
  | _, _, .cons a b => .cons (Rep.up r s a) (RepL.up r s b)
end
theorem Rep.step (s : Step ρ P H ρ' P' H') {d : D} {v : V} (h : Rep K ρ P d v) : Rep K ρ' P' d v := h.up s.mono s.pure
theorem RepL.step (s : Step ρ P H ρ' P' H') {d : List D} {v : List V} (h : RepL K ρ P d v) : RepL K ρ' P' d v := h.up s.mono s.pure
theorem RE.step (s : Step ρ P H ρ' P' H') {env : En} {σ : L2.St} (r : RE K ρ P env σ) : RE K ρ' P' env σ := ⟨r.1, fun i d e => let ⟨v, h, q⟩ := r.2 i d e; ⟨v, h, q.step s⟩⟩
theorem RepL.length : ∀ {ds : List D} {vs : List V}, RepL K ρ P ds vs → vs.length = ds.length
  | _, _, .nil => rfl
  | _, _, .cons _ b => by simp [RepL.length b]
theorem RepL.get : ∀ {ds : List D} {vs : List V} {i : Nat} {d : D}, RepL K ρ P ds vs → ds[i]? = some d → ∃ v, vs[i]? = some v ∧ Rep K ρ P d v
  | _, _, _, _, .nil, e => by simp at e
  | _, _, 0, _, .cons a b, e => by simp at e; subst e; exact ⟨_, rfl, a⟩
  | _, _, i + 1, d, .cons a b, e => by
    obtain ⟨v, h1, h2⟩ := RepL.get (i := i) (d := d) b (by simpa using e)
    exact ⟨v, by simpa using h1, h2⟩
theorem RepL.append : ∀ {ds es : List D} {vs ws : List V}, RepL K ρ P ds vs → RepL K ρ P es ws → RepL K ρ P (ds ++ es) (vs ++ ws)
  | _, _, _, _, .nil, s => s
  | _, _, _, _, .cons a b, s => .cons a (RepL.append b s)
theorem RepL.set {d : D} {v : V} (r : Rep K ρ P d v) : ∀ {ds : List D} {vs : List V} (i : Nat), RepL K ρ P ds vs → RepL K ρ P (ds.set i d) (vs.set i v)
  | _, _, _, .nil => .nil
  | _, _, 0, .cons _ t => .cons r t
  | _, _, i + 1, .cons q t => .cons q (RepL.set r i t)
theorem RepL.take : ∀ {ds : List D} {vs : List V} (n : Nat), RepL K ρ P ds vs → RepL K ρ P (ds.take n) (vs.take n)
  | _, _, 0, _ => .nil
  | _, _, _ + 1, .nil => .nil
  | _, _, n + 1, .cons r t => .cons r (RepL.take n t)
theorem RepL.drop : ∀ {ds : List D} {vs : List V} (n : Nat), RepL K ρ P ds vs → RepL K ρ P (ds.drop n) (vs.drop n)
  | _, _, 0, r => r
  | _, _, _ + 1, .nil => .nil
  | _, _, n + 1, .cons _ t => RepL.drop n t
theorem RepL.eraseIdx : ∀ {ds : List D} {vs : List V} (i : Nat), RepL K ρ P ds vs → RepL K ρ P (ds.eraseIdx i) (vs.eraseIdx i)
  | _, _, _, .nil => .nil
  | _, _, 0, .cons _ t => t
  | _, _, i + 1, .cons q t => .cons q (RepL.eraseIdx i t)
theorem RepL.reverse {ds : List D} {vs : List V} (h : RepL K ρ P ds vs) : RepL K ρ P ds.reverse vs.reverse := by
  induction ds generalizing vs with
  | nil => cases h; exact .nil
  | cons d ds ih =>
    cases h with
    | cons a b =>
      rw [List.reverse_cons, List.reverse_cons]
      exact (ih b).append (.cons a .nil)
theorem RepL.ints {ρ : Ro} {P : Hp} : ∀ ns : List Int, RepL K ρ P (ns.map D.int) (ns.map V.int)
  | [] => .nil
  | n :: ns => .cons (.int n) (RepL.ints ns)
theorem RepL.bls_iff : ∀ {bs : List Bool} {vs : List V}, RepL K ρ P (bs.map D.bl) vs → vs = bs.map V.bl
  | [], _, .nil => rfl
  | b :: bs, _, .cons (.bl _) r => by rw [RepL.bls_iff r]; rfl
/-! ### results -/
/-- how a value stands -/
abbrev Rl (α β : Type) := Ro → Hp → α → β → Prop
abbrev RV (K : PySem.W.Frag) : Rl D V := fun ρ P d v => Rep K ρ P d v
abbrev RVs (K : PySem.W.Frag) : Rl (List D) (List V) := fun ρ P d v => RepL K ρ P d v
abbrev RQ (α : Type) : Rl α α := fun _ _ a b => a = b
/-- an exception's dict -/
def RX (K : PySem.W.Frag) (ρ : Ro) (P : Hp) (fs : List (Str × D)) (dd : Option Addr) : Prop :=
  (fs = [] ∧ dd = none) ∨ ∃ da fvs, dd = some da ∧ P da = some (.xd fvs) ∧ fvs.map (·.1) = fs.map (·.1) ∧ RepL K ρ P (fs.map (·.2)) (fvs.map (·.2))
/-- what is wanted behind -/
def Post {α β : Type} (K : PySem.W.Frag) (L : Rl α β) (E : XK) (ρ : Ro) (P H : Hp) (Q : β → Hp → Prop) : R α → Prop
  | .ok a h' => ∀ ρ' P' H' v, Step ρ P H ρ' P' H' → SR K ρ' P' H' h' → L ρ' P' a v → Q v H'
  | .exc x fs h' => ∀ ρ' P' H' dd, Step ρ P H ρ' P' H' → SR K ρ' P' H' h' → RX K ρ' P' fs dd → E (.ref (He.ga K x)) dd H'
  | .bad => False
theorem Post.mono {α β : Type} {L : Rl α β} {E : XK} {Q : β → Hp → Prop} {r : R α} (p : Post K L E ρ P H Q r) (s : Step ρ P H ρ1 P1 H1) : Post K L E ρ1 P1 H1 Q r := by
  cases r with
  | ok a h => exact fun ρ' P' H' v t q1 q2 => p ρ' P' H' v (s.trans t) q1 q2
  | exc x fs h => exact fun ρ' P' H' dd t q1 q2 => p ρ' P' H' dd (s.trans t) q1 q2
  | bad => exact p
theorem Post.imp {α β : Type} {L : Rl α β} {E : XK} {Q Q' : β → Hp → Prop} {r : R α} (p : Post K L E ρ P H Q r) (h : ∀ v H', Q v H' → Q' v H') : Post K L E ρ P H Q' r := by
  cases r with
  | ok a h' => exact fun ρ' P' H' v t q1 q2 => h _ _ (p ρ' P' H' v t q1 q2)
  | exc x fs h => exact p
  | bad => exact p
/-- a reading does what the computation says -/
def Sd {α β : Type} (K : PySem.W.Frag) (L : Rl α β) (E : XK) (t : L2.St → Hp → (β → Hp → Prop) → Prop) (m : M α) : Prop :=
  ∀ ρ P σ H env h, SR K ρ P H h → RE K ρ P env σ → ∀ Q, Post K L E ρ P H Q (m env h) → t σ H Q
/-- one behind another -/
theorem Post.bind {α β γ δ : Type} {L : Rl α β} {L' : Rl γ δ} {E : XK} {Q : δ → Hp → Prop} {r : R α} {k : α → AH → R γ}
    (p : Post K L' E ρ P H Q (r.bind k)) {Q' : β → Hp → Prop} (h : ∀ a h' ρ' P' H' v, Step ρ P H ρ' P' H' → SR K ρ' P' H' h' → L ρ' P' a v → Post K L' E ρ' P' H' Q (k a h') → Q' v H') : Post K L E ρ P H Q' r := by
  cases r with
  | ok a h' => exact fun ρ' P' H' v t q1 q2 => h a h' ρ' P' H' v t q1 q2 (Post.mono (r := k a h') p t)
  | exc x fs h => exact p
  | bad => exact p
/-! ### new things -/
theorem SR.here {h : AH} (s : SR K ρ P H h) {n : Nat} {a : Addr} (e : ρ n = some a) : ∃ o, h[n]? = some o ∧ RO K ρ P H a o := by
  cases q : h[n]? with
  | none =>
    have := s.dom n (by simpa using q)
    rw [this] at e; cases e
  | some o =>
    obtain ⟨b, e1, r⟩ := s.obj n o q
    rw [e] at e1; cases e1
    exact ⟨o, rfl, r⟩
theorem RO.there {a : Addr} {o : AO} (r : RO K ρ P H a o) : H a ≠ none := by
  cases o with
  | lst ds => obtain ⟨vs, e, _⟩ := r; rw [e]; simp
  | dct ds => obtain ⟨vs, e, _⟩ := r; rw [e]; simp
  | ins c fs => obtain ⟨dx, vs, e, _⟩ := r; rw [e]; simp
  | ndt kvs => obtain ⟨xs, e, _⟩ := r; rw [e]; simp
theorem RO.own {a : Addr} {o : AO} (r : RO K ρ P H a o) : ∃ u, H a = some u ∧ noTup u = true := by
  cases o with
  | lst ds => obtain ⟨vs, e, _⟩ := r; exact ⟨_, e, rfl⟩
  | dct ds => obtain ⟨vs, e, _⟩ := r; exact ⟨_, e, rfl⟩
  | ins c fs => obtain ⟨dx, vs, e, _⟩ := r; exact ⟨_, e, rfl⟩
  | ndt kvs => obtain ⟨xs, e, _⟩ := r; exact ⟨_, e, rfl⟩
theorem RO.noC {a : Addr} {o : AO} (r : RO K ρ P H a o) : ∀ u, H a = some u → noC u := fun u e => by
  cases o with
  | lst ds => obtain ⟨vs, e1, _⟩ := r; rw [e] at e1; cases e1; exact noC_of rfl
  | dct ds => obtain ⟨vs, e1, _⟩ := r; rw [e] at e1; cases e1; exact noC_of rfl
  | ins c fs => obtain ⟨dx, vs, e1, _⟩ := r; rw [e] at e1; cases e1; exact noC_of rfl
  | ndt kvs => obtain ⟨xs, e1, _⟩ := r; rw [e] at e1; cases e1; exact noC_nd
theorem SR.noR {h : AH} (s : SR K ρ P H h) {p : Addr} (hp : H p = none) : NoR ρ p := fun n e => by
  obtain ⟨o, _, r⟩ := s.here e
  exact r.there hp
/-- what is locked stays so -/
def Frz (H H' : Hp) : Prop := ∀ a r u, H a = some (.frz r u) → H' a = some (.frz r u)
theorem Frz.refl (H : Hp) : Frz H H := fun _ _ _ e => e
theorem Frz.trans {H H1 H' : Hp} (a : Frz H H1) (b : Frz H1 H') : Frz H H' := fun x r u e => b x r u (a x r u e)
theorem Step.frz {h : AH} (t : Step ρ P H ρ' P' H') (s : SR K ρ P H h) : Frz H H' := fun a r u e => t.keep a _ e (fun n en => by
  obtain ⟨o, _, q⟩ := s.here en
  cases o with
  | lst ds => obtain ⟨vs, e1, _⟩ := q; rw [e] at e1; cases e1
  | dct ds => obtain ⟨vs, e1, _⟩ := q; rw [e] at e1; cases e1
  | ins c fs => obtain ⟨dx, vs, e1, _⟩ := q; rw [e] at e1; cases e1
  | ndt kvs => obtain ⟨xs, e1, _⟩ := q; rw [e] at e1; cases e1) ⟨rfl, .inr rfl⟩
theorem SR.noP {h : AH} (s : SR K ρ P H h) {p : Addr} (hp : H p = none) : P p = none := by
  cases q : P p with
  | none => rfl
  | some o =>
    cases z : nD o with
    | true => rw [s.sub p o q z] at hp; cases hp
    | false =>
      cases o with
      | dT kws => rcases s.subD p kws q with e | ⟨o, e⟩ <;> rw [e] at hp <;> cases hp
      | _ => cases z
theorem RO.up {a : Addr} {o : AO} (r : ∀ n a, ρ n = some a → ρ' n = some a) (s : ∀ a o, P a = some o → P' a = some o) (k : ∀ o, H a = some o → H' a = some o) (x : RO K ρ P H a o) : RO K ρ' P' H' a o := by
  cases o with
  | lst ds => obtain ⟨vs, e, q⟩ := x; exact ⟨vs, k _ e, q.up r s⟩
  | dct ds => obtain ⟨vs, e, e2, q⟩ := x; exact ⟨vs, k _ e, e2, q.up r s⟩
  | ins c fs => obtain ⟨dx, vs, e, e2, q⟩ := x; exact ⟨dx, vs, k _ e, e2, q.up r s⟩
  | ndt kvs => obtain ⟨xs, e, e2, w, q⟩ := x; exact ⟨xs, k _ e, e2, fun y hy => (w y hy).up s, q.up r s⟩
theorem rd_keep {a : Addr} {u : HO} (k : ∀ o, H a = some o → H' a = some o) (x : Rd H a u) : Rd H' a u := x.imp (k _) fun ⟨o, e⟩ => ⟨o, k _ e⟩
theorem upd_keep {p : Addr} {o : HO} (hp : H p = none) : ∀ a u, H a = some u → upd H p o a = some u := fun a u e => by rw [upd_ne (ne_of_none e hp)]; exact e
/-- a new thing that never changes -/
theorem SR.pure {h : AH} (s : SR K ρ P H h) {p : Addr} (hp : H p = none) (o : HO) (ho : nT o = true := by rfl) : SR K ρ (upd P p o) (upd H p o) h ∧ Step ρ P H ρ (upd P p o) (upd H p o) := by
  have np := s.noP hp
  have nr := s.noR hp
  refine ⟨⟨fun a u e n => ?_, fun a u e => ?_, fun n a e => ?_, s.inj, fun n u e => ?_, s.dom, (s.tabs.new (o := o) K hp ho).updP K ho⟩, ⟨fun _ _ e => e, upd_keep np, fun n a e e' => (by rw [e] at e'; cases e'), fun a e ha => ?_, fun a u e _ _ => upd_keep hp a u e, fun a e => ?_⟩⟩
  · by_cases z : a = p
    · subst z; rw [upd_same] at e ⊢; exact e
    · rw [upd_ne z] at e ⊢; exact s.sub a u e n
  · by_cases z : a = p
    · subst z; rw [upd_same] at e; cases e; exact .inl upd_same
    · rw [upd_ne z] at e; exact rd_keep (fun o e => by rw [upd_ne z]; exact e) (s.subD a u e)
  · have z : a ≠ p := fun z => nr n (z ▸ e)
    rw [upd_ne z]; exact s.apart n a e
  · obtain ⟨a, e1, r⟩ := s.obj n u e
    exact ⟨a, e1, r.up (fun _ _ e => e) (upd_keep np) (upd_keep hp a)⟩
  · have z : a ≠ p := fun z => by
      subst z
      rcases ha with ⟨n, e1⟩ | ⟨u, e1, _⟩
      · exact nr n e1
      · rw [hp] at e1; cases e1
    rw [upd_ne z]; exact e
  · cases w : H a with
    | none => exact absurd w e
    | some u => rw [upd_keep hp a u w]; simp
/-- a new thing of no one's (yet) -/
theorem SR.own {h : AH} (s : SR K ρ P H h) {p : Addr} (hp : H p = none) (o : HO) (ho : nT o = true := by rfl) : SR K ρ P (upd H p o) h ∧ Step ρ P H ρ P (upd H p o) := by
  refine ⟨⟨fun a u e n => upd_keep hp a u (s.sub a u e n), fun a u e => rd_keep (upd_keep hp a) (s.subD a u e), s.apart, s.inj, fun n u e => ?_, s.dom, s.tabs.new K hp ho⟩, ⟨fun _ _ e => e, fun _ _ e => e, fun n a e e' => (by rw [e] at e'; cases e'), fun _ e _ => e, fun a u e _ _ => upd_keep hp a u e, fun a e => ?_⟩⟩
  · obtain ⟨a, e1, r⟩ := s.obj n u e
    exact ⟨a, e1, r.up (fun _ _ e => e) (fun _ _ e => e) (upd_keep hp a)⟩
  · cases w : H a with
    | none => exact absurd w e
    | some u => rw [upd_keep hp a u w]; simp
/-- a thing of no one's changes -/
theorem SR.loose {h : AH} (s : SR K ρ P H h) {p : Addr} {o : HO} (np : P p = none) (nr : NoR ρ p) (hc : ∀ u, H p = some u → noC u) (ho : nT o = true := by rfl) : SR K ρ P (upd H p o) h := by
  refine ⟨fun a u e n => ?_, fun a u e => ?_, s.apart, s.inj, fun n u e => ?_, s.dom, s.tabs.upd K hc ho⟩
  · have z : a ≠ p := fun z => by rw [z, np] at e; cases e
    rw [upd_ne z]; exact s.sub a u e n
  · have z : a ≠ p := fun z => by rw [z, np] at e; cases e
    exact rd_keep (fun o e => by rw [upd_ne z]; exact e) (s.subD a u e)
  · obtain ⟨a, e1, r⟩ := s.obj n u e
    have z : a ≠ p := fun z => nr n (z ▸ e1)
    exact ⟨a, e1, r.up (fun _ _ e => e) (fun _ _ e => e) fun o e => by rw [upd_ne z]; exact e⟩
/-- a thing of no one's gets a number -/
theorem SR.number {h : AH} (s : SR K ρ P H h) {p : Addr} {o : AO} (np : P p = none) (nr : NoR ρ p) (r : RO K ρ P H p o) : SR K (fun n => if n = h.length then some p else ρ n) P H (h ++ [o]) := by
  have up : ∀ n a, ρ n = some a → (fun n => if n = h.length then some p else ρ n) n = some a := fun n a e => by
    have z : n ≠ h.length := fun z => by rw [z, s.dom _ (Nat.le_refl _)] at e; cases e
    show (if n = h.length then some p else ρ n) = some a
    rw [if_neg z]; exact e
  refine ⟨s.sub, s.subD, fun n a e => ?_, fun n m a e e' => ?_, fun n u e => ?_, fun n hn => ?_, s.tabs⟩
  · have e : (if n = h.length then some p else ρ n) = some a := e
    split at e
    · cases e; exact np
    · exact s.apart n a e
  · have e : (if n = h.length then some p else ρ n) = some a := e
    have e' : (if m = h.length then some p else ρ m) = some a := e'
    split at e <;> split at e'
    · omega
    · cases e; exact absurd e' (nr m)
    · cases e'; exact absurd e (nr n)
    · exact s.inj n m a e e'
  · by_cases z : n < h.length
    · rw [List.getElem?_append_left z] at e
      obtain ⟨a, e1, q⟩ := s.obj n u e
      exact ⟨a, up n a e1, q.up up (fun _ _ e => e) fun _ e => e⟩
    · have z2 : n = h.length := by
        have := (List.getElem?_eq_some_iff.mp e).1
        simp at this; omega
      subst z2
      rw [List.getElem?_append_right (Nat.le_refl _)] at e
      simp at e
      subst e
      exact ⟨p, by simp, r.up up (fun _ _ e => e) fun _ e => e⟩
  · have z : h.length + 1 ≤ n := by simpa using hn
    show (if n = h.length then some p else ρ n) = none
    rw [if_neg (by omega)]
    exact s.dom n (by omega)
/-- a numbered thing changes -/
theorem SR.put {h : AH} (s : SR K ρ P H h) {n : Nat} {p : Addr} {o : AO} {u : HO} (e : ρ n = some p) (r : RO K ρ P (upd H p u) p o) : SR K ρ P (upd H p u) (h.set n o) ∧ Step ρ P H ρ P (upd H p u) := by
  have np := s.apart n p e
  obtain ⟨o0, e0, r0⟩ := s.here e
  refine ⟨⟨fun a v ea nd => ?_, fun a v ea => ?_, s.apart, s.inj, fun m v ev => ?_, fun m hm => s.dom m (by simpa using hm), s.tabs.upd K r0.noC (noC_nT (r.noC u upd_same))⟩, ⟨fun _ _ e => e, fun _ _ e => e, fun n a e e' => (by rw [e] at e'; cases e'), fun _ e _ => e, fun a v ea hn _ => ?_, fun a ea => ?_⟩⟩
  · have z : a ≠ p := fun z => by rw [z, np] at ea; cases ea
    rw [upd_ne z]; exact s.sub a v ea nd
  · have z : a ≠ p := fun z => by rw [z, np] at ea; cases ea
    exact rd_keep (fun o e => by rw [upd_ne z]; exact e) (s.subD a v ea)
  · by_cases z : m = n
    · subst z
      have hl := (List.getElem?_eq_some_iff.mp e0).1
      rw [List.getElem?_set_self hl] at ev
      cases ev
      exact ⟨p, e, r⟩
    · rw [List.getElem?_set_ne (Ne.symm z)] at ev
      obtain ⟨a, e1, q⟩ := s.obj m v ev
      have za : a ≠ p := fun w => z (s.inj _ _ _ e1 (w ▸ e))
      exact ⟨a, e1, q.up (fun _ _ e => e) (fun _ _ e => e) fun o e => by rw [upd_ne za]; exact e⟩
  · have z : a ≠ p := fun z => hn n (z ▸ e)
    rw [upd_ne z]; exact ea
  · by_cases z : a = p
    · rw [z, upd_same]; simp
    · rw [upd_ne z]; exact ea
/-- a tuple that stands is counted among what never changes -/
theorem SR.adopt {h : AH} (s : SR K ρ P H h) {q : Addr} {xs : List V} (e : H q = some (.tup xs)) : ∃ P2, Step ρ P H ρ P2 H ∧ SR K ρ P2 H h ∧ P2 q = some (.tup xs) := by
  cases z : P q with
  | some o =>
    have : o = .tup xs := by
      cases w : nD o with
      | true => have := s.sub q o z w; rw [e] at this; cases this; rfl
      | false =>
        cases o with
        | dT kws => rcases s.subD q kws z with x | ⟨r, x⟩ <;> rw [e] at x <;> cases x
        | _ => cases w
    subst this
    exact ⟨P, Step.refl .., s, z⟩
  | none =>
    have nr : NoR ρ q := fun n en => by
      obtain ⟨o, _, r⟩ := s.here en
      cases o with
      | lst ds => obtain ⟨vs, e1, _⟩ := r; rw [e] at e1; cases e1
      | dct ds => obtain ⟨vs, e1, _⟩ := r; rw [e] at e1; cases e1
      | ins c fs => obtain ⟨dx, vs, e1, _⟩ := r; rw [e] at e1; cases e1
      | ndt kvs => obtain ⟨xs, e1, _⟩ := r; rw [e] at e1; cases e1
    have kp : ∀ a o, P a = some o → upd P q (.tup xs) a = some o := upd_keep z
    refine ⟨upd P q (.tup xs), ⟨fun _ _ e => e, kp, fun n a e e' => (by rw [e] at e'; cases e'), fun a e1 ha => ?_, fun _ _ e _ _ => e, fun _ e => e⟩, ⟨fun a o ea nd => ?_, fun a kws ea => ?_, fun n a en => ?_, s.inj, fun n o en => ?_, s.dom, s.tabs.updP K rfl⟩, upd_same⟩
    · have ne : a ≠ q := fun w => by
        subst w
        rcases ha with ⟨n, e2⟩ | ⟨u, e2, e3⟩
        · exact nr n e2
        · rw [e] at e2; cases e2; cases e3
      rw [upd_ne ne]; exact e1
    · by_cases w : a = q
      · subst w; rw [upd_same] at ea; cases ea; exact e
      · rw [upd_ne w] at ea; exact s.sub a o ea nd
    · by_cases w : a = q
      · subst w; rw [upd_same] at ea; cases ea
      · rw [upd_ne w] at ea; exact s.subD a kws ea
    · have ne : a ≠ q := fun w => nr n (w ▸ en)
      rw [upd_ne ne]; exact s.apart n a en
    · obtain ⟨a, e1, r⟩ := s.obj n o en
      exact ⟨a, e1, r.up (fun _ _ e => e) kp fun _ e => e⟩
end
end Ab

namespace Ab
open PySem PySem.Spec L2
section
variable {K : PySem.W.Frag} {E : XK} {ρ ρ' ρ1 : Ro} {P H P' H' P1 H1 : Hp}
/-! ### names, constants, operators -/
def mVar (i : Nat) : M D := fun env h => match env[i]? with
  | some (some d) => .ok d h
  | _ => .bad
theorem sd_var {i : Nat} : Sd K (RV K) E (tVar i) (mVar i) := fun ρ P σ H env h s r Q p => by
  unfold mVar at p
  cases q : env[i]? with
  | none => rw [q] at p; exact p.elim
  | some o =>
    cases o with
    | none => rw [q] at p; exact p.elim
    | some d =>
      rw [q] at p
      obtain ⟨v, e, w⟩ := r.2 i d q
      exact ⟨v, e, p ρ P H v (Step.refl ..) s w⟩
def mC (d : D) : M D := fun _ h => .ok d h
theorem sd_c {d : D} {v : V} (w : ∀ ρ P, Rep K ρ P d v) : Sd K (RV K) E (tC v) (mC d) := fun ρ P σ H env h s r Q p => p ρ P H v (Step.refl ..) s (w ρ P)
def OpS (K : PySem.W.Frag) (E : XK) (r : R2) (f : D → D → AH → R D) : Prop := ∀ ρ P H h x y dx dy, SR K ρ P H h → Rep K ρ P dx x → Rep K ρ P dy y → ∀ Q, Post K (RV K) E ρ P H Q (f dx dy h) → r x y H Q
def mBin (f : D → D → AH → R D) (ma mb : M D) : M D := fun env h => (ma env h).bind fun a h1 => (mb env h1).bind fun b h2 => f a b h2
theorem sd_op {r : R2} {f : D → D → AH → R D} {ta tb : TE} {ma mb : M D} (ha : Sd K (RV K) E ta ma) (hb : Sd K (RV K) E tb mb) (hf : OpS K E r f) : Sd K (RV K) E (tOp r ta tb) (mBin f ma mb) := fun ρ P σ H env h s re Q p =>
  ha ρ P σ H env h s re _ (Post.bind p fun a h1 ρ1 P1 H1 v t1 s1 w1 p1 =>
    hb ρ1 P1 σ H1 env h1 s1 (re.step t1) _ (Post.bind p1 fun b h2 ρ2 P2 H2 u t2 s2 w2 p2 => hf ρ2 P2 H2 h2 v u a b s2 (w1.step t2) w2 Q p2))
def UnS (K : PySem.W.Frag) (E : XK) (r : V → Hp → VK → Prop) (f : D → AH → R D) : Prop := ∀ ρ P H h x dx, SR K ρ P H h → Rep K ρ P dx x → ∀ Q, Post K (RV K) E ρ P H Q (f dx h) → r x H Q
def mUn (f : D → AH → R D) (ma : M D) : M D := fun env h => (ma env h).bind fun a h1 => f a h1
/-- what changes nothing -/
theorem Post.here {α β : Type} {L : Rl α β} {a : α} {h : AH} {Q : β → Hp → Prop} {v : β} (p : Post K L E ρ P H Q (.ok a h)) (s : SR K ρ P H h) (w : L ρ P a v) : Q v H := p ρ P H v (Step.refl ..) s w

/-! ### truth, tests -/
def seqD (d : D) (h : AH) : Option (List D) := match d with
  | .lst ds => some ds
  | .scr ds => some ds
  | .loc n => match h[n]? with
    | some (.lst ds) => some ds
    | _ => none
  | _ => none
theorem seqD_sq {h : AH} {d : D} {v : V} {ds : List D} (s : SR K ρ P H h) (w : Rep K ρ P d v) (e : seqD d h = some ds) : ∃ a vs, v = .ref a ∧ SqL K H a vs ∧ RepL K ρ P ds vs := by
  cases w with
  | lst p q => cases e; exact ⟨_, _, rfl, .of (s.sub _ _ p rfl), q⟩
  | scr p q => cases e; exact ⟨_, _, rfl, sqL_s s.sub p, q⟩
  | loc e1 =>
    obtain ⟨o, e2, r⟩ := s.here e1
    simp only [seqD, e2] at e
    cases o with
    | lst es =>
      cases e
      obtain ⟨vs, e3, q⟩ := r
      exact ⟨_, vs, rfl, .of e3, q⟩
    | dct kvs => cases e
    | ins c fs => cases e
    | ndt kvs => cases e
  | _ => cases e
def truD (d : D) (h : AH) : Option Bool := match d with
  | .non => some false
  | .bl b => some b
  | .int i => some (i != 0)
  | .str x => if x.length ≤ sizeLine then some ((x.length : Int) != 0) else none
  | .tup ds => some (!ds.isEmpty)
  | d => (seqD d h).map fun ds => !ds.isEmpty
theorem RepL.isEmpty {ds : List D} {vs : List V} (r : RepL K ρ P ds vs) : ds.isEmpty = vs.isEmpty := by cases r <;> rfl
theorem truD_ok {h : AH} {d : D} {v : V} {b : Bool} (s : SR K ρ P H h) (w : Rep K ρ P d v) (e : truD d h = some b) : TruV K v H b := by
  have sq : ∀ {d : D}, Rep K ρ P d v → (seqD d h).map (fun ds => !ds.isEmpty) = some b → TruV K v H b := fun {d} w e => by
    cases q : seqD d h with
    | none => rw [q] at e; cases e
    | some ds =>
      rw [q] at e
      obtain ⟨a, vs, rfl, sq, r⟩ := seqD_sq s w q
      refine .inl ⟨vs, sq, ?_⟩
      rw [← r.isEmpty]
      exact (Option.some.inj e).symm
  cases w with
  | non => cases e; rfl
  | bl b => cases e; rfl
  | int i => cases e; rfl
  | str x =>
    simp only [truD] at e
    split at e
    · rename_i hl; cases e; exact ⟨hl, rfl⟩
    · cases e
  | glo x => cases e
  | ty n => cases e
  | obj _ _ _ _ => cases e
  | dic _ _ _ _ => cases e
  | nd _ _ _ _ _ => cases e
  | exv _ _ _ _ _ => cases e
  | fn _ => cases e
  | dk _ => cases e
  | dv _ _ _ _ => cases e
  | tup p q =>
    cases e
    exact .inr (.inl ⟨_, sqT_tk s.sub p, by rw [q.isEmpty]⟩)
  | lst p q => exact sq (.lst p q) e
  | scr p q => exact sq (.scr p q) e
  | loc p => exact sq (.loc p) e
def mTru (ma : M D) : M Bool := fun env h => (ma env h).bind fun a h1 => match truD a h1 with
  | some b => .ok b h1
  | none => .bad
theorem sd_tru {ta : TE} {ma : M D} (ha : Sd K (RV K) E ta ma) : Sd K (RQ Bool) E (fun σ H Q => ta σ H fun x H' => ∃ k, TruV K x H' k ∧ Q k H') (mTru ma) := fun ρ P σ H env h s re Q p =>
  ha ρ P σ H env h s re _ (Post.bind p fun a h1 ρ1 P1 H1 v t1 s1 w1 p1 => by
    cases q : truD a h1 with
    | none => rw [q] at p1; exact p1.elim
    | some b =>
      rw [q] at p1
      exact ⟨b, truD_ok s1 w1 q, p1.here s1 rfl⟩)
/-- a comparison as a test: its answer is a truth value -/
def mBl (ma : M D) : M Bool := fun env h => (ma env h).bind fun a h1 => match a with
  | .bl b => .ok b h1
  | _ => .bad
theorem sd_test {ta : TE} {ma : M D} (ha : Sd K (RV K) E ta ma) : Sd K (RQ Bool) E (tTest ta) (mBl ma) := fun ρ P σ H env h s re Q p =>
  ha ρ P σ H env h s re _ (Post.bind p fun a h1 ρ1 P1 H1 v t1 s1 w1 p1 => by
    cases w1 with
    | bl b => exact ⟨b, rfl, p1.here s1 rfl⟩
    | _ => exact p1.elim)
def mNotT (m : M Bool) : M Bool := fun env h => (m env h).bind fun b h1 => .ok (!b) h1
theorem sd_notT {t : TT} {m : M Bool} (ha : Sd K (RQ Bool) E t m) : Sd K (RQ Bool) E (tNot t) (mNotT m) := fun ρ P σ H env h s re Q p =>
  ha ρ P σ H env h s re _ (Post.bind p fun a h1 ρ1 P1 H1 v t1 s1 w1 p1 => by cases w1; exact p1.here s1 rfl)
def mAndT (m n : M Bool) : M Bool := fun env h => (m env h).bind fun b h1 => if b = true then n env h1 else .ok false h1
def mOrT (m n : M Bool) : M Bool := fun env h => (m env h).bind fun b h1 => if b = true then .ok true h1 else n env h1
theorem sd_andT {t u : TT} {m n : M Bool} (ha : Sd K (RQ Bool) E t m) (hb : Sd K (RQ Bool) E u n) : Sd K (RQ Bool) E (tAnd t u) (mAndT m n) := fun ρ P σ H env h s re Q p =>
  ha ρ P σ H env h s re _ (Post.bind p fun a h1 ρ1 P1 H1 v t1 s1 w1 p1 => by
    cases w1
    cases a with
    | true => exact hb _ _ _ _ _ _ s1 (re.step t1) _ p1
    | false => exact Post.here p1 s1 rfl)
theorem sd_orT {t u : TT} {m n : M Bool} (ha : Sd K (RQ Bool) E t m) (hb : Sd K (RQ Bool) E u n) : Sd K (RQ Bool) E (tOr t u) (mOrT m n) := fun ρ P σ H env h s re Q p =>
  ha ρ P σ H env h s re _ (Post.bind p fun a h1 ρ1 P1 H1 v t1 s1 w1 p1 => by
    cases w1
    cases a with
    | false => exact hb _ _ _ _ _ _ s1 (re.step t1) _ p1
    | true => exact Post.here p1 s1 rfl)
theorem sd_yes : Sd K (RQ Bool) E tYes (fun _ h => .ok true h) := fun ρ P σ H env h s re Q p => p.here s rfl
/-- x and y, x or y, not x as values -/
def mAnd (ma mb : M D) : M D := fun env h => (ma env h).bind fun a h1 => match truD a h1 with
  | some true => mb env h1
  | some false => .ok a h1
  | none => .bad
def mOr (ma mb : M D) : M D := fun env h => (ma env h).bind fun a h1 => match truD a h1 with
  | some true => .ok a h1
  | some false => mb env h1
  | none => .bad
def mNot (ma : M D) : M D := fun env h => (ma env h).bind fun a h1 => match truD a h1 with
  | some b => .ok (.bl (!b)) h1
  | none => .bad
theorem sd_and {ta tb : TE} {ma mb : M D} (ha : Sd K (RV K) E ta ma) (hb : Sd K (RV K) E tb mb) : Sd K (RV K) E (tAndT K ta tb) (mAnd ma mb) := fun ρ P σ H env h s re Q p =>
  ha ρ P σ H env h s re _ (Post.bind p fun a h1 ρ1 P1 H1 v t1 s1 w1 p1 => by
    cases q : truD a h1 with
    | none => rw [q] at p1; exact p1.elim
    | some b =>
      rw [q] at p1
      refine ⟨b, truD_ok s1 w1 q, ?_⟩
      cases b with
      | true => exact hb _ _ _ _ _ _ s1 (re.step t1) _ p1
      | false => exact Post.here p1 s1 w1)
theorem sd_not {ta : TE} {ma : M D} (ha : Sd K (RV K) E ta ma) : Sd K (RV K) E (tNotT K ta) (mNot ma) := fun ρ P σ H env h s re Q p =>
  ha ρ P σ H env h s re _ (Post.bind p fun a h1 ρ1 P1 H1 v t1 s1 w1 p1 => by
    cases q : truD a h1 with
    | none => rw [q] at p1; exact p1.elim
    | some b =>
      rw [q] at p1
      exact ⟨b, truD_ok s1 w1 q, p1.here s1 (.bl _)⟩)
def mIf (m : M Bool) (ma mb : M D) : M D := fun env h => (m env h).bind fun b h1 => if b = true then ma env h1 else mb env h1
theorem sd_if {t : TT} {ta tb : TE} {m : M Bool} {ma mb : M D} (hc : Sd K (RQ Bool) E t m) (ha : Sd K (RV K) E ta ma) (hb : Sd K (RV K) E tb mb) : Sd K (RV K) E (tIf t ta tb) (mIf m ma mb) := fun ρ P σ H env h s re Q p =>
  hc ρ P σ H env h s re _ (Post.bind p fun a h1 ρ1 P1 H1 v t1 s1 w1 p1 => by
    cases w1
    cases a with
    | true => exact ha _ _ _ _ _ _ s1 (re.step t1) _ p1
    | false => exact hb _ _ _ _ _ _ s1 (re.step t1) _ p1)
/-! ### arguments, tuples, lists -/
def mNil : M (List D) := fun _ h => .ok [] h
def mCons (ma : M D) (mr : M (List D)) : M (List D) := fun env h => (ma env h).bind fun a h1 => (mr env h1).bind fun r h2 => .ok (a :: r) h2
theorem sd_nil : Sd K (RVs K) E tNil mNil := fun ρ P σ H env h s re Q p => p.here s .nil
theorem sd_cons {ta : TE} {tr : TA} {ma : M D} {mr : M (List D)} (ha : Sd K (RV K) E ta ma) (hr : Sd K (RVs K) E tr mr) : Sd K (RVs K) E (tCons ta tr) (mCons ma mr) := fun ρ P σ H env h s re Q p =>
  ha ρ P σ H env h s re _ (Post.bind p fun a h1 ρ1 P1 H1 v t1 s1 w1 p1 =>
    hr _ _ _ _ _ _ s1 (re.step t1) _ (Post.bind p1 fun b h2 ρ2 P2 H2 u t2 s2 w2 p2 => p2.here s2 (.cons (w1.step t2) w2)))
/-- a new tuple -/
theorem Post.newT {h : AH} {ds : List D} {vs : List V} {Q : VK} (p : Post K (RV K) E ρ P H Q (.ok (.tup ds) h)) (s : SR K ρ P H h) (w : RepL K ρ P ds vs) : ∀ q, H q = none → Q (.ref q) (upd H q (.tup vs)) := fun q hq => by
  obtain ⟨s', t⟩ := s.pure hq (.tup vs)
  exact p _ _ _ _ t s' (.tup upd_same (w.step t))
def mTup (m : M (List D)) : M D := fun env h => (m env h).bind fun ds h1 => if ds.length ≤ sizeLine then .ok (.tup ds) h1 else .bad
theorem sd_tup {t : TA} {m : M (List D)} (hr : Sd K (RVs K) E t m) : Sd K (RV K) E (tTup t) (mTup m) := fun ρ P σ H env h s re Q p =>
  hr ρ P σ H env h s re _ (Post.bind p fun a h1 ρ1 P1 H1 v t1 s1 w1 p1 => by
    split at p1
    · rename_i hl
      exact ⟨by rw [w1.length]; exact hl, p1.newT s1 w1⟩
    · exact p1.elim)
/-- a new list, no one's yet -/
def PostF (K : PySem.W.Frag) (E : XK) (ρ : Ro) (P H : Hp) (Q : VK) : R (List D) → Prop
  | .ok ds h' => ∀ ρ' P' H' p vs, Step ρ P H ρ' P' H' → SR K ρ' P' H' h' → H p = none → P' p = none → NoR ρ' p → H' p = some (.lst vs) → RepL K ρ' P' ds vs → Q (.ref p) H'
  | .exc x fs h' => ∀ ρ' P' H' dd, Step ρ P H ρ' P' H' → SR K ρ' P' H' h' → RX K ρ' P' fs dd → E (.ref (He.ga K x)) dd H'
  | .bad => False
def SdF (K : PySem.W.Frag) (E : XK) (t : TE) (m : M (List D)) : Prop := ∀ ρ P σ H env h, SR K ρ P H h → RE K ρ P env σ → ∀ Q, PostF K E ρ P H Q (m env h) → t σ H Q
theorem PostF.mono {Q : VK} {r : R (List D)} (p : PostF K E ρ P H Q r) (s : Step ρ P H ρ1 P1 H1) : PostF K E ρ1 P1 H1 Q r := by
  cases r with
  | ok a h => exact fun ρ' P' H' p' vs t q1 q2 q3 q4 q5 q6 => p ρ' P' H' p' vs (s.trans t) q1 (s.free q2) q3 q4 q5 q6
  | exc x fs h => exact fun ρ' P' H' dd t q1 q2 => p ρ' P' H' dd (s.trans t) q1 q2
  | bad => exact p
theorem PostF.bind {α β : Type} {L : Rl α β} {Q : VK} {r : R α} {k : α → AH → R (List D)}
    (p : PostF K E ρ P H Q (r.bind k)) {Q' : β → Hp → Prop} (h : ∀ a h' ρ' P' H' v, Step ρ P H ρ' P' H' → SR K ρ' P' H' h' → L ρ' P' a v → PostF K E ρ' P' H' Q (k a h') → Q' v H') : Post K L E ρ P H Q' r := by
  cases r with
  | ok a h' => exact fun ρ' P' H' v t q1 q2 => h a h' ρ' P' H' v t q1 q2 (PostF.mono (r := k a h') p t)
  | exc x fs h => exact p
  | bad => exact p
theorem PostF.newL {h : AH} {ds : List D} {vs : List V} {Q : VK} (p : PostF K E ρ P H Q (.ok ds h)) (s : SR K ρ P H h) (w : RepL K ρ P ds vs) : ∀ q, H q = none → Q (.ref q) (upd H q (.lst vs)) := fun q hq => by
  obtain ⟨s', t⟩ := s.own hq (.lst vs)
  exact p _ _ _ _ _ t s' hq (s.noP hq) (s.noR hq) upd_same w
def mFrz (m : M (List D)) : M D := fun env h => (m env h).bind fun ds h1 => .ok (.lst ds) h1
def mOwn (m : M (List D)) : M D := fun env h => (m env h).bind fun ds h1 => .ok (.loc h1.length) (h1 ++ [.lst ds])
theorem sd_frz {t : TE} {m : M (List D)} (hr : SdF K E t m) : Sd K (RV K) E t (mFrz m) := fun ρ P σ H env h s re Q p => by
  refine hr ρ P σ H env h s re Q ?_
  have p : Post K (RV K) E ρ P H Q ((m env h).bind fun ds h1 => .ok (.lst ds) h1) := p
  cases q : m env h with
  | bad => rw [q] at p; exact p
  | exc x fs h => rw [q] at p; exact p
  | ok ds h1 =>
    rw [q] at p
    refine fun ρ' P' H' a vs t s1 hp np nr e w => ?_
    have kp : ∀ b o, P' b = some o → upd P' a (.lst vs) b = some o := upd_keep np
    refine p ρ' (upd P' a (.lst vs)) H' _ ⟨t.mono, fun b o eb => kp b o (t.pure b o eb), t.newr, fun b eb hb => ?_, t.keep, t.there⟩ ⟨fun b o eb nd => ?_, fun b o eb => ?_, fun n b eb => ?_, s1.inj, fun n o eo => ?_, s1.dom, s1.tabs.updP K rfl⟩ (.lst upd_same (w.up (fun _ _ e => e) kp))
    · have z : b ≠ a := fun z => by
        subst z
        rcases hb with ⟨n, e1⟩ | ⟨u, e1, _⟩
        · exact nr n (t.mono n b e1)
        · rw [hp] at e1; cases e1
      rw [upd_ne z]; exact t.newp b eb hb
    · by_cases z : b = a
      · subst z; rw [upd_same] at eb; cases eb; exact e
      · rw [upd_ne z] at eb; exact s1.sub b o eb nd
    · by_cases z : b = a
      · subst z; rw [upd_same] at eb; cases eb
      · rw [upd_ne z] at eb; exact s1.subD b o eb
    · have z : b ≠ a := fun z => nr n (z ▸ eb)
      rw [upd_ne z]; exact s1.apart n b eb
    · obtain ⟨b, e1, r⟩ := s1.obj n o eo
      exact ⟨b, e1, r.up (fun _ _ e => e) kp fun _ e => e⟩
theorem sd_own {t : TE} {m : M (List D)} (hr : SdF K E t m) : Sd K (RV K) E t (mOwn m) := fun ρ P σ H env h s re Q p => by
  refine hr ρ P σ H env h s re Q ?_
  have p : Post K (RV K) E ρ P H Q ((m env h).bind fun ds h1 => .ok (.loc h1.length) (h1 ++ [.lst ds])) := p
  cases q : m env h with
  | bad => rw [q] at p; exact p
  | exc x fs h => rw [q] at p; exact p
  | ok ds h1 =>
    rw [q] at p
    refine fun ρ' P' H' a vs t s1 hp np nr e w => ?_
    refine p (fun n => if n = h1.length then some a else ρ' n) P' H' _ ⟨fun n b eb => ?_, t.pure, fun n b e0 eb => ?_, t.newp, t.keep, t.there⟩ (s1.number np nr ⟨vs, e, w⟩) (.loc (by simp))
    · have eb := t.mono n b eb
      have z : n ≠ h1.length := fun z => by rw [z, s1.dom _ (Nat.le_refl _)] at eb; cases eb
      show (if n = h1.length then some a else ρ' n) = some b
      rw [if_neg z]; exact eb
    · have eb : (if n = h1.length then some a else ρ' n) = some b := eb
      split at eb
      · cases eb; exact hp
      · exact t.newr n b e0 eb
def mLst (m : M (List D)) : M (List D) := fun env h => (m env h).bind fun ds h1 => if ds.length ≤ sizeLine then .ok ds h1 else .bad
theorem sf_lst {t : TA} {m : M (List D)} (hr : Sd K (RVs K) E t m) : SdF K E (tLst t) (mLst m) := fun ρ P σ H env h s re Q p =>
  hr ρ P σ H env h s re _ (PostF.bind p fun a h1 ρ1 P1 H1 v t1 s1 w1 p1 => by
    split at p1
    · rename_i hl
      exact ⟨by rw [w1.length]; exact hl, p1.newL s1 w1⟩
    · exact p1.elim)
end
end Ab

namespace Ab
open PySem PySem.Spec L2
/-- how a statement ends -/
inductive SS where
  | nx (env : En) (h : AH)
  | rt (d : D) (h : AH)
  | bk (env : En) (h : AH)
  | ct (env : En) (h : AH)
  | exc (x : Str) (fs : List (Str × D)) (h : AH)
  | bad
abbrev MS := En → AH → SS
def R.then {α : Type} (r : R α) (k : α → AH → SS) : SS := match r with
  | .ok a h => k a h
  | .exc x fs h => .exc x fs h
  | .bad => .bad
section
variable {K : PySem.W.Frag} {E : XK} {ρ ρ' ρ1 : Ro} {P H P' H' P1 H1 : Hp}
def PostS (K : PySem.W.Frag) (E : XK) (ρ : Ro) (P H : Hp) (D : Ends) : SS → Prop
  | .nx env h' => ∀ ρ' P' H' σ', Step ρ P H ρ' P' H' → SR K ρ' P' H' h' → RE K ρ' P' env σ' → D.nx σ' H'
  | .rt d h' => ∀ ρ' P' H' v, Step ρ P H ρ' P' H' → SR K ρ' P' H' h' → Rep K ρ' P' d v → D.rt v H'
  | .bk env h' => ∀ ρ' P' H' σ', Step ρ P H ρ' P' H' → SR K ρ' P' H' h' → RE K ρ' P' env σ' → D.bk σ' H'
  | .ct env h' => ∀ ρ' P' H' σ', Step ρ P H ρ' P' H' → SR K ρ' P' H' h' → RE K ρ' P' env σ' → D.ct σ' H'
  | .exc x fs h' => ∀ ρ' P' H' dd, Step ρ P H ρ' P' H' → SR K ρ' P' H' h' → RX K ρ' P' fs dd → E (.ref (He.ga K x)) dd H'
  | .bad => False
theorem PostS.mono {D : Ends} {r : SS} (p : PostS K E ρ P H D r) (s : Step ρ P H ρ1 P1 H1) : PostS K E ρ1 P1 H1 D r := by
  cases r with
  | nx env h => exact fun ρ' P' H' v t q1 q2 => p ρ' P' H' v (s.trans t) q1 q2
  | rt d h => exact fun ρ' P' H' v t q1 q2 => p ρ' P' H' v (s.trans t) q1 q2
  | bk env h => exact fun ρ' P' H' v t q1 q2 => p ρ' P' H' v (s.trans t) q1 q2
  | ct env h => exact fun ρ' P' H' v t q1 q2 => p ρ' P' H' v (s.trans t) q1 q2
  | exc x fs h => exact fun ρ' P' H' dd t q1 q2 => p ρ' P' H' dd (s.trans t) q1 q2
  | bad => exact p
def SdS (K : PySem.W.Frag) (E : XK) (t : TS) (m : MS) : Prop := ∀ ρ P σ H env h, SR K ρ P H h → RE K ρ P env σ → ∀ D, PostS K E ρ P H D (m env h) → t D σ H
theorem PostS.bind {α β : Type} {L : Rl α β} {D : Ends} {r : R α} {k : α → AH → SS}
    (p : PostS K E ρ P H D (r.then k)) {Q' : β → Hp → Prop} (h : ∀ a h' ρ' P' H' v, Step ρ P H ρ' P' H' → SR K ρ' P' H' h' → L ρ' P' a v → PostS K E ρ' P' H' D (k a h') → Q' v H') : Post K L E ρ P H Q' r := by
  cases r with
  | ok a h' => exact fun ρ' P' H' v t q1 q2 => h a h' ρ' P' H' v t q1 q2 (PostS.mono (r := k a h') p t)
  | exc x fs h => exact p
  | bad => exact p
theorem PostS.next {D : Ends} {env : En} {h : AH} {σ : L2.St} (p : PostS K E ρ P H D (.nx env h)) (s : SR K ρ P H h) (r : RE K ρ P env σ) : D.nx σ H := p ρ P H σ (Step.refl ..) s r
theorem RE.set {env : En} {σ : L2.St} (r : RE K ρ P env σ) {d : D} {v : V} (w : Rep K ρ P d v) (i : Nat) : RE K ρ P (env.set i (some d)) (σ.set i (some v)) := by
  refine ⟨by simp [r.1], fun j e he => ?_⟩
  by_cases z : i = j
  · subst z
    by_cases hl : i < env.length
    · rw [List.getElem?_set_self hl] at he
      cases he
      exact ⟨v, List.getElem?_set_self (by rw [← r.1]; exact hl), w⟩
    · rw [List.getElem?_eq_none (by simpa using hl)] at he; cases he
  · rw [List.getElem?_set_ne z] at he ⊢
    exact r.2 j e he
/-! ### small statements -/
def mNext : MS := fun env h => .nx env h
theorem ss_next : SdS K E tNext mNext := fun ρ P σ H env h s r D p => p.next s r
def mSeq (m n : MS) : MS := fun env h => match m env h with
  | .nx env' h' => n env' h'
  | r => r
theorem ss_seq {t u : TS} {m n : MS} (ha : SdS K E t m) (hb : SdS K E u n) : SdS K E (tSeq t u) (mSeq m n) := fun ρ P σ H env h s re D p => by
  refine ha ρ P σ H env h s re _ ?_
  have p : PostS K E ρ P H D (match m env h with
    | .nx env' h' => n env' h'
    | r => r) := p
  cases q : m env h with
  | nx env' h' =>
    rw [q] at p
    exact fun ρ' P' H' σ' t s' r' => hb _ _ _ _ _ _ s' r' D (PostS.mono (r := n env' h') p t)
  | rt d h' => rw [q] at p; exact p
  | bk env h => rw [q] at p; exact p
  | ct env h => rw [q] at p; exact p
  | exc x fs h => rw [q] at p; exact p
  | bad => rw [q] at p; exact p
def mDrop (m : M D) : MS := fun env h => (m env h).then fun _ h1 => .nx env h1
def mRet (m : M D) : MS := fun env h => (m env h).then fun d h1 => .rt d h1
theorem ss_ret {t : TE} {m : M D} (ha : Sd K (RV K) E t m) : SdS K E (tRet t) (mRet m) := fun ρ P σ H env h s re D p =>
  ha ρ P σ H env h s re _ (PostS.bind p fun a h1 ρ1 P1 H1 v t1 s1 w1 p1 => p1 ρ1 P1 H1 v (Step.refl ..) s1 w1)
def mIfS (m : M Bool) (a b : MS) : MS := fun env h => (m env h).then fun c h1 => if c = true then a env h1 else b env h1
theorem ss_if {t : TT} {ta tb : TS} {m : M Bool} {ma mb : MS} (hc : Sd K (RQ Bool) E t m) (ha : SdS K E ta ma) (hb : SdS K E tb mb) : SdS K E (tIfS t ta tb) (mIfS m ma mb) := fun ρ P σ H env h s re D p =>
  hc ρ P σ H env h s re _ (PostS.bind p fun a h1 ρ1 P1 H1 v t1 s1 w1 p1 => by
    cases w1
    cases a with
    | true => exact ha _ _ _ _ _ _ s1 (re.step t1) _ p1
    | false => exact hb _ _ _ _ _ _ s1 (re.step t1) _ p1)
/-- a statement that is never reached -/
theorem ss_never : SdS K E tNever (fun _ _ => .bad) := fun ρ P σ H env h s re D p => p
/-! ### targets -/
/-- what stands behind a target's store -/
abbrev MG := D → En → AH → R En
def SdG (K : PySem.W.Frag) (E : XK) (g : TG) (m : MG) : Prop := ∀ ρ P σ H env h d v, SR K ρ P H h → RE K ρ P env σ → Rep K ρ P d v → ∀ Q : L2.St → Hp → Prop, Post K (RE K) E ρ P H Q (m d env h) → g v σ H Q
def SdGs (K : PySem.W.Frag) (E : XK) (g : TGs) (m : List D → En → AH → R En) : Prop := ∀ ρ P σ H env h d v, SR K ρ P H h → RE K ρ P env σ → RepL K ρ P d v → ∀ Q : L2.St → Hp → Prop, Post K (RE K) E ρ P H Q (m d env h) → g v σ H Q
def mgName (i : Nat) : MG := fun d env h => .ok (env.set i (some d)) h
theorem sg_name {i : Nat} : SdG K E (gName i) (mgName i) := fun ρ P σ H env h d v s re w Q p => Post.here (L := RE K) p s (re.set w i)
def mgNil : List D → En → AH → R En := fun ds env h => match ds with
  | [] => .ok env h
  | _ => .bad
def mgCons (m : MG) (r : List D → En → AH → R En) : List D → En → AH → R En := fun ds env h => match ds with
  | d :: ds => (m d env h).bind fun env' h' => r ds env' h'
  | [] => .bad
theorem sg_nil : SdGs K E gNil mgNil := fun ρ P σ H env h d v s re w Q p => by
  cases w with
  | nil => exact ⟨rfl, Post.here (L := RE K) p s re⟩
  | cons a b => exact p.elim
theorem sg_cons {g : TG} {gs : TGs} {m : MG} {r : List D → En → AH → R En} (ha : SdG K E g m) (hb : SdGs K E gs r) : SdGs K E (gCons g gs) (mgCons m r) := fun ρ P σ H env h d v s re w Q p => by
  cases w with
  | nil => exact p.elim
  | cons a b => exact ⟨_, _, rfl, ha ρ P σ H env h _ _ s re a _ (Post.bind p fun env1 h1 ρ1 P1 H1 σ1 t1 s1 r1 p1 => hb _ _ _ _ _ _ _ _ s1 r1 (b.step t1) Q p1)⟩
def mgTup (n : Nat) (m : List D → En → AH → R En) : MG := fun d env h => match d with
  | .tup ds => if ds.length = n then m ds env h else .bad
  | _ => .bad
def mAsg (m : M D) (g : MG) : MS := fun env h => (m env h).then fun d h1 => (g d env h1).then fun env' h2 => .nx env' h2
theorem ss_asg {t : TE} {g : TG} {m : M D} {mg : MG} (ha : Sd K (RV K) E t m) (hg : SdG K E g mg) : SdS K E (tAsg t g) (mAsg m mg) := fun ρ P σ H env h s re D p =>
  ha ρ P σ H env h s re _ (PostS.bind p fun a h1 ρ1 P1 H1 v t1 s1 w1 p1 => hg _ _ _ _ _ _ _ _ s1 (re.step t1) w1 _ (PostS.bind p1 fun env2 h2 ρ2 P2 H2 σ2 t2 s2 r2 p2 => PostS.next p2 s2 r2))
/-- a, b = x, y: plain names, no tuple made -/
def mPar (i j : Nat) (m : M (List D)) : MS := fun env h => (m env h).then fun ds h1 => match ds with
  | [a, b] => .nx ((env.set i (some a)).set j (some b)) h1
  | _ => .bad
theorem ss_par {i j : Nat} {t : TA} {m : M (List D)} (ha : Sd K (RVs K) E t m) : SdS K E (tPar i j t) (mPar i j m) := fun ρ P σ H env h s re D p =>
  ha ρ P σ H env h s re _ (PostS.bind p fun a h1 ρ1 P1 H1 v t1 s1 w1 p1 => by
    cases w1 with
    | nil => exact p1.elim
    | cons a b =>
      cases b with
      | nil => exact p1.elim
      | cons b c =>
        cases c with
        | nil => exact ⟨_, _, rfl, PostS.next p1 s1 (((re.step t1).set a i).set b j)⟩
        | cons c d => exact p1.elim)
/-- x op= e -/
def mAug (i : Nat) (f : D → D → AH → R D) (m : M D) : MS := fun env h => (mVar i env h).then fun x h0 => (m env h0).then fun y h1 => (f x y h1).then fun z h2 => .nx (env.set i (some z)) h2
/-! ### while -/
def mWhile (c : M Bool) (b : MS) : Nat → MS
  | 0 => fun _ _ => .bad
  | n + 1 => fun env h => (c env h).then fun k h1 => if k = true then (match b env h1 with
      | .nx env' h' => mWhile c b n env' h'
      | .ct env' h' => mWhile c b n env' h'
      | .bk env' h' => .nx env' h'
      | r => r) else .nx env h1
theorem ss_while {c : TT} {t : TS} {m : M Bool} {b : MS} (hc : Sd K (RQ Bool) E c m) (hb : SdS K E t b) (n : Nat) : SdS K E (tWhile c t) (mWhile m b n) := fun ρ P σ H env h s re D p => by
  refine ⟨fun n σ H => ∃ ρ P env h, SR K ρ P H h ∧ RE K ρ P env σ ∧ PostS K E ρ P H D (mWhile m b n env h), ⟨n, ρ, P, env, h, s, re, p⟩, ?_⟩
  rintro n σ H ⟨ρ, P, env, h, s, re, p⟩
  cases n with
  | zero => exact p.elim
  | succ n =>
    unfold mWhile at p
    refine hc ρ P σ H env h s re _ (PostS.bind p fun k h1 ρ1 P1 H1 v t1 s1 w1 p1 => ?_)
    cases w1
    cases k with
    | false => exact PostS.next p1 s1 (re.step t1)
    | true =>
      refine ⟨fun σ' H' => ∃ ρ P env h, SR K ρ P H' h ∧ RE K ρ P env σ' ∧ PostS K E ρ P H' D (mWhile m b n env h), fun σ' H' q => ⟨n, Nat.lt_succ_self n, q⟩, ?_⟩
      refine hb _ _ _ _ _ _ s1 (re.step t1) _ ?_
      have p1 : PostS K E ρ1 P1 H1 D (match b env h1 with
        | .nx env' h' => mWhile m b n env' h'
        | .ct env' h' => mWhile m b n env' h'
        | .bk env' h' => .nx env' h'
        | r => r) := p1
      cases q : b env h1 with
      | nx env' h' => rw [q] at p1; exact fun ρ' P' H' σ' t s' r' => ⟨ρ', P', env', h', s', r', PostS.mono p1 t⟩
      | ct env' h' => rw [q] at p1; exact fun ρ' P' H' σ' t s' r' => ⟨ρ', P', env', h', s', r', PostS.mono p1 t⟩
      | bk env' h' => rw [q] at p1; exact p1
      | rt d h' => rw [q] at p1; exact p1
      | exc x fs h => rw [q] at p1; exact p1
      | bad => rw [q] at p1; exact p1
/-! ### for -/
/-- what is walked: items that stand still, or the list at a number as it stands at each turn -/
inductive AI where
  | items (ds : List D)
  | at_ (n : Nat)
/-- an iterable's reading: at an AI the iterator goes so -/
def ItOk (K : PySem.W.Frag) (ρ : Ro) (P H : Hp) : AI → It → Prop
  | .items ds, J => ∀ ρ' P' H', (∀ n a, ρ n = some a → ρ' n = some a) → (∀ a o, P a = some o → P' a = some o) → Frz H H' → ∀ h', SR K ρ' P' H' h' → ∀ i, (∀ d, ds[i]? = some d → J.go i H' ∧ ∀ x H2, J.yld i H' x H2 → ∃ P2, Step ρ' P' H' ρ' P2 H2 ∧ SR K ρ' P2 H2 h' ∧ Rep K ρ' P2 d x) ∧ (ds[i]? = none → J.stop i H')
  | .at_ n, J => ∃ a, ρ n = some a ∧ J = Itl K a
abbrev MI := En → AH → R AI
def SdI (K : PySem.W.Frag) (E : XK) (w : TI) (m : MI) : Prop := ∀ ρ P σ H env h, SR K ρ P H h → RE K ρ P env σ → ∀ Q : It → Hp → Prop,
  (match m env h with
  | .ok a h' => ∀ ρ' P' H' J, Step ρ P H ρ' P' H' → SR K ρ' P' H' h' → ItOk K ρ' P' H' a J → Q J H'
  | .exc x fs h' => ∀ ρ' P' H' dd, Step ρ P H ρ' P' H' → SR K ρ' P' H' h' → RX K ρ' P' fs dd → E (.ref (He.ga K x)) dd H'
  | .bad => False) → w σ H Q
def forItems (g : MG) (b : MS) : List D → MS
  | [] => fun env h => .nx env h
  | d :: ds => fun env h => (g d env h).then fun env1 h1 => match b env1 h1 with
      | .nx env' h' => forItems g b ds env' h'
      | .ct env' h' => forItems g b ds env' h'
      | .bk env' h' => .nx env' h'
      | r => r
def forAt (g : MG) (b : MS) (n : Nat) : Nat → Nat → MS
  | 0, _ => fun _ _ => .bad
  | k + 1, i => fun env h => match h[n]? with
      | some (.lst ds) => (match ds[i]? with
        | none => .nx env h
        | some d => (g d env h).then fun env1 h1 => match b env1 h1 with
          | .nx env' h' => forAt g b n k (i + 1) env' h'
          | .ct env' h' => forAt g b n k (i + 1) env' h'
          | .bk env' h' => .nx env' h'
          | r => r)
      | _ => .bad
def mFor (w : MI) (g : MG) (b : MS) : MS := fun env h => (w env h).then fun a h1 => match a with
  | .items ds => forItems g b ds env h1
  | .at_ n => forAt g b n 1000000 0 env h1
theorem ss_for {w : TI} {g : TG} {t : TS} {m : MI} {mg : MG} {b : MS} (hw : SdI K E w m) (hg : SdG K E g mg) (hb : SdS K E t b) : SdS K E (tFor w g t) (mFor m mg b) := fun ρ P σ H env h s re D p => by
  refine hw ρ P σ H env h s re _ ?_
  have p : PostS K E ρ P H D ((m env h).then fun a h1 => match a with
    | .items ds => forItems mg b ds env h1
    | .at_ n => forAt mg b n 1000000 0 env h1) := p
  cases q : m env h with
  | bad => rw [q] at p; exact p
  | exc x fs h => rw [q] at p; exact p
  | ok a h1 =>
    rw [q] at p
    refine fun ρ0 P0 H0 J t0 s0 j0 => ?_
    have p := PostS.mono p t0
    have re := re.step t0
    cases a with
    | items ds =>
      refine ⟨fun i m σ H => m = ds.length - i ∧ i ≤ ds.length ∧ ∃ ρ P env h, Step ρ0 P0 H0 ρ P H ∧ SR K ρ P H h ∧ RE K ρ P env σ ∧ PostS K E ρ P H D (forItems mg b (ds.drop i) env h), ⟨ds.length, rfl, Nat.zero_le _, ρ0, P0, env, h1, Step.refl .., s0, re, p⟩, ?_⟩
      rintro i m σ H ⟨rfl, hi, ρ, P, env, h, t, s, re, p⟩
      have jj := j0 ρ P H t.mono t.pure (t.frz s0) h s i
      by_cases hlt : i < ds.length
      · have e : ds.drop i = ds[i] :: ds.drop (i + 1) := by rw [List.drop_eq_getElem_cons hlt]
        rw [e] at p
        obtain ⟨go, yl⟩ := jj.1 ds[i] (List.getElem?_eq_getElem hlt)
        refine .inr ⟨go, fun σ' H' => ∃ ρ P env h, Step ρ0 P0 H0 ρ P H' ∧ SR K ρ P H' h ∧ RE K ρ P env σ' ∧ PostS K E ρ P H' D (forItems mg b (ds.drop (i + 1)) env h), fun σ' H' z => ⟨ds.length - (i + 1), by omega, rfl, hlt, z⟩, fun x H' y => ?_⟩
        obtain ⟨P2, tx, sx, rx⟩ := yl x H' y
        have p : PostS K E ρ P H D ((mg ds[i] env h).then fun env1 h1 => match b env1 h1 with
          | .nx env' h' => forItems mg b (ds.drop (i + 1)) env' h'
          | .ct env' h' => forItems mg b (ds.drop (i + 1)) env' h'
          | .bk env' h' => .nx env' h'
          | r => r) := p
        have p := PostS.mono p tx
        refine hg ρ P2 σ H' env h _ _ sx (re.step tx) rx _ (PostS.bind p fun env1 h1 ρ1 P1 H1 σ1 t1 s1 r1 p1 => hb _ _ _ _ _ _ s1 r1 _ ?_)
        cases q : b env1 h1 with
        | nx env' h' => simp only [q] at p1; exact fun ρ' P' H' σ' t2 s' r' => ⟨ρ', P', env', h', ((t.trans tx).trans t1).trans t2, s', r', PostS.mono p1 t2⟩
        | ct env' h' => simp only [q] at p1; exact fun ρ' P' H' σ' t2 s' r' => ⟨ρ', P', env', h', ((t.trans tx).trans t1).trans t2, s', r', PostS.mono p1 t2⟩
        | bk env' h' => simp only [q] at p1; exact p1
        | rt d h' => simp only [q] at p1; exact p1
        | exc x fs h => simp only [q] at p1; exact p1
        | bad => simp only [q] at p1; exact p1
      · have e : i = ds.length := by omega
        subst e
        rw [List.drop_length] at p
        exact .inl ⟨jj.2 (by simp), PostS.next p s re⟩
    | at_ n =>
      obtain ⟨a, ea, rfl⟩ := j0
      refine ⟨fun i m σ H => i + m = 1000000 ∧ ∃ ρ P env h, Step ρ0 P0 H0 ρ P H ∧ SR K ρ P H h ∧ RE K ρ P env σ ∧ PostS K E ρ P H D (forAt mg b n m i env h), ⟨1000000, rfl, ρ0, P0, env, h1, Step.refl .., s0, re, p⟩, ?_⟩
      rintro i m σ H ⟨hm, ρ, P, env, h, t, s, re, p⟩
      cases m with
      | zero => exact p.elim
      | succ m =>
        have en := t.mono n a ea
        obtain ⟨o, eo, r⟩ := s.here en
        cases o with
        | lst ds =>
          obtain ⟨vs, ev, rv⟩ := r
          unfold forAt at p
          simp only [eo] at p
          cases q : ds[i]? with
          | none =>
            rw [q] at p
            refine .inl ⟨⟨vs, .of ev, ?_⟩, PostS.next p s re⟩
            rw [rv.length]
            simpa using q
          | some d =>
            simp only [q] at p
            obtain ⟨v, hv, rd⟩ := rv.get q
            refine .inr ⟨⟨vs, v, .of ev, hv⟩, fun σ' H' => ∃ ρ P env h, Step ρ0 P0 H0 ρ P H' ∧ SR K ρ P H' h ∧ RE K ρ P env σ' ∧ PostS K E ρ P H' D (forAt mg b n m (i + 1) env h), fun σ' H' z => ⟨m, Nat.lt_succ_self m, by omega, z⟩, fun x H' y => ?_⟩
            obtain ⟨rfl, y⟩ := y
            have ex := y vs (.of ev)
            rw [hv] at ex
            cases ex
            refine hg ρ P σ H' env h _ _ s re rd _ (PostS.bind p fun env1 h1 ρ1 P1 H1 σ1 t1 s1 r1 p1 => hb _ _ _ _ _ _ s1 r1 _ ?_)
            cases q : b env1 h1 with
            | nx env' h' => simp only [q] at p1; exact fun ρ' P' H' σ' t2 s' r' => ⟨ρ', P', env', h', (t.trans t1).trans t2, s', r', PostS.mono p1 t2⟩
            | ct env' h' => simp only [q] at p1; exact fun ρ' P' H' σ' t2 s' r' => ⟨ρ', P', env', h', (t.trans t1).trans t2, s', r', PostS.mono p1 t2⟩
            | bk env' h' => simp only [q] at p1; exact p1
            | rt d h' => simp only [q] at p1; exact p1
            | exc x fs h => simp only [q] at p1; exact p1
            | bad => simp only [q] at p1; exact p1
        | dct kvs =>
          unfold forAt at p
          simp only [eo] at p
          exact p.elim
        | ins c fs =>
          unfold forAt at p
          simp only [eo] at p
          exact p.elim
        | ndt kvs =>
          unfold forAt at p
          simp only [eo] at p
          exact p.elim
end
end Ab

namespace Ab
open PySem PySem.Spec L2
section
variable {K : PySem.W.Frag} {E : XK} {ρ ρ' ρ1 : Ro} {P H P' H' P1 H1 : Hp}
/-! ### what is walked -/
def iSeq (K : PySem.W.Frag) (t : TE) : TI := fun σ H W => t σ H fun x H1 => (∃ a, x = .ref a ∧ (((∃ xs, SqL K H1 a xs) ∧ W (Itl K a) H1) ∨ ((∃ xs, SqT K H1 a xs) ∧ W (Itt K a) H1))) ∨ ∃ z, x = .str z ∧ W (Its z) H1
/-- the signs of a text -/
def signsD (z : Str) : List D := z.cps.toList.map fun c => D.str ⟨#[c]⟩
def miSeq (m : M D) : MI := fun env h => (m env h).bind fun d h1 => match d with
  | .str z => .ok (.items (signsD z)) h1
  | .lst ds => .ok (.items ds) h1
  | .scr ds => .ok (.items ds) h1
  | .tup ds => .ok (.items ds) h1
  | .loc n => (match h1[n]? with
    | some (.lst _) => .ok (.at_ n) h1
    | _ => .bad)
  | _ => .bad
theorem itOk_L {h : AH} {a : Addr} {vs : List V} {ds : List D} (q : SqL K P a vs) (r : RepL K ρ P ds vs) : ItOk K ρ P H (.items ds) (Itl K a) := fun ρ' P' H' tm tp _ h' s i => by
  have q' : SqL K H' a vs := sqL_s s.sub (sqL_sub tp q)
  have r' := r.up tm tp
  refine ⟨fun d e => ?_, fun e => ⟨vs, q', by rw [r'.length]; simpa using e⟩⟩
  obtain ⟨v, ev, rv⟩ := r'.get e
  refine ⟨⟨vs, v, q', ev⟩, fun x H2 y => ?_⟩
  obtain ⟨rfl, y⟩ := y
  have z := y vs q'
  rw [ev] at z
  cases z
  exact ⟨P', Step.refl .., s, rv⟩
theorem itOk_T {h : AH} {a : Addr} {vs : List V} {ds : List D} (q : SqT K P a vs) (r : RepL K ρ P ds vs) : ItOk K ρ P H (.items ds) (Itt K a) := fun ρ' P' H' tm tp _ h' s i => by
  have q' : SqT K H' a vs := sqT_s s.sub (sqT_sub tp q)
  have r' := r.up tm tp
  refine ⟨fun d e => ?_, fun e => ⟨vs, q', by rw [r'.length]; simpa using e⟩⟩
  obtain ⟨v, ev, rv⟩ := r'.get e
  refine ⟨⟨vs, v, q', ev⟩, fun x H2 y => ?_⟩
  obtain ⟨rfl, y⟩ := y
  have z := y vs q'
  rw [ev] at z
  cases z
  exact ⟨P', Step.refl .., s, rv⟩
theorem Post.bindI {α β : Type} {L : Rl α β} {r : R α} {k : α → AH → R AI} {Q : It → Hp → Prop}
    (p : match r.bind k with
      | .ok a h' => ∀ ρ' P' H' J, Step ρ P H ρ' P' H' → SR K ρ' P' H' h' → ItOk K ρ' P' H' a J → Q J H'
      | .exc x fs h' => ∀ ρ' P' H' dd, Step ρ P H ρ' P' H' → SR K ρ' P' H' h' → RX K ρ' P' fs dd → E (.ref (He.ga K x)) dd H'
      | .bad => False) {Q' : β → Hp → Prop}
    (h : ∀ a h' ρ' P' H' v, Step ρ P H ρ' P' H' → SR K ρ' P' H' h' → L ρ' P' a v → (match k a h' with
      | .ok a h2 => ∀ ρ2 P2 H2 J, Step ρ' P' H' ρ2 P2 H2 → SR K ρ2 P2 H2 h2 → ItOk K ρ2 P2 H2 a J → Q J H2
      | .exc x fs h2 => ∀ ρ2 P2 H2 dd, Step ρ' P' H' ρ2 P2 H2 → SR K ρ2 P2 H2 h2 → RX K ρ2 P2 fs dd → E (.ref (He.ga K x)) dd H2
      | .bad => False) → Q' v H') : Post K L E ρ P H Q' r := by
  cases r with
  | ok a h' =>
    intro ρ' P' H' v t q1 q2
    refine h a h' ρ' P' H' v t q1 q2 ?_
    have p : match k a h' with
      | .ok a h' => ∀ ρ' P' H' J, Step ρ P H ρ' P' H' → SR K ρ' P' H' h' → ItOk K ρ' P' H' a J → Q J H'
      | .exc x fs h' => ∀ ρ' P' H' dd, Step ρ P H ρ' P' H' → SR K ρ' P' H' h' → RX K ρ' P' fs dd → E (.ref (He.ga K x)) dd H'
      | .bad => False := p
    cases e : k a h' with
    | ok b h2 => simp only [e] at p; exact fun ρ2 P2 H2 J u => p ρ2 P2 H2 J (t.trans u)
    | exc x fs h2 => simp only [e] at p; exact fun ρ2 P2 H2 dd u => p ρ2 P2 H2 dd (t.trans u)
    | bad => simp only [e] at p
  | exc x fs h => exact p
  | bad => exact p
theorem itOk_S {z : Str} : ItOk K ρ P H (.items (signsD z)) (Its z) := fun ρ' P' H' tm tp _ h' s i => by
  unfold signsD
  refine ⟨fun d e => ?_, fun e => ?_⟩
  · rw [List.getElem?_map] at e
    cases q : z.cps.toList[i]? with
    | none => rw [q] at e; cases e
    | some c =>
      rw [q] at e
      cases e
      have qa : z.cps[i]? = some c := by rw [← Array.getElem?_toList]; exact q
      refine ⟨(Array.getElem?_eq_some_iff.mp qa).1, fun x H2 y => ?_⟩
      obtain ⟨rfl, c', ec, rfl⟩ := y
      rw [qa] at ec
      cases ec
      exact ⟨P', Step.refl .., s, .str _⟩
  · show z.cps.size ≤ i
    rw [List.getElem?_eq_none_iff, List.length_map, Array.length_toList] at e
    exact e
theorem itOk_R {lo : Int} {n : Nat} : ItOk K ρ P H (.items ((List.range n).map fun i => D.int (lo + (i : Nat)))) (Itr lo n) := fun ρ' P' H' tm tp _ h' s i => by
  refine ⟨fun d e => ?_, fun e => (show n ≤ i by simpa using e)⟩
  rw [List.getElem?_map] at e
  cases q : (List.range n)[i]? with
  | none => rw [q] at e; cases e
  | some j =>
    rw [q] at e
    obtain ⟨hl, ej⟩ := List.getElem?_eq_some_iff.mp q
    simp at ej hl
    subst ej
    cases e
    refine ⟨hl, fun x H2 y => ?_⟩
    obtain ⟨rfl, rfl⟩ := y
    exact ⟨P', Step.refl .., s, .int _⟩
/-- within the word of a range -/
def InW (i : Int) : Prop := -(2 ^ 62) ≤ i ∧ i < 2 ^ 62
@[irreducible] instance insInW (i : Int) : Decidable (InW i) := inferInstanceAs (Decidable (_ ∧ _))
def rngD (lo hi : Int) : List D := (List.range (hi - lo).toNat).map fun i => D.int (lo + (i : Nat))
def miRng (m : M (List D)) : MI := fun env h => (m env h).bind fun ds h1 => match ds with
  | [.int j] => if InW j then .ok (.items (rngD 0 j)) h1 else .bad
  | [.int i, .int j] => if InW i ∧ InW j then .ok (.items (rngD i j)) h1 else .bad
  | _ => .bad
theorem si_rng1 {t : TA} {m : M (List D)} (ha : Sd K (RVs K) E t m) : SdI K E (iRng1 t) (fun env h => (m env h).bind fun ds h1 => match ds with
    | [.int j] => if InW j then .ok (.items (rngD 0 j)) h1 else .bad
    | _ => .bad) := fun ρ P σ H env h s re Q p =>
  ha ρ P σ H env h s re _ (Post.bindI p fun a h1 ρ1 P1 H1 v t1 s1 w1 p1 => by
    cases w1 with
    | nil => exact p1.elim
    | cons a b =>
      cases a with
      | int j =>
        cases b with
        | nil =>
          dsimp only at p1
          by_cases hb : InW j
          · rw [if_pos hb] at p1
            refine ⟨j, rfl, hb.1, hb.2, p1 ρ1 P1 H1 _ (Step.refl ..) s1 ?_⟩
            have e : (j - 0).toNat = j.toNat := by omega
            show ItOk K ρ1 P1 H1 (.items ((List.range (j - 0).toNat).map fun i => D.int (0 + (i : Nat)))) _
            rw [e]
            exact itOk_R
          · rw [if_neg hb] at p1; exact p1.elim
        | cons c d => exact p1.elim
      | _ => exact p1.elim)
theorem si_rng2 {t : TA} {m : M (List D)} (ha : Sd K (RVs K) E t m) : SdI K E (iRng2 t) (fun env h => (m env h).bind fun ds h1 => match ds with
    | [.int i, .int j] => if InW i ∧ InW j then .ok (.items (rngD i j)) h1 else .bad
    | _ => .bad) := fun ρ P σ H env h s re Q p =>
  ha ρ P σ H env h s re _ (Post.bindI p fun a h1 ρ1 P1 H1 v t1 s1 w1 p1 => by
    cases w1 with
    | nil => exact p1.elim
    | cons a b =>
      cases a with
      | int i =>
        cases b with
        | nil => exact p1.elim
        | cons c d =>
          cases c with
          | int j =>
            cases d with
            | nil =>
              dsimp only at p1
              by_cases hb : InW i ∧ InW j
              · rw [if_pos hb] at p1
                exact ⟨i, j, rfl, ⟨hb.1.1, hb.1.2, hb.2.1, hb.2.2⟩, p1 ρ1 P1 H1 _ (Step.refl ..) s1 itOk_R⟩
              · rw [if_neg hb] at p1; exact p1.elim
            | cons e f => exact p1.elim
          | _ => exact p1.elim
      | _ => exact p1.elim)
/-! ### comprehensions -/
def wipeE (env : En) : List Nat → En
  | [] => env
  | v :: vs => (wipeE env vs).set v none
theorem RE.wipe {env : En} {σ : L2.St} (r : RE K ρ P env σ) : ∀ vs : List Nat, RE K ρ P (wipeE env vs) (wipe σ vs)
  | [] => r
  | v :: vs => by
    obtain ⟨hl, hr⟩ := RE.wipe r vs
    refine ⟨by show ((wipeE env vs).set v none).length = ((L2.wipe σ vs).set v none).length; simp [hl], fun i d e => ?_⟩
    have e : ((wipeE env vs).set v none)[i]? = some (some d) := e
    show ∃ u, ((L2.wipe σ vs).set v none)[i]? = some (some u) ∧ _
    by_cases z : v = i
    · subst z
      by_cases hv : v < (wipeE env vs).length
      · rw [List.getElem?_set_self hv] at e; cases e
      · rw [List.getElem?_eq_none (by simpa using hv)] at e; cases e
    · rw [List.getElem?_set_ne z] at e ⊢
      exact hr i d e
theorem wipe_set {σ : L2.St} {i : Nat} {o : Option V} : ∀ {vs : List Nat}, i ∈ vs → wipe (σ.set i o) vs = wipe σ vs
  | [], h => by cases h
  | v :: vs, h => by
    show (wipe (σ.set i o) vs).set v none = (wipe σ vs).set v none
    by_cases hi : i ∈ vs
    · rw [wipe_set hi]
    · have e : i = v := (List.mem_cons.mp h).resolve_right hi
      subst e
      have aux : ∀ ws : List Nat, i ∉ ws → wipe (σ.set i o) ws = (wipe σ ws).set i o := by
        intro ws
        induction ws with
        | nil => intro _; rfl
        | cons w ws ih =>
          intro hw
          show (wipe (σ.set i o) ws).set w none = ((wipe σ ws).set w none).set i o
          rw [ih (fun z => hw (List.mem_cons_of_mem _ z)), List.set_comm _ _ (fun z : i = w => hw (by rw [z]; exact List.mem_cons_self))]
      rw [aux vs hi, List.set_set]
theorem wipe_wipe {σ : L2.St} : ∀ {vs ws : List Nat}, (∀ i ∈ ws, i ∈ vs) → wipe (wipe σ ws) vs = wipe σ vs
  | vs, [], _ => rfl
  | vs, w :: ws, h => by
    show wipe ((wipe σ ws).set w none) vs = _
    rw [wipe_set (h w List.mem_cons_self), wipe_wipe fun i hi => h i (List.mem_cons_of_mem _ hi)]
/-- a target that stores at these places alone -/
def GW (vs : List Nat) (g : TG) : Prop := ∀ v σ H Q, g v σ H Q → g v σ H fun σ' H' => wipe σ' vs = wipe σ vs ∧ Q σ' H'
def GWs (vs : List Nat) (g : TGs) : Prop := ∀ v σ H Q, g v σ H Q → g v σ H fun σ' H' => wipe σ' vs = wipe σ vs ∧ Q σ' H'
theorem gw_name {vs : List Nat} {i : Nat} (h : i ∈ vs) : GW vs (gName i) := fun v σ H Q q => ⟨wipe_set h, q⟩
def lcItems (g : MG) (c : M Bool) (e : M D) (env : En) : List D → AH → R (List D)
  | [], h => .ok [] h
  | d :: ds, h => (g d env h).bind fun env1 h1 => (c env1 h1).bind fun b h2 => if b = true then (e env1 h2).bind fun y h3 => (lcItems g c e env ds h3).bind fun r h4 => .ok (y :: r) h4 else lcItems g c e env ds h2
def lcAt (g : MG) (c : M Bool) (e : M D) (env : En) (n : Nat) : Nat → Nat → AH → R (List D)
  | 0, _ => fun _ => .bad
  | k + 1, i => fun h => match h[n]? with
    | some (.lst ds) => (match ds[i]? with
      | none => .ok [] h
      | some d => if i < sizeLine then (g d env h).bind fun env1 h1 => (c env1 h1).bind fun b h2 => if b = true then (e env1 h2).bind fun y h3 => (lcAt g c e env n k (i + 1) h3).bind fun r h4 => .ok (y :: r) h4 else lcAt g c e env n k (i + 1) h2 else .bad)
    | _ => .bad
def mLc (w : MI) (g : MG) (c : M Bool) (e : M D) (vs : List Nat) : M (List D) := fun env h => (w env h).bind fun a h1 => match a with
  | .items ds => if ds.length ≤ sizeLine then lcItems g c e (wipeE env vs) ds h1 else .bad
  | .at_ n => lcAt g c e (wipeE env vs) n 1000000 0 h1
theorem Step.loose {ρ0 : Ro} {P0 H0 : Hp} (t : Step ρ0 P0 H0 ρ P H) {p : Addr} {o : HO} (h0 : H0 p = none) : Step ρ0 P0 H0 ρ P (upd H p o) := by
  refine ⟨t.mono, t.pure, t.newr, t.newp, fun a u e hn w => ?_, fun a e => ?_⟩
  · rw [upd_ne (ne_of_none e h0)]; exact t.keep a u e hn w
  · by_cases z : a = p
    · rw [z, upd_same]; simp
    · rw [upd_ne z]; exact t.there a e
theorem PostF.bindA {α β : Type} {L : Rl α β} {Q : VK} {r : R α} {k : α → AH → R (List D)} {ρ0 : Ro} {P0 H0 : Hp}
    (p : PostF K E ρ0 P0 H0 Q (r.bind k)) (t0 : Step ρ0 P0 H0 ρ P H) {Q' : β → Hp → Prop} (h : ∀ a h' ρ' P' H' v, Step ρ P H ρ' P' H' → SR K ρ' P' H' h' → L ρ' P' a v → PostF K E ρ0 P0 H0 Q (k a h') → Q' v H') : Post K L E ρ P H Q' r := by
  cases r with
  | ok a h' => exact fun ρ' P' H' v t q1 q2 => h a h' ρ' P' H' v t q1 q2 p
  | exc x fs h => exact fun ρ' P' H' dd t q1 q2 => p ρ' P' H' dd (t0.trans t) q1 q2
  | bad => exact p
/-- the new list within a comprehension -/
structure LcS (K : PySem.W.Frag) (ρ0 : Ro) (P0 H0 : Hp) (D0 : Addr) (ρ : Ro) (P H : Hp) (h : AH) (acc : List D) : Prop where
  t : Step ρ0 P0 H0 ρ P H
  s : SR K ρ P H h
  np : P D0 = none
  nr : NoR ρ D0
  at_ : ∃ vs, H D0 = some (.lst vs) ∧ RepL K ρ P acc vs
theorem LcS.step {ρ0 : Ro} {P0 H0 : Hp} {D0 : Addr} {h h' : AH} {acc : List D} (x : LcS K ρ0 P0 H0 D0 ρ P H h acc) (t : Step ρ P H ρ' P' H') (s : SR K ρ' P' H' h') : LcS K ρ0 P0 H0 D0 ρ' P' H' h' acc := by
  obtain ⟨vs, e, r⟩ := x.at_
  have ne : H D0 ≠ none := by rw [e]; simp
  exact ⟨x.t.trans t, s, t.noP x.np (.inr ⟨_, e, rfl⟩), t.noR ne x.nr, vs, t.keep _ _ e x.nr ⟨rfl, .inr rfl⟩, r.step t⟩
theorem LcS.app {ρ0 : Ro} {P0 H0 : Hp} {D0 : Addr} {h : AH} {acc : List D} (x : LcS K ρ0 P0 H0 D0 ρ P H h acc) (h0 : H0 D0 = none) {d : D} {v : V} (w : Rep K ρ P d v) : ∃ vs, H D0 = some (.lst vs) ∧ vs.length = acc.length ∧ LcS K ρ0 P0 H0 D0 ρ P (upd H D0 (.lst (vs ++ [v]))) h (acc ++ [d]) := by
  obtain ⟨vs, e, r⟩ := x.at_
  exact ⟨vs, e, r.length, x.t.loose h0, x.s.loose x.np x.nr (fun u q => by rw [e] at q; cases q; exact noC_of rfl), x.np, x.nr, vs ++ [v], upd_same, r.append (.cons w .nil)⟩
theorem LcS.fin {ρ0 : Ro} {P0 H0 : Hp} {D0 : Addr} {h : AH} {acc : List D} {Q : VK} (x : LcS K ρ0 P0 H0 D0 ρ P H h acc) (h0 : H0 D0 = none) (p : PostF K E ρ0 P0 H0 Q (.ok acc h)) : Q (.ref D0) H := by
  obtain ⟨vs, e, r⟩ := x.at_
  exact p ρ P H D0 vs x.t x.s h0 x.np x.nr e r
theorem R.bind_ok {α : Type} (r : R α) : (r.bind fun a h => .ok a h) = r := by cases r <;> rfl
theorem R.bind_bind {α β γ : Type} (r : R α) (f : α → AH → R β) (g : β → AH → R γ) : ((r.bind f).bind g) = r.bind fun a h => (f a h).bind g := by cases r <;> rfl
theorem sf_lc {w : TI} {g : TG} {tt : TT} {te : TE} {vs : List Nat} {mw : MI} {mg : MG} {mc : M Bool} {me : M D} (hw : SdI K E w mw) (hg : SdG K E g mg) (hv : GW vs g) (hc : Sd K (RQ Bool) E tt mc) (he : Sd K (RV K) E te me) :
    SdF K E (tLc w g tt te vs) (mLc mw mg mc me vs) := fun ρ P σ H env h s re Q p => by
  refine hw ρ P σ H env h s re _ ?_
  have p : PostF K E ρ P H Q ((mw env h).bind fun a h1 => match a with
    | .items ds => if ds.length ≤ sizeLine then lcItems mg mc me (wipeE env vs) ds h1 else .bad
    | .at_ n => lcAt mg mc me (wipeE env vs) n 1000000 0 h1) := p
  cases q : mw env h with
  | bad => rw [q] at p; exact p
  | exc x fs h => rw [q] at p; exact p
  | ok a h1 =>
    rw [q] at p
    refine fun ρ0 P0 H0 J t0 s0 j0 D0 hD => ?_
    have p := PostF.mono p t0
    have re := (re.step t0).wipe vs
    obtain ⟨sD, tD⟩ := s0.own hD (.lst [])
    have x0 : LcS K ρ0 P0 H0 D0 ρ0 P0 (upd H0 D0 (.lst [])) h1 [] := ⟨tD, sD, s0.noP hD, s0.noR hD, [], upd_same, .nil⟩
    -- one turn's body
    have turn : ∀ {ρ : Ro} {P H : Hp} {h : AH} {acc : List D} {d : D} {v : V} {rest : AH → R (List D)} {Nx : Hp → Prop}, LcS K ρ0 P0 H0 D0 ρ P H h acc → acc.length < sizeLine → Rep K ρ P d v →
        PostF K E ρ0 P0 H0 Q (((mg d (wipeE env vs) h).bind fun env1 h1 => (mc env1 h1).bind fun b h2 => if b = true then (me env1 h2).bind fun y h3 => (rest h3).bind fun r h4 => .ok (y :: r) h4 else rest h2).bind fun r h => .ok (acc ++ r) h) →
        (∀ ρ' P' H' h' acc', LcS K ρ0 P0 H0 D0 ρ' P' H' h' acc' → acc'.length ≤ acc.length + 1 → PostF K E ρ0 P0 H0 Q ((rest h').bind fun r h => .ok (acc' ++ r) h) → Nx H') →
        g v (wipe σ vs) H fun σ2 H2 => wipe σ2 vs = wipe σ vs ∧ tt σ2 H2 fun b H3 => if b = true then te σ2 H3 fun y H4 => ∃ acc, H4 D0 = some (.lst acc) ∧ acc.length < sizeLine ∧ Nx (upd H4 D0 (.lst (acc ++ [y]))) else Nx H3 := by
      intro ρ P H h acc d v rest Nx x hl rd pp nx
      have re' : RE K ρ P (wipeE env vs) (wipe σ vs) := ⟨re.1, fun i d e => let ⟨v, h1, h2⟩ := re.2 i d e; ⟨v, h1, h2.up x.t.mono x.t.pure⟩⟩
      rw [R.bind_bind] at pp
      have gg := hg ρ P (wipe σ vs) H (wipeE env vs) h d v x.s re' rd (fun σ2 H2 => tt σ2 H2 fun b H3 => if b = true then te σ2 H3 fun y H4 => ∃ acc, H4 D0 = some (.lst acc) ∧ acc.length < sizeLine ∧ Nx (upd H4 D0 (.lst (acc ++ [y]))) else Nx H3)
        (PostF.bindA pp x.t fun env1 h1 ρ1 P1 H1 σ1 t1 s1 r1 p1 => by
          rw [R.bind_bind] at p1
          have x1 := x.step t1 s1
          refine hc ρ1 P1 σ1 H1 env1 h1 s1 r1 _ (PostF.bindA p1 x1.t fun b h2 ρ2 P2 H2 b' t2 s2 eb p2 => ?_)
          cases eb
          have x2 := x1.step t2 s2
          cases b with
          | false =>
            rw [if_neg Bool.false_ne_true] at p2 ⊢
            exact nx ρ2 P2 H2 h2 acc x2 (Nat.le_succ _) p2
          | true =>
            rw [if_pos rfl] at p2 ⊢
            rw [R.bind_bind] at p2
            refine he ρ2 P2 σ1 H2 env1 h2 s2 (r1.step t2) _ (PostF.bindA p2 x2.t fun y h3 ρ3 P3 H3 yv t3 s3 ry p3 => ?_)
            obtain ⟨ws, e1, e2, x3⟩ := (x2.step t3 s3).app hD ry
            refine ⟨ws, e1, by rw [e2]; exact hl, nx _ _ _ _ _ x3 (by simp) ?_⟩
            rw [R.bind_bind] at p3
            have e : (fun (a : List D) (h : AH) => R.bind (R.ok (y :: a) h) fun r h => R.ok (acc ++ r) h) = fun r h => R.ok (acc ++ [y] ++ r) h := by funext a h; show R.ok (acc ++ (y :: a)) h = _; simp
            have p4 : PostF K E ρ0 P0 H0 Q ((rest h3).bind fun (a : List D) (h : AH) => R.bind (R.ok (y :: a) h) fun r h => R.ok (acc ++ r) h) := p3
            rw [e] at p4
            exact p4)
      have g2 := hv _ _ _ _ gg
      rw [wipe_wipe fun i hi => hi] at g2
      exact g2
    cases a with
    | items ds =>
      have p : PostF K E ρ0 P0 H0 Q (if ds.length ≤ sizeLine then lcItems mg mc me (wipeE env vs) ds h1 else .bad) := p
      by_cases hs : ds.length ≤ sizeLine
      · rw [if_pos hs] at p
        refine ⟨fun i m H => m = ds.length - i ∧ i ≤ ds.length ∧ ∃ ρ P h acc, LcS K ρ0 P0 H0 D0 ρ P H h acc ∧ acc.length ≤ i ∧ PostF K E ρ0 P0 H0 Q ((lcItems mg mc me (wipeE env vs) (ds.drop i) h).bind fun r h => .ok (acc ++ r) h), ⟨ds.length, rfl, Nat.zero_le _, ρ0, P0, h1, [], x0, Nat.le_refl _, ?_⟩, ?_⟩
        · have e : (fun (r : List D) (h : AH) => R.ok ([] ++ r) h) = fun r h => R.ok r h := rfl
          rw [e, R.bind_ok]
          exact p
        · rintro i m H ⟨rfl, hi, ρ, P, h, acc, x, ha, p⟩
          have t' : Step ρ0 P0 H0 ρ P H := x.t
          have jj := j0 ρ P H t'.mono t'.pure (t'.frz s0) h x.s i
          by_cases hlt : i < ds.length
          · have e : ds.drop i = ds[i] :: ds.drop (i + 1) := by rw [List.drop_eq_getElem_cons hlt]
            rw [e] at p
            obtain ⟨go, yl⟩ := jj.1 ds[i] (List.getElem?_eq_getElem hlt)
            refine .inr ⟨go, fun H' => ∃ ρ P h acc, LcS K ρ0 P0 H0 D0 ρ P H' h acc ∧ acc.length ≤ i + 1 ∧ PostF K E ρ0 P0 H0 Q ((lcItems mg mc me (wipeE env vs) (ds.drop (i + 1)) h).bind fun r h => .ok (acc ++ r) h), fun H' z => ⟨ds.length - (i + 1), by omega, rfl, hlt, z⟩, fun v H' y => ?_⟩
            obtain ⟨P2, tx, sx, rx⟩ := yl v H' y
            exact turn (rest := lcItems mg mc me (wipeE env vs) (ds.drop (i + 1))) (x.step tx sx) (by omega) rx p fun ρ' P' H' h' acc' x' hl' p' => ⟨ρ', P', h', acc', x', by omega, p'⟩
          · have e : i = ds.length := by omega
            subst e
            rw [List.drop_length] at p
            refine .inl ⟨jj.2 (by simp), x.fin (E := E) hD ?_⟩
            have p : PostF K E ρ0 P0 H0 Q (.ok (acc ++ []) h) := p
            rw [List.append_nil] at p
            exact p
      · rw [if_neg hs] at p; exact p.elim
    | at_ n =>
      obtain ⟨a, ea, rfl⟩ := j0
      have p : PostF K E ρ0 P0 H0 Q (lcAt mg mc me (wipeE env vs) n 1000000 0 h1) := p
      refine ⟨fun i m H => i + m = 1000000 ∧ ∃ ρ P h acc, LcS K ρ0 P0 H0 D0 ρ P H h acc ∧ acc.length ≤ i ∧ PostF K E ρ0 P0 H0 Q ((lcAt mg mc me (wipeE env vs) n m i h).bind fun r h => .ok (acc ++ r) h), ⟨1000000, rfl, ρ0, P0, h1, [], x0, Nat.le_refl _, ?_⟩, ?_⟩
      · have e : (fun (r : List D) (h : AH) => R.ok ([] ++ r) h) = fun r h => R.ok r h := rfl
        rw [e, R.bind_ok]
        exact p
      · rintro i m H ⟨hm, ρ, P, h, acc, x, ha, p⟩
        cases m with
        | zero => exact p.elim
        | succ m =>
          have en := x.t.mono n a ea
          obtain ⟨o, eo, r⟩ := x.s.here en
          cases o with
          | lst ds =>
            obtain ⟨ws, ev, rv⟩ := r
            unfold lcAt at p
            simp only [eo] at p
            cases q : ds[i]? with
            | none =>
              simp only [q] at p
              refine .inl ⟨⟨ws, .of ev, by rw [rv.length]; simpa using q⟩, x.fin (E := E) hD ?_⟩
              have p : PostF K E ρ0 P0 H0 Q (.ok (acc ++ []) h) := p
              rw [List.append_nil] at p
              exact p
            | some d =>
              simp only [q] at p
              obtain ⟨v, hv1, rd⟩ := rv.get q
              by_cases hi : i < sizeLine
              · rw [if_pos hi] at p
                refine .inr ⟨⟨ws, v, .of ev, hv1⟩, fun H' => ∃ ρ P h acc, LcS K ρ0 P0 H0 D0 ρ P H' h acc ∧ acc.length ≤ i + 1 ∧ PostF K E ρ0 P0 H0 Q ((lcAt mg mc me (wipeE env vs) n m (i + 1) h).bind fun r h => .ok (acc ++ r) h), fun H' z => ⟨m, Nat.lt_succ_self m, by omega, z⟩, fun y H' yy => ?_⟩
                obtain ⟨rfl, yy⟩ := yy
                have ex := yy ws (.of ev)
                rw [hv1] at ex
                cases ex
                exact turn (rest := lcAt mg mc me (wipeE env vs) n m (i + 1)) x (by omega) rd p fun ρ' P' H' h' acc' x' hl' p' => ⟨ρ', P', h', acc', x', by omega, p'⟩
              · rw [if_neg hi] at p; exact p.elim
          | dct kvs =>
            unfold lcAt at p
            simp only [eo] at p
            exact p.elim
          | ins c fs =>
            unfold lcAt at p
            simp only [eo] at p
            exact p.elim
          | ndt kvs =>
            unfold lcAt at p
            simp only [eo] at p
            exact p.elim
end
end Ab

namespace Ab
open PySem PySem.Spec L2
/-! ### a def: its frame at the entry, its end; numbers made within are dropped -/
mutual
def below (n : Nat) : D → Bool
  | .tup ds => belowL n ds
  | .lst ds => belowL n ds
  | .scr ds => belowL n ds
  | .obj _ _ ds => belowL n ds
  | .dic _ ds => belowL n ds
  | .nd _ ds => belowL n ds
  | .exv _ _ ds => belowL n ds
  | .dv _ ds => belowL n ds
  | .loc m => decide (m < n)
  | _ => true
def belowL (n : Nat) : List D → Bool
  | [] => true
  | d :: ds => below n d && belowL n ds
end
def AO.below (n : Nat) : AO → Bool
  | .lst ds => belowL n ds
  | .dct kvs => belowL n (kvs.map (·.2))
  | .ins _ fs => belowL n (fs.map (·.2))
  | .ndt kvs => belowL n (kvs.map (·.2))
def initE (N : Nat) (ds : List D) : En := ds.map some ++ List.replicate (N - ds.length) none
def bodyR : SS → R D
  | .nx _ h => .ok .non h
  | .rt d h => .ok d h
  | .exc x fs h => .exc x fs h
  | _ => .bad
def bodyR0 : SS → R D
  | .nx _ h => .ok .non h
  | .rt d h => .ok d h
  | _ => .bad
def exitD (n : Nat) (d : D) (h : AH) : R D :=
  if (h.take n).all (AO.below n) = true then
    (if below n d = true then .ok d (h.take n) else match d with
      | .loc k => (match h[k]? with
        | some (.lst ds) => if belowL n ds = true then .ok (.lst ds) (h.take n) else .ok d h
        | some (.dct kvs) => if belowL n (kvs.map (·.2)) = true then .ok (.dic (kvs.map (·.1)) (kvs.map (·.2))) (h.take n) else .ok d h
        | some (.ndt kvs) => if belowL n (kvs.map (·.2)) = true then .ok (.nd (kvs.map (·.1)) (kvs.map (·.2))) (h.take n) else .ok d h
        | _ => .ok d h)
      | _ => .ok d h)
  else .ok d h
def exitR (n : Nat) : R D → R D
  | .ok d h => exitD n d h
  | .exc x fs h => if (h.take n).all (AO.below n) = true ∧ belowL n (fs.map (·.2)) = true then .exc x fs (h.take n) else .exc x fs h
  | .bad => .bad
abbrev Fn := List D → AH → R D
/-- a def that lets nothing out; numbers dropped (T), kept (K) -/
def mFnT (N : Nat) (m : MS) : Fn := fun ds h => exitR h.length (bodyR0 (m (initE N ds) h))
def mFnK (N : Nat) (m : MS) : Fn := fun ds h => bodyR0 (m (initE N ds) h)
/-- one that may raise -/
def mFnTX (N : Nat) (m : MS) : Fn := fun ds h => exitR h.length (bodyR (m (initE N ds) h))
section
variable {K : PySem.W.Frag} {E : XK} {ρ ρ' ρ1 : Ro} {P H P' H' P1 H1 : Hp}
/-- numbers from n on forgotten -/
def cutR (n : Nat) (ρ : Ro) : Ro := fun k => if k < n then ρ k else none
mutual
theorem Rep.cut {n : Nat} : ∀ {d : D} {v : V}, Rep K ρ P d v → below n d = true → Rep K (cutR n ρ) P d v
  | _, _, .non, _ => .non
  | _, _, .bl b, _ => .bl b
  | _, _, .int i, _ => .int i
  | _, _, .str x, _ => .str x
  | _, _, .glo x, _ => .glo x
  | _, _, .ty x, _ => .ty x
  | _, _, .tup p r, h => .tup p (RepL.cut r h)
  | _, _, .lst p r, h => .lst p (RepL.cut r h)
  | _, _, .scr p r, h => .scr p (RepL.cut r h)
  | _, _, .loc (n := k) e, h => .loc (by
      have hk : k < n := of_decide_eq_true h
      show (if k < n then ρ k else none) = _
      rw [if_pos hk]; exact e)
  | _, _, .obj p e l r, h => .obj p e l (RepL.cut r h)
  | _, _, .dic p e l r, h => .dic p e l (RepL.cut r h)
  | _, _, .nd p e l k r, h => .nd p e l k (RepL.cut r h)
  | _, _, .exv p d e l r, h => .exv p d e l (RepL.cut r h)
  | _, _, .fn a, _ => .fn a
  | _, _, .dk p, _ => .dk p
  | _, _, .dv p e l r, h => .dv p e l (RepL.cut r h)
theorem RepL.cut {n : Nat} : ∀ {ds : List D} {vs : List V}, RepL K ρ P ds vs → belowL n ds = true → RepL K (cutR n ρ) P ds vs
  | _, _, .nil, _ => .nil
  | _, _, .cons a b, h => .cons (Rep.cut a (Bool.and_eq_true_iff.mp h).1) (RepL.cut b (Bool.and_eq_true_iff.mp h).2)
end
theorem SR.cut {h' : AH} {n : Nat} (s : SR K ρ' P' H' h') (hb : (h'.take n).all (AO.below n) = true) : SR K (cutR n ρ') P' H' (h'.take n) := by
  have sub : ∀ {k : Nat} {a : Addr}, cutR n ρ' k = some a → k < n ∧ ρ' k = some a := fun {k a} e => by
    have e : (if k < n then ρ' k else none) = some a := e
    split at e
    · exact ⟨by assumption, e⟩
    · cases e
  refine ⟨s.sub, s.subD, fun k a e => s.apart k a (sub e).2, fun k m a e e' => s.inj k m a (sub e).2 (sub e').2, fun k o e => ?_, fun k hk => ?_, s.tabs⟩
  · have hk : k < n := by
      have := (List.getElem?_eq_some_iff.mp e).1
      simp at this; omega
    have e2 : h'[k]? = some o := by rw [List.getElem?_take_of_lt hk] at e; exact e
    obtain ⟨a, e1, r⟩ := s.obj k o e2
    refine ⟨a, by show (if k < n then ρ' k else none) = _; rw [if_pos hk]; exact e1, ?_⟩
    have ho : o.below n = true := List.all_eq_true.mp hb o (List.mem_of_getElem? e)
    cases o with
    | lst ds =>
      obtain ⟨vs, e3, r3⟩ := r
      exact ⟨vs, e3, r3.cut ho⟩
    | dct kvs =>
      obtain ⟨vs, e3, e4, r3⟩ := r
      exact ⟨vs, e3, e4, r3.cut ho⟩
    | ins c fs =>
      obtain ⟨dx, vs, e3, e4, r3⟩ := r
      exact ⟨dx, vs, e3, e4, r3.cut ho⟩
    | ndt kvs =>
      obtain ⟨xs, e3, e4, w, r3⟩ := r
      exact ⟨xs, e3, e4, w, r3.cut ho⟩
  · show (if k < n then ρ' k else none) = none
    split
    · exact s.dom k (by simp at hk; omega)
    · rfl
theorem Step.cut {h : AH} (s : SR K ρ P H h) (t : Step ρ P H ρ' P' H') : Step ρ P H (cutR h.length ρ') P' H' := by
  refine ⟨fun k a e => ?_, t.pure, fun k a e e' => ?_, t.newp, t.keep, t.there⟩
  · have hk : k < h.length := by
      cases Nat.lt_or_ge k h.length with
      | inl z => exact z
      | inr z => rw [s.dom k z] at e; cases e
    show (if k < h.length then ρ' k else none) = _
    rw [if_pos hk]; exact t.mono k a e
  · have e' : (if k < h.length then ρ' k else none) = some a := e'
    split at e'
    · exact t.newr k a e e'
    · cases e'
/-- a thing made within, that no number keeps: it never changes any more -/
theorem freeze {h h' : AH} {k : Nat} {a : Addr} {u : HO} (s : SR K ρ P H h) (t : Step ρ P H ρ' P' H') (s' : SR K ρ' P' H' h') (hb : (h'.take h.length).all (AO.below h.length) = true) (e : ρ' k = some a) (hk : ¬ k < h.length) (ev : H' a = some u) :
    Step ρ P H (cutR h.length ρ') (upd P' a u) H' ∧ SR K (cutR h.length ρ') (upd P' a u) H' (h'.take h.length) ∧ ∀ b o, P' b = some o → upd P' a u b = some o := by
  have np := s'.apart k a e
  have h0 : H a = none := t.newr k a (s.dom k (Nat.le_of_not_lt hk)) e
  have sc := s'.cut hb
  have tc := t.cut s
  have nr : NoR (cutR h.length ρ') a := fun m em => by
    have em : (if m < h.length then ρ' m else none) = some a := em
    split at em
    · have := s'.inj m k a em e
      omega
    · cases em
  have kp : ∀ b o, P' b = some o → upd P' a u b = some o := upd_keep np
  refine ⟨⟨tc.mono, fun b o eb => kp b o (tc.pure b o eb), tc.newr, fun b eb hb => ?_, tc.keep, tc.there⟩, ⟨fun b o eb nd => ?_, fun b o eb => ?_, fun m b eb => ?_, sc.inj, fun m o eo => ?_, sc.dom, sc.tabs.updP K (by obtain ⟨o, _, r⟩ := s'.here e; exact noC_nT (r.noC u ev))⟩, kp⟩
  · have z : b ≠ a := fun z => by
      subst z
      rcases hb with ⟨n, e1⟩ | ⟨u, e1, _⟩
      · exact nr n (tc.mono n b e1)
      · rw [h0] at e1; cases e1
    rw [upd_ne z]; exact tc.newp b eb hb
  · by_cases z : b = a
    · subst z; rw [upd_same] at eb; cases eb; exact ev
    · rw [upd_ne z] at eb; exact sc.sub b o eb nd
  · by_cases z : b = a
    · subst z; rw [upd_same] at eb; cases eb; exact .inl ev
    · rw [upd_ne z] at eb; exact sc.subD b o eb
  · have z : b ≠ a := fun z => nr m (z ▸ eb)
    rw [upd_ne z]; exact sc.apart m b eb
  · obtain ⟨b, e1, r⟩ := sc.obj m o eo
    exact ⟨b, e1, r.up (fun _ _ e => e) kp fun _ e => e⟩
theorem zip_parts {α β : Type} : ∀ {l : List (α × β)}, l = (l.map (·.1)).zip (l.map (·.2))
  | [] => rfl
  | p :: l => by simp only [List.map_cons, List.zip_cons_cons]; rw [← zip_parts (l := l)]
theorem post_exit {h : AH} (s : SR K ρ P H h) {Q : VK} : ∀ {r : R D}, Post K (RV K) E ρ P H Q (exitR h.length r) → Post K (RV K) E ρ P H Q r
  | .bad, p => p
  | .exc x fs h', p => by
    intro ρ' P' H' dd t s' rx
    have p : Post K (RV K) E ρ P H Q (if (h'.take h.length).all (AO.below h.length) = true ∧ belowL h.length (fs.map (·.2)) = true then .exc x fs (h'.take h.length) else .exc x fs h') := p
    split at p
    · rename_i hb
      refine p _ P' H' dd (t.cut s) (s'.cut hb.1) ?_
      rcases rx with z | ⟨da, fvs, e1, e2, e3, r⟩
      · exact .inl z
      · exact .inr ⟨da, fvs, e1, e2, e3, r.cut hb.2⟩
    · exact p ρ' P' H' dd t s' rx
  | .ok d h', p => by
    intro ρ' P' H' v t s' w
    have p : Post K (RV K) E ρ P H Q (exitD h.length d h') := p
    unfold exitD at p
    split at p
    · rename_i hb
      split at p
      · rename_i hd
        exact p _ P' H' v (t.cut s) (s'.cut hb) (w.cut hd)
      · rename_i hd
        split at p
        · rename_i k pold
          split at p
          · rename_i ds ek
            split at p
            · rename_i hds
              cases w with
              | loc e =>
                rename_i a
                obtain ⟨o, eo, r⟩ := s'.here e
                rw [ek] at eo
                cases eo
                obtain ⟨vs, ev, rv⟩ := r
                have hk : ¬ k < h.length := fun z => hd (decide_eq_true z)
                obtain ⟨st, sr, kp⟩ := freeze s t s' hb e hk ev
                exact p _ _ H' _ st sr (.lst upd_same ((rv.cut hds).up (fun _ _ e => e) kp))
            · exact p ρ' P' H' v t s' w
          · rename_i kvs ek
            split at p
            · rename_i hds
              cases w with
              | loc e =>
                rename_i a
                obtain ⟨o, eo, r⟩ := s'.here e
                rw [ek] at eo
                cases eo
                obtain ⟨kws, ev, e4, rv⟩ := r
                have hk : ¬ k < h.length := fun z => hd (decide_eq_true z)
                obtain ⟨st, sr, kp⟩ := freeze s t s' hb e hk ev
                have hl := congrArg List.length e4
                simp only [List.length_map] at hl
                exact p _ _ H' _ st sr (.dic (vs := kws.map (·.2)) upd_same (by rw [← e4]; exact zip_parts) (by simp only [List.length_map]; exact hl.symm) ((rv.cut hds).up (fun _ _ e => e) kp))
            · exact p ρ' P' H' v t s' w
          · rename_i kvs ek
            split at p
            · rename_i hds
              cases w with
              | loc e =>
                rename_i a
                obtain ⟨o, eo, r⟩ := s'.here e
                rw [ek] at eo
                cases eo
                obtain ⟨xs, ev, e4, nk, rv⟩ := r
                have hk : ¬ k < h.length := fun z => hd (decide_eq_true z)
                obtain ⟨st, sr, kp⟩ := freeze s t s' hb e hk ev
                exact p _ _ H' _ st sr (.nd (xs := xs) upd_same e4 rfl (fun x hx => (nk x hx).up kp) ((rv.cut hds).up (fun _ _ e => e) kp))
            · exact p ρ' P' H' v t s' w
          · exact p ρ' P' H' v t s' w
        · exact p ρ' P' H' v t s' w
    · exact p ρ' P' H' v t s' w
theorem re_start {N : List Str} {ds : List D} {vs : List V} (r : RepL K ρ P ds vs) : RE K ρ P (initE N.length ds) (L2.start N vs) := by
  have hl := r.length
  refine ⟨by unfold initE L2.start; simp [hl], fun i d e => ?_⟩
  unfold initE at e
  by_cases hi : i < ds.length
  · rw [List.getElem?_append_left (by simpa using hi), List.getElem?_map] at e
    cases q : ds[i]? with
    | none => rw [q] at e; cases e
    | some d' =>
      rw [q] at e
      cases e
      obtain ⟨v, ev, rv⟩ := r.get q
      refine ⟨v, ?_, rv⟩
      unfold L2.start
      rw [List.getElem?_append_left (by simp [hl]; exact hi), List.getElem?_map, ev]
      rfl
  · rw [List.getElem?_append_right (by simpa using hi), List.getElem?_replicate] at e
    split at e <;> cases e
/-- the promise of a def that computes F -/
def spD (K : PySem.W.Frag) (n : Nat) (F : Fn) : Sp := fun vs H Q E => vs.length = n ∧ ∃ ρ P h ds, SR K ρ P H h ∧ RepL K ρ P ds vs ∧ Post K (RV K) E ρ P H Q (F ds h)
def mCall (n : Nat) (F : Fn) (m : M (List D)) : M D := fun env h => (m env h).bind fun ds h1 => if ds.length = n then F ds h1 else .bad
theorem sd_call {n : Nat} {F : Fn} {t : TA} {m : M (List D)} (ha : Sd K (RVs K) E t m) : Sd K (RV K) E (tCall (spD K n F) [] E t) (mCall n F m) := fun ρ P σ H env h s re Q p =>
  ha ρ P σ H env h s re _ (Post.bind p fun a h1 ρ1 P1 H1 v t1 s1 w1 p1 => by
    split at p1
    · rename_i hl
      show spD K n F (v ++ []) H1 Q E
      rw [List.append_nil]
      exact ⟨by rw [w1.length]; exact hl, ρ1, P1, h1, a, s1, w1, p1⟩
    · exact p1.elim)
/-- keywords: the values put into the parameters' order -/
def mCallK (n : Nat) (F : Fn) (g : List D → List D → List D) (m mk : M (List D)) : M D := fun env h => (m env h).bind fun ds h1 => (mk env h1).bind fun es h2 => if (g ds es).length = n then F (g ds es) h2 else .bad
end
/-! ### a judgement of the text and its computation -/
def JB (X : Cx) (E : XK) (s : List Stmt) (m : MS) : Prop := ∃ t, PSs X s t ∧ SdS X.K E t m
section
variable {P : Program} {w : World} {K : PySem.W.Frag} {mg : Str → Option Value} {base : Heap} {x qual : Str} {params : Arguments} {body : List Stmt} {scope : Scope} {dvs : List V} {kws : List (Str × V)} {f : Addr} {fd : FuncData} {N ps : List Str} {k : Nat} {m : MS}
theorem bodyR0_ok {E' E : XK} {ρ : Ro} {Pp H : Hp} {Q : VK} {r : SS} (p : Post K (RV K) E ρ Pp H Q (bodyR0 r)) : PostS K E' ρ Pp H { nx := fun _ H' => Q .non H', rt := Q } r := by
  cases r with
  | nx env h => exact fun ρ' P' H' σ' t s r => p ρ' P' H' .non t s .non
  | rt d h => exact p
  | bk env h => exact p.elim
  | ct env h => exact p.elim
  | exc x fs h => exact p.elim
  | bad => exact p.elim
end
end Ab

namespace Ab
open PySem PySem.Spec L2
/-! A def's promise where no repr is under way around (guards known): for defs that ask repr of containers. -/
structure FnG (P : Program) (w : World) (K : PySem.W.Frag) (mg : Str → Option Value) (base : Heap) (CX : CXT) (k : Nat) (f : Addr) (fd : FuncData) (ps : List Str) (sp : Sp) : Prop where
  len : ∀ vs H Q E, sp vs H Q E → vs.length = ps.length
  go : ∀ (A : Around) (outer : List PySem.Env) (s : Shared) (H : Hp) (args : Args) (us : List Value) (vs : List V) (Q : VK) (E : XK),
    Room k A ∧ A.guards = some [] → Env0 P w K mg base A outer s H → BindsTo s fd args (ps.zip us) → Vals vs us → sp vs H Q E →
    codeAny (model P w) A (.call (.ref f) args) (CR CX outer P w H s Q E) s
theorem FnG.of {P : Program} {w : World} {K : PySem.W.Frag} {mg : Str → Option Value} {base : Heap} {CX : CXT} {k : Nat} {f : Addr} {fd : FuncData} {ps : List Str} {sp : Sp} (F : FnOk P w K mg base CX k f fd ps sp) : FnG P w K mg base CX k f fd ps sp :=
  ⟨F.len, fun A o s H a us vs Q E hr e0 hb r h => F.run A o s H a us vs Q E hr.1 e0 hb r h⟩
theorem FnG.mono {P : Program} {w : World} {K : PySem.W.Frag} {mg : Str → Option Value} {base : Heap} {CX : CXT} {j k : Nat} {f : Addr} {fd : FuncData} {ps : List Str} {sp : Sp} (F : FnG P w K mg base CX j f fd ps sp) (h : j ≤ k) : FnG P w K mg base CX k f fd ps sp :=
  ⟨F.len, fun A o s H a us vs Q E hr e0 hb r q => F.go A o s H a us vs Q E ⟨hr.1.mono h, hr.2⟩ e0 hb r q⟩
theorem cr_up {CX : CXT} {P : Program} {w : World} {outer : List PySem.Env} {H : Hp} {s : Shared} {Q : VK} {E : XK} {r : Result} {s' : Shared} (h : CR CX0 outer P w H s Q E r s') : CR CX outer P w H s Q E r s' := by
  cases r with
  | error e => exact (show False from h).elim
  | ok f => cases f <;> exact h
theorem FnG.up {CX : CXT} {P : Program} {w : World} {K : PySem.W.Frag} {mg : Str → Option Value} {base : Heap} {k : Nat} {f : Addr} {fd : FuncData} {ps : List Str} {sp : Sp} (F : FnG P w K mg base CX0 k f fd ps sp) : FnG P w K mg base CX k f fd ps sp :=
  ⟨F.len, fun A o s H a us vs Q E hr e0 hb r h => codeAny_mono (F.go A o s H a us vs Q E hr e0 hb r h) fun _ _ z => cr_up z⟩
/-- nothing is let out -/
theorem passE {X : Cx} : Passes (L2.CX X.prog X.w) X E0 := fun _ _ _ _ _ _ _ z => by
  obtain ⟨_, _, _, _, _, _, _, _, _, _, _, _, z⟩ := z
  exact (show False from z).elim
/-- all is let out -/
theorem passX {X : Cx} {E : XK} {E₁ : Value → Shared → Prop} (hs : X.stack = X.env :: X.outer := by rfl) (hf : X.env.frame = some X.env.locals := by rfl) (hex : X.ex = [] := by rfl)
    (hx : X.xe = fun e s' => wpAny (model X.prog X.w) X.A (leaving X.env e) (fun _ s'' => L2.CX X.prog X.w X.outer X.H_0 X.s_0 E e s'') E₁ s' := by rfl) : Passes (L2.CX X.prog X.w) X E := L2.passes_call (L2.takes_of (E := E) hs hf hex hx) fun _ _ _ _ h => h
section
variable {P : Program} {w : World} {K : PySem.W.Frag} {mg : Str → Option Value} {base : Heap} {x qual : Str} {params : Arguments} {body : List Stmt} {scope : Scope} {dvs : List V} {kws : List (Str × V)} {f : Addr} {fd : FuncData} {N ps : List Str} {k : Nat} {m : MS}
/-- a def by its body, the guards known -/
theorem FunD.okG {CX : CXT} {sp : Sp} (F : FunD K x qual params body scope dvs kws f fd) (S : FnScope N ps scope) (len : ∀ vs H Q E, sp vs H Q E → vs.length = ps.length)
    (hbody : ∀ (cdv : Value) (A : Around) (outer : List PySem.Env) (s : Shared) (H : Hp) (vs : List V) (Q : VK) (E : XK), Room k (A.deeper (PyProof.Rows.envOfC qual scope s.heap.objs.size f cdv)) → A.guards = some [] → sp vs H Q E →
      ∃ t, PSs (cxOf CX P w K mg base N qual scope f cdv A outer s H E) body t ∧ t { nx := fun _ H' => Q .non H', rt := Q } (L2.start N vs) H) : FnG P w K mg base CX (k + 1) f fd ps sp := by
  obtain ⟨oc, od, dV, kV, doc, pm, an, cdv, ct, osl, rfl, lk, hcd, _, _⟩ := F.ex
  refine ⟨len, fun A outer s H args us vs Q E hr e0 hb r hsp => ?_⟩
  refine StX.run_bnd lk hcd S hr.1 e0 (G := fun vs' H' => vs' = vs ∧ H' = H) (fun A' Ex Q' h => ?_) fun s2 H2 vs' g hr' => ?_
  · exact hb _ _ _ _ (h s H vs us e0 Un.refl rfl (fun _ _ z => z) r (len _ _ _ _ hsp) ⟨rfl, rfl⟩)
  · obtain ⟨rfl, rfl⟩ := g
    exact hbody cdv A outer s2 _ _ Q E hr' hr.2 hsp
theorem fn_okKG (F : FunD K x qual params body scope dvs kws f fd) (S : FnScope N ps scope)
    (hb : ∀ (cdv : Value) (A : Around) (outer : List PySem.Env) (s : Shared) (H : Hp) (E : XK), Room k (A.deeper (PyProof.Rows.envOfC qual scope s.heap.objs.size f cdv)) → A.guards = some [] → JB (cxOf CX0 P w K mg base N qual scope f cdv A outer s H E).nox E0 body m) :
    FnG P w K mg base (L2.CX P w) (k + 1) f fd ps (spD K ps.length (mFnK N.length m)) := by
  refine FnG.up ?_
  refine FunD.okG F S (fun vs H Q E h => h.1) fun cdv A outer s H vs Q E hr hg h => ?_
  obtain ⟨t, ht, hs⟩ := hb cdv A outer s H E hr hg
  obtain ⟨_, ρ, Pp, h0, ds, sr, rl, p⟩ := h
  exact ⟨t, ht.nox, hs ρ Pp _ H _ h0 sr (re_start rl) _ (bodyR0_ok p)⟩
theorem fn_okTG (F : FunD K x qual params body scope dvs kws f fd) (S : FnScope N ps scope)
    (hb : ∀ (cdv : Value) (A : Around) (outer : List PySem.Env) (s : Shared) (H : Hp) (E : XK), Room k (A.deeper (PyProof.Rows.envOfC qual scope s.heap.objs.size f cdv)) → A.guards = some [] → JB (cxOf CX0 P w K mg base N qual scope f cdv A outer s H E).nox E0 body m) :
    FnG P w K mg base (L2.CX P w) (k + 1) f fd ps (spD K ps.length (mFnT N.length m)) := by
  refine FnG.up ?_
  refine FunD.okG F S (fun vs H Q E h => h.1) fun cdv A outer s H vs Q E hr hg h => ?_
  obtain ⟨t, ht, hs⟩ := hb cdv A outer s H E hr hg
  obtain ⟨_, ρ, Pp, h0, ds, sr, rl, p⟩ := h
  exact ⟨t, ht.nox, hs ρ Pp _ H _ h0 sr (re_start rl) _ (bodyR0_ok (post_exit sr p))⟩
end
/-! ### calls -/
section
variable {X : Cx} {CX : CXT} {k : Nat} {f C : Addr} {fd : FuncData} {ps ks : List Str} {sp : Sp} {E : XK} {x : Str} {p pos : Pos} {e : Expr} {es : List Expr} {t tk : TA} {kws : List Keyword}
theorem cr_ok {pins : List (Addr × Obj)} {σ : L2.St} {H : Hp} {s s' : Shared} {Q : VK} {r : Result} (I : Inv X pins σ H s) (hx : Passes CX X E) (h : CR CX X.stack X.prog X.w H s Q E r s') :
    match (generalizing := true) r with
    | .error e => X.xe e s'
    | .ok (.ret u) => EP X pins σ Q u s'
    | .ok _ => False := by
  cases r with
  | error e => exact hx pins σ H s e s' I h
  | ok fl => cases fl <;> first | exact I.after h | exact h
theorem run_g {pins : List (Addr × Obj)} {σ : L2.St} {H : Hp} {s : Shared} {Q : VK} {us us' : List Value} {vs : List V} {kw : List (Str × Value)} (F : FnG X.prog X.w X.K X.mg X.base CX k f fd ps sp) (hr : Room k X.A) (hg : X.A.guards = some []) (hx : Passes CX X E)
    (I : Inv X pins σ H s) (hb : us'.length = ps.length → BindsTo s fd ⟨us, kw⟩ (ps.zip us')) (r : Vals vs us') (h : sp vs H Q E) : wpAny (model X.prog X.w) X.A (call (.ref f) us kw) (EP X pins σ Q) X.xe s := by
  refine wpAny_call (codeAny_mono (F.go X.A X.stack s H ⟨us, kw⟩ us' vs Q E ⟨hr, hg⟩ I.env0 (hb (by rw [← r.length]; exact F.len _ _ _ _ h)) r h) fun r s' hq => ?_)
  have z := cr_ok I hx hq
  cases r with
  | error e => exact z
  | ok fl => cases fl <;> first | exact z | exact z.elim
theorem pe_callG (F : FnG X.prog X.w X.K X.mg X.base CX k f fd ps sp) (hr : Room k X.A) (hgu : X.A.guards = some []) (hg : Gl X x) (hm : X.mg x = some (.ref f)) (hk : PySem.W.keepIn X.K (.ref f) = true) (hb : Binds X.K fd ps []) (hx : Passes CX X E) (ha : PA X (e :: es) t)
    (hdb : (x == ("__debug__" : Str)) = false := by decide) (he : starEach (e :: es) X.env = (false, eval e X.env) :: starEach es X.env := by rfl) (hpl : (backTo pos (starEach es X.env)).any (·.1) = false := by rfl) : PE X (.Call (.Name x p) (e :: es) [] pos) (tCall sp [] E t) :=
  ⟨fun pins s σ H Q I h => wpAny_Call_Name_kw (ld_glob I hg hm (PySem.W.callWith_K (h₀ := X.base) I.ok.mod.kin hk (thn (ha.run pos pins s σ H _ I h) fun us s1 z => by
    obtain ⟨vs, H1, I1, r, q⟩ := z
    rw [List.append_nil] at q
    refine ⟨I1.kIn, run_g F hr hgu hx I1 (fun hl => ?_) r q⟩
    have hb1 := hb s1 us I1.kIn (by rw [List.append_nil]; exact hl)
    rw [List.append_nil] at hb1
    exact hb1) he hpl) hdb)⟩
/-- keywords alone -/
theorem pe_callKG0 {g : List Value → List Value → List Value} {gV : List V → List V → List V} (F : FnG X.prog X.w X.K X.mg X.base CX k f fd ps sp) (hr : Room k X.A) (hgu : X.A.guards = some []) (hg : Gl X x) (hm : X.mg x = some (.ref f)) (hk : PySem.W.keepIn X.K (.ref f) = true)
    (hb : KBinds X.K fd ps ks g gV) (hx : Passes CX X E) (hkw : PK X kws tk) (hall : (backToKw pos (keywordEach kws X.env)).all (·.1.isSome) = true := by rfl) (hks : (backToKw pos (keywordEach kws X.env)).filterMap (·.1) = ks := by rfl)
    (hdb : (x == ("__debug__" : Str)) = false := by decide) (hpl : ((backTo pos (starEach [] X.env)).any (·.1) || (backToKw pos (keywordEach kws X.env)).any (·.1.isNone)) = false := by rfl) : PE X (.Call (.Name x p) [] kws pos) (tCallK sp gV E tNil tk) :=
  ⟨fun pins s σ H Q I h => wpAny_Call_Name_kw (ld_glob I hg hm (PySem.W.callWith_KW0 (h₀ := X.base) I.ok.mod.kin hk hall (thn (hkw.run pos pins s σ H _ I h) fun ws s1 z => by
    obtain ⟨zs, H1, I1, r, q⟩ := z
    rw [hks]
    exact ⟨I1.kIn, run_g (us := []) F hr hgu hx I1 (fun hl => hb.to s1 [] ws I1.kIn hl) (hb.rel .nil r) q⟩) hpl) hdb)⟩
end
/-! ### the law's own call -/
section
variable {P : Program} {w : World} {K : PySem.W.Frag} {mg mb : Str → Option Value} {k : Nat} {fa a : Addr} {fd : FuncData} {x : Str} {sp : Sp} {s₁ : Shared} {vs : List Value} {ns : List Int}
/-- the script as the abstract heap has it: a known list, or (where the module's own part holds it) nothing -/
def scriptHp (K : PySem.W.Frag) (a : Addr) (vs : List Value) (ns : List Int) : Hp := fun b =>
  if b = a ∧ K.lookup a = none then some (.frz { cls := .type "list", data := .seq vs.toArray } (.lst (ns.map V.int))) else if b ∈ (tabsOf K).map (·.1) then some (.tbl #[]) else none
theorem scriptHp_some {b : Addr} {u : HO} (e : scriptHp K a vs ns b = some u) : (b = a ∧ K.lookup a = none ∧ u = .frz { cls := .type "list", data := .seq vs.toArray } (.lst (ns.map V.int))) ∨ (b ∈ (tabsOf K).map (·.1) ∧ u = .tbl #[]) := by
  unfold scriptHp at e
  by_cases z : b = a ∧ K.lookup a = none
  · rw [if_pos z] at e; cases e; exact .inl ⟨z.1, z.2, rfl⟩
  · rw [if_neg z] at e
    by_cases y : b ∈ (tabsOf K).map (·.1)
    · rw [if_pos y] at e; cases e; exact .inr ⟨y, rfl⟩
    · rw [if_neg y] at e; cases e
theorem law_callG (KX : K.In s₁.heap) (hns : s₁.heap.Ns mainGlobals mg) (hb : s₁.heap.Ns builtinsNs mb) (hbb : ∀ x : Str, x ≠ "__name__" → mb x = bootBuiltins x) (hlim : s₁.heap.NoLimit) (hg : s₁.gens = #[])
    (hT : ∀ p ∈ tabs3 K, s₁.heap.get? p.2.1 = some { cls := .none, data := .fields #[] } ∧ PySem.W.CodeHd s₁.heap p.1 p.2.1)
    (hbm : ∃ (bm : Addr) (ob : Obj), mg "__builtins__" = some (.ref bm) ∧ bm ≠ builtinsNs ∧ s₁.heap.get? bm = some ob ∧ ob.cls = .type "module" ∧ ob.dict = some builtinsNs ∧ ob.data = .plain) (ha : s₁.heap.get? a = some { cls := .type "list", data := .seq vs.toArray }) (hi : PyProof.Rows.IntsAre vs ns) (hl : ns.length ≤ sizeLine) (hr : Room k callerA)
    (F : ∀ base : Heap, K.In base → base.Ns mainGlobals mg → (∀ p ∈ tabs3 K, LamX.TabB base mg p.1 p.2.1) → FnG P w K mg base (L2.CX P w) k fa fd [x] sp) (hbind : ∀ (s : Shared) (u : Value), BindsTo s fd ⟨[u], []⟩ [(x, u)])
    (hsp : ∀ H : Hp, LamX.Tabs (tabsOf K) H → (∀ b u, H b = some u → (∃ o, u = .frz o (.lst (ns.map V.int))) ∨ (b ∈ (tabsOf K).map (·.1) ∧ ∃ ps, u = .tbl ps)) → SqL K H a (ns.map V.int) → sp [.ref a] H (fun v _ => v = .bl true) fun _ _ _ => False) :
    codeAny (model P w) callerA (.call (.ref fa) ⟨[.ref a], []⟩) (fun r s' => r = .ok (.ret (.bool true)) ∧ OldK s₁.heap s'.heap ∧ s'.os = s₁.os ∧ PyProof.Rows.AllBare s'.gens) s₁ := by
  have rv := vals_ints hi
  have tab : ∀ {b : Addr}, b ∈ (tabsOf K).map (·.1) → K.lookup b = none ∧ s₁.heap.get? b = some { cls := .none, data := .fields #[] } := fun {b} hb => by
    obtain ⟨p, hp, e⟩ := List.mem_map.mp hb
    obtain ⟨p3, hp3, e3⟩ := List.mem_map.mp hp
    subst e3
    subst e
    exact ⟨tabs3_none K hp3, (hT p3 hp3).1⟩
  have hok : HOk P w (scriptHp K a vs ns) s₁.heap := fun b u e => by
    rcases scriptHp_some e with ⟨rfl, _, rfl⟩ | ⟨hb, rfl⟩
    · exact ⟨ha, by rw [List.length_map]; exact hl, vs, _, rv, ha⟩
    · exact (tab hb).2
  -- a namespace, a written thing is not the script
  have free : ∀ {b : Addr} {o : Obj}, s₁.heap.get? b = some o → ((∀ q n, o.data ≠ .seq q n) ∧ o.data ≠ .fields #[]) ∨ K.lookup b = some o → scriptHp K a vs ns b = none := fun {b o} e z => by
    cases q : scriptHp K a vs ns b with
    | none => rfl
    | some u =>
      rcases scriptHp_some q with ⟨rfl, kn, _⟩ | ⟨hb, _⟩
      · rcases z with z | z
        · rw [ha] at e; cases e; exact absurd rfl (z.1 _ _)
        · rw [kn] at z; cases z
      · rcases z with z | z
        · rw [(tab hb).2] at e; cases e; exact absurd rfl z.2
        · rw [(tab hb).1] at z; cases z
  have nsK : ∀ {b : Addr} {m : Str → Option Value}, s₁.heap.Ns b m → (hidT s₁.heap (scriptHp K a vs ns)).Ns b m := fun {b m} n => by
    obtain ⟨o, es, ep, e, d, r⟩ := n
    exact ⟨o, es, ep, hidT_get e (free e (.inl ⟨fun q n z => (by rw [d] at z; cases z), fun z => by rw [d] at z; cases z⟩)), d, r⟩
  have hKb : K.In (hidT s₁.heap (scriptHp K a vs ns)) := fun b o e => hidT_get (KX b o e) (free (KX b o e) (.inr e))
  have e0 : Env0 P w K mg (hidT s₁.heap (scriptHp K a vs ns)) callerA [] s₁ (scriptHp K a vs ns) := by
    refine ⟨rfl, ⟨hKb, nsK hns, ⟨mb, nsK hb, hbb⟩, ?_⟩, fun b o e => of_hidT e, Nat.le_of_eq (hidT_size _ _), trivial, fun b hb => ?_, hok, .of_eq hg⟩
    · obtain ⟨mc, h1, h2⟩ := hlim
      exact ⟨mc, nsK h1, h2⟩
    · cases (show b ∈ ([] : List Addr) from hb)
  have hS : SqL K (scriptHp K a vs ns) a (ns.map V.int) := by
    cases q : K.lookup a with
    | none => exact .inl (.inr ⟨_, if_pos ⟨rfl, q⟩⟩)
    | some o =>
      have e := KX a o q
      rw [ha] at e
      cases e
      exact .inr ⟨_, vs.toArray, _, q, rfl, rfl, rfl, by rw [List.size_toArray, hi.length]; exact hl, by simpa using rv⟩
  have TB : ∀ p ∈ tabs3 K, LamX.TabB (hidT s₁.heap (scriptHp K a vs ns)) mg p.1 p.2.1 := fun p hp => by
    obtain ⟨hTp, hC⟩ := hT p hp
    refine ⟨?_, ?_, fun z => ?_⟩
    · obtain ⟨o, us, file, tf, flags, tg, inF, text, tt, e1, r1, r2, r3, r4, r5, r6, r7, r8, hne⟩ := hC
      refine ⟨o, us, file, tf, flags, tg, inF, text, tt, hidT_get e1 (free e1 (.inl ⟨fun q n z => (by rw [r2] at z; cases z), fun z => ?_⟩)), r1, r2, r3, r4, r5, r6, r7, r8, hne⟩
      rw [r2] at z
      cases z
      simp at r3
    · obtain ⟨bm, ob, b1, b2, b3, b4, b5, b6⟩ := hbm
      have nG : bm ≠ mainGlobals := fun q => by
        obtain ⟨o, es, ep, e, hd, _⟩ := hns
        rw [q, e] at b3
        cases b3
        rw [hd] at b6
        cases b6
      have nP : bm ≠ p.2.1 := fun q => by
        rw [q, hTp] at b3
        cases b3
        cases b6
      exact ⟨bm, ob, b1, b2, nG, nP, hidT_get b3 (free b3 (.inl ⟨fun q n z => (by rw [b6] at z; cases z), fun z => by rw [b6] at z; cases z⟩)), b4, b5, b6⟩
    · obtain ⟨o, es, ep, e, hd, _⟩ := hns
      rw [z, hTp] at e
      cases e
      cases hd
  have hTab : LamX.Tabs (tabsOf K) (scriptHp K a vs ns) := fun p hp => by
    refine LamX.TabS.nil ?_
    have hb : p.1 ∈ (tabsOf K).map (·.1) := List.mem_map.mpr ⟨p, hp, rfl⟩
    have ne : ¬ (p.1 = a ∧ K.lookup a = none) := fun z => by
      have y := (tab hb).2
      rw [z.1, ha] at y
      have y' : Data.seq vs.toArray _ = Data.fields #[] := congrArg Obj.data (Option.some.inj y)
      cases y'
    unfold scriptHp
    rw [if_neg ne, if_pos hb]
  refine codeAny_mono ((F _ hKb (nsK hns) TB).go callerA [] s₁ (scriptHp K a vs ns) ⟨[.ref a], []⟩ [.ref a] [.ref a] _ _ ⟨hr, rfl⟩ e0 (hbind s₁ (.ref a)) (.cons rfl .nil)
    (hsp _ hTab (fun b u e => (scriptHp_some e).imp (fun z => ⟨_, z.2.2⟩) fun z => ⟨z.1, _, z.2⟩) hS)) fun r s' h => ?_
  have h : CR (L2.CX P w) [] P w (scriptHp K a vs ns) s₁ (fun v _ => v = .bl true) (fun _ _ _ => False) r s' := h
  cases r with
  | error e =>
    obtain ⟨_, _, _, _, _, _, _, _, _, _, _, _, z⟩ := (show L2.CX P w _ _ _ _ _ _ from h)
    exact (show False from z).elim
  | ok fl =>
    cases fl with
    | next => exact h.elim
    | brk => exact h.elim
    | cont => exact h.elim
    | ret u =>
      obtain ⟨v, H', os, bare, un, hok', r', q⟩ := h
      have q : v = .bl true := q
      subst q
      obtain rfl : u = Value.bool true := r'
      have nb : ∀ b, b ∉ frs ([] : List PySem.Env) := fun b z => by cases (show b ∈ ([] : List Addr) from z)
      have key : ∀ b o, b ∉ (tabsOf K).map (·.1) → s₁.heap.get? b = some o → s'.heap.get? b = some o := fun b o hb e => by
        cases q : scriptHp K a vs ns b with
        | none => exact un.keep b o e q (nb b) (fun z => by cases z)
        | some u =>
          rcases scriptHp_some q with ⟨rfl, _, rfl⟩ | ⟨y, _⟩
          · have e2 := (hok' b _ (un.frzs b _ _ q)).1
            rw [ha] at e
            cases e
            exact e2
          · exact absurd y hb
      have grown : ∀ p ∈ tabs3 K, ∃ more : Array Value, s'.heap.get? p.2.1 = some { cls := .none, data := .fields more } := fun p hp => by
        obtain ⟨ps, e1, e2, e3⟩ := hTab p.2 (List.mem_map.mpr ⟨p, hp, rfl⟩)
        obtain ⟨more, z⟩ := un.tbls p.2.1 ps e1
        exact ⟨_, hok' p.2.1 _ z⟩
      have mem3 : ∀ b, b ∈ (tabsOf K).map (·.1) → ∃ p ∈ tabs3 K, p.2.1 = b := fun b hb => by
        obtain ⟨p, hp, e⟩ := List.mem_map.mp hb
        obtain ⟨p3, hp3, e3⟩ := List.mem_map.mp hp
        subst e3
        exact ⟨p3, hp3, e⟩
      refine ⟨rfl, ⟨fun b o e => ?_, fun b o e => ?_⟩, os, bare⟩
      · by_cases hb : b ∈ (tabsOf K).map (·.1)
        · obtain ⟨p, hp, ep⟩ := mem3 b hb
          obtain ⟨more, hm⟩ := grown p hp
          rw [← ep] at e ⊢
          rw [(hT p hp).1] at e
          cases e
          exact .inr (.inl ⟨((hT p hp).2.tab (hT p hp).1).isCodeTable, rfl, #[], more, rfl, by rw [Array.empty_append]; exact hm⟩)
        · exact .inl (key b o hb e)
      · by_cases hb : b ∈ (tabsOf K).map (·.1)
        · obtain ⟨p, hp, ep⟩ := mem3 b hb
          obtain ⟨more, hm⟩ := grown p hp
          rw [← ep]
          exact ⟨_, hm⟩
        · exact ⟨o, key b o hb e⟩
theorem walk_G {l : PySem.W.OpenLaw} {n k : Nat} {q : Program} {loose : List Str} {XP : (Str → Option Value) → Heap → Prop} {YP : World → Heap → Prop} {d : DefRec} {x : Str}
    (hn : l.most = some n) (hn2 : n ≤ sizeLine) (hdf : d.params.defaults = []) (hr : Room k callerA)
    (F : ∀ (w : World) (mg : Str → Option Value) (fa : Addr) (h : Heap), YP w h → h.Ns mainGlobals mg → mg d.name = some (.ref fa) →
      ∃ (K : PySem.W.Frag) (fd : FuncData) (sp : Sp), K.In h ∧ (∀ (s : Shared) (u : Value), BindsTo s fd ⟨[u], []⟩ [(x, u)]) ∧
        (∀ (H : Hp) (a : Addr) (ns : List Int), ns.length ≤ n → LamX.Tabs (tabsOf K) H → (∀ b u, H b = some u → (∃ o, u = .frz o (.lst (ns.map V.int))) ∨ (b ∈ (tabsOf K).map (·.1) ∧ ∃ ps, u = .tbl ps)) → SqL K H a (ns.map V.int) → sp [.ref a] H (fun v _ => v = .bl true) fun _ _ _ => False) ∧
        (∀ p ∈ tabs3 K, h.get? p.2.1 = some { cls := .none, data := .fields #[] } ∧ PySem.W.CodeHd h p.1 p.2.1) ∧
        ∀ base : Heap, K.In base → base.Ns mainGlobals mg → (∀ p ∈ tabs3 K, LamX.TabB base mg p.1 p.2.1) → FnG l.prog w K mg base (L2.CX l.prog w) k fa fd [x] sp) :
    PySem.W.WalkO q loose XP YP l.row.toRowW d [] (fun f vs => PySem.call f vs) := by
  refine Att.attach_call hn hdf fun w s₀ s₁ mg mb fa o pm cd doc a vs ns G Y ho hd hcd hmg hobj hints hlen hg => ?_
  obtain ⟨K, fd, sp, KX, hb, hsp, hT, hF⟩ := F w mg fa _ Y G.T.g hmg
  exact law_callG KX G.T.g G.T.b G.T.builtins G.T.nolimit hg hT G.T.bmain hobj hints (Nat.le_trans hlen hn2) hr hF hb fun H hTb hO hS => hsp H a ns hlen hTb hO hS
/-- the law's promise, by what it computes -/
theorem sp_law {F : Fn} (h : ∀ ns : List Int, ns.length ≤ 63 → ∃ h', F [.scr (ns.map D.int)] [] = .ok (.bl true) h') (H : Hp) (a : Addr) (ns : List Int) (hl : ns.length ≤ 63) (hT : LamX.Tabs (tabsOf K) H)
    (hO : ∀ b u, H b = some u → (∃ o, u = .frz o (.lst (ns.map V.int))) ∨ (b ∈ (tabsOf K).map (·.1) ∧ ∃ ps, u = .tbl ps)) (hS : SqL K H a (ns.map V.int)) :
    spD K 1 F [.ref a] H (fun v _ => v = .bl true) fun _ _ _ => False := by
  obtain ⟨h', e⟩ := h ns hl
  have hP : ∀ b u, (fun b => match H b with
      | some (.tbl _) => none
      | o => o : Hp) b = some u → H b = some u := fun b u z => by
    dsimp only at z
    split at z
    · cases z
    · exact z
  have hN : ∀ b u, (fun b => match H b with
      | some (.tbl _) => none
      | o => o : Hp) b = some u → nT u = true := fun b u z => by
    dsimp only at z
    split at z
    · cases z
    · rename_i q
      cases u with
      | tbl ps => exact absurd z (q ps)
      | _ => rfl
  have hS' : SqL K (fun b => match H b with
      | some (.tbl _) => none
      | o => o) a (ns.map V.int) := by
    rcases hS with (z | ⟨o, z⟩) | z
    · exact .inl (.inl (by dsimp only; rw [z]))
    · exact .inl (.inr ⟨o, by dsimp only; rw [z]⟩)
    · exact .inr z
  refine ⟨rfl, fun _ => none, fun b => match H b with
      | some (.tbl _) => none
      | o => o, [], [.scr (ns.map D.int)], ⟨fun b u z _ => hP b u z, fun b u z => .inl (hP b _ z), fun n a e => (by cases e), fun n m a e => (by cases e), fun n o e => (by simp at e), fun _ _ => rfl, hT, hN⟩, .cons (.scr hS' (RepL.ints ns)) .nil, ?_⟩
  rw [e]
  intro ρ' P' H' v t s w
  cases w
  rfl
end
end Ab

namespace Ab
open PySem PySem.Spec L2
/-! ### plain data -/
mutual
def toPy0 : D → Option PyData
  | .non => some .none
  | .bl b => some (.bool b)
  | .int i => some (.int i)
  | .str x => some (.str x)
  | .tup ds => (toPyL ds).map PyData.tuple
  | .lst ds => (toPyL ds).map PyData.list
  | .scr ds => (toPyL ds).map PyData.list
  | _ => none
def toPyL : List D → Option (List PyData)
  | [] => some []
  | d :: ds => match toPy0 d, toPyL ds with
    | some p, some ps => some (p :: ps)
    | _, _ => none
end
def toPy (h : AH) (d : D) : Option PyData := match d with
  | .loc n => (match h[n]? with
    | some (.lst ds) => (toPyL ds).map PyData.list
    | _ => none)
  | d => toPy0 d
section
variable {K : PySem.W.Frag} {E : XK} {ρ ρ' ρ1 : Ro} {P H P' H' P1 H1 : Hp}
mutual
theorem dp_of0 (sub : Sub P H) : ∀ {d : D} {v : V} {p : PyData}, Rep K ρ P d v → toPy0 d = some p → Dp K H v p
  | _, _, _, .non, e => by cases e; exact .non
  | _, _, _, .bl b, e => by cases e; exact .bl b
  | _, _, _, .int i, e => by cases e; exact .int i
  | _, _, _, .str x, e => by cases e; exact .str x
  | _, _, _, .glo x, e => by cases e
  | _, _, _, .ty x, e => by cases e
  | _, _, _, .loc x, e => by cases e
  | _, _, p, .tup (ds := ds) q r, e => by
    have e : (toPyL ds).map PyData.tuple = some p := e
    cases z : toPyL ds with
    | none => rw [z] at e; cases e
    | some ps => rw [z] at e; cases e; exact .tup (sqT_tk sub q) (dp_ofL sub r z)
  | _, _, p, .lst (ds := ds) q r, e => by
    have e : (toPyL ds).map PyData.list = some p := e
    cases z : toPyL ds with
    | none => rw [z] at e; cases e
    | some ps => rw [z] at e; cases e; exact .lst (.of (sub _ _ q rfl)) (dp_ofL sub r z)
  | _, _, p, .scr (ds := ds) q r, e => by
    have e : (toPyL ds).map PyData.list = some p := e
    cases z : toPyL ds with
    | none => rw [z] at e; cases e
    | some ps => rw [z] at e; cases e; exact .lst (sqL_s sub q) (dp_ofL sub r z)
theorem dp_ofL (sub : Sub P H) : ∀ {ds : List D} {vs : List V} {ps : List PyData}, RepL K ρ P ds vs → toPyL ds = some ps → DpAll K H vs ps
  | _, _, _, .nil, e => by cases e; exact .nil
  | _, _, ps, .cons (d := d) (ds := ds) a b, e => by
    have e : (match toPy0 d, toPyL ds with
      | some p, some ps => some (p :: ps)
      | _, _ => none) = some ps := e
    cases z : toPy0 d with
    | none => rw [z] at e; cases e
    | some p =>
      cases y : toPyL ds with
      | none => rw [z, y] at e; cases e
      | some qs => rw [z, y] at e; cases e; exact .cons (dp_of0 sub a z) (dp_ofL sub b y)
end
theorem dp_of {h : AH} {d : D} {v : V} {p : PyData} (s : SR K ρ P H h) (w : Rep K ρ P d v) (e : toPy h d = some p) : Dp K H v p := by
  cases w with
  | loc e1 =>
    obtain ⟨o, eo, r⟩ := s.here e1
    simp only [toPy, eo] at e
    cases o with
    | lst ds =>
      obtain ⟨vs, ev, rv⟩ := r
      simp only at e
      cases z : toPyL ds with
      | none => rw [z] at e; cases e
      | some ps => rw [z] at e; cases e; exact .lst (.of ev) (dp_ofL s.sub rv z)
    | dct kvs => cases e
    | ins c fs => cases e
    | ndt kvs => cases e
  | non => exact dp_of0 (ρ := ρ) s.sub (.non) e
  | bl b => exact dp_of0 (ρ := ρ) s.sub (.bl b) e
  | int i => exact dp_of0 (ρ := ρ) s.sub (.int i) e
  | str x => exact dp_of0 (ρ := ρ) s.sub (.str x) e
  | glo x => exact dp_of0 (ρ := ρ) s.sub (.glo x) e
  | obj _ _ _ _ => cases e
  | dic _ _ _ _ => cases e
  | nd _ _ _ _ _ => cases e
  | exv _ _ _ _ _ => cases e
  | fn _ => cases e
  | dk _ => cases e
  | dv _ _ _ _ => cases e
  | ty x => exact dp_of0 (ρ := ρ) s.sub (.ty x) e
  | tup q r => exact dp_of0 (ρ := ρ) s.sub (.tup q r) e
  | lst q r => exact dp_of0 (ρ := ρ) s.sub (.lst q r) e
  | scr q r => exact dp_of0 (ρ := ρ) s.sub (.scr q r) e
/-! ### operators -/
def lstD (d : D) (h : AH) : Option (List D) := match d with
  | .lst ds => some ds
  | .loc n => match h[n]? with
    | some (.lst ds) => some ds
    | _ => none
  | _ => none
theorem lstD_ok {h : AH} {d : D} {v : V} {ds : List D} (s : SR K ρ P H h) (w : Rep K ρ P d v) (e : lstD d h = some ds) : ∃ a vs, v = .ref a ∧ H a = some (.lst vs) ∧ RepL K ρ P ds vs := by
  cases w with
  | lst p q => cases e; exact ⟨_, _, rfl, s.sub _ _ p rfl, q⟩
  | loc e1 =>
    obtain ⟨o, e2, r⟩ := s.here e1
    simp only [lstD, e2] at e
    cases o with
    | lst es => cases e; obtain ⟨vs, e3, q⟩ := r; exact ⟨_, vs, rfl, e3, q⟩
    | dct kvs => cases e
    | ins c fs => cases e
    | ndt kvs => cases e
  | _ => cases e
def rAddU (K : PySem.W.Frag) : R2 := fun x y H Q => rI0 (fun i j => .int (i + j)) x y H Q ∨ (∃ i j, x = .str i ∧ y = .str j ∧ i.length + j.length ≤ sizeLine ∧ Q (.str (i ++ j)) H) ∨ rCatA K x y H Q
theorem op_addU {X : Cx} : OpR X (binaryOp .Add) (rAddU X.K) := op_add.or (op_add_str.or op_catA)
def addD : D → D → AH → R D
  | .int i, .int j, h => .ok (.int (i + j)) h
  | .str i, .str j, h => if i.length + j.length ≤ sizeLine then .ok (.str (i ++ j)) h else .bad
  | .tup xs, .tup ys, h => if xs.length + ys.length ≤ sizeLine then .ok (.tup (xs ++ ys)) h else .bad
  | _, _, _ => .bad
theorem os_add : OpS K E (rAddU K) addD := fun ρ P H h x y dx dy s wx wy Q p => by
  cases wx with
  | int i =>
    cases wy with
    | int j => exact .inl ⟨i, j, rfl, rfl, Post.here p s (.int _)⟩
    | _ => exact p.elim
  | str i =>
    cases wy with
    | str j =>
      have p : Post K (RV K) E ρ P H Q (if i.length + j.length ≤ sizeLine then .ok (.str (i ++ j)) h else .bad) := p
      split at p
      · rename_i hl; exact .inr (.inl ⟨i, j, rfl, rfl, hl, Post.here p s (.str _)⟩)
      · exact p.elim
    | _ => exact p.elim
  | tup q r =>
    cases wy with
    | tup q' r' =>
      rename_i a xs ds b ys es
      have p : Post K (RV K) E ρ P H Q (if ds.length + es.length ≤ sizeLine then .ok (.tup (ds ++ es)) h else .bad) := p
      split at p
      · rename_i hl
        refine .inr (.inr ⟨a, b, xs, ys, rfl, rfl, sqT_tk s.sub q, sqT_tk s.sub q', by rw [r.length, r'.length]; exact hl, fun e => ?_, fun _ e => ?_, fun _ _ => p.newT s (r.append r')⟩)
        · subst e; cases r; exact Post.here p s (.tup q' r')
        · subst e; cases r'; rw [List.append_nil] at p; exact Post.here p s (.tup q r)
      · exact p.elim
    | _ => exact p.elim
  | _ => exact p.elim
/-- two lists: a new one -/
def catD : D → D → AH → R (List D) := fun a b h => match lstD a h, lstD b h with
  | some xs, some ys => if xs.length + ys.length ≤ sizeLine then .ok (xs ++ ys) h else .bad
  | _, _ => .bad
def mBinF (f : D → D → AH → R (List D)) (ma mb : M D) : M (List D) := fun env h => (ma env h).bind fun a h1 => (mb env h1).bind fun b h2 => f a b h2
theorem sf_cat {ta tb : TE} {ma mb : M D} (ha : Sd K (RV K) E ta ma) (hb : Sd K (RV K) E tb mb) : SdF K E (tOp rCat ta tb) (mBinF catD ma mb) := fun ρ P σ H env h s re Q p =>
  ha ρ P σ H env h s re _ (PostF.bind p fun a h1 ρ1 P1 H1 v t1 s1 w1 p1 =>
    hb ρ1 P1 σ H1 env h1 s1 (re.step t1) _ (PostF.bind p1 fun b h2 ρ2 P2 H2 u t2 s2 w2 p2 => by
      unfold catD at p2
      cases ea : lstD a h2 with
      | none => rw [ea] at p2; exact p2.elim
      | some xs =>
        cases eb : lstD b h2 with
        | none => rw [ea, eb] at p2; exact p2.elim
        | some ys =>
          rw [ea, eb] at p2
          dsimp only at p2
          obtain ⟨a1, vs, rfl, q1, r1⟩ := lstD_ok s2 (w1.step t2) ea
          obtain ⟨b1, us, rfl, q2, r2⟩ := lstD_ok s2 w2 eb
          split at p2
          · rename_i hl
            exact ⟨a1, b1, vs, us, rfl, rfl, q1, q2, by rw [r1.length, r2.length]; exact hl, p2.newL s2 (r1.append r2)⟩
          · exact p2.elim))
/-- list * int -/
def repD : D → D → AH → R (List D) := fun a b h => match lstD a h, b with
  | some xs, .int k => if -(2 ^ 63) ≤ k ∧ k < 2 ^ 63 ∧ xs.length * k.toNat ≤ sizeLine then .ok (List.replicate k.toNat xs).flatten h else .bad
  | _, _ => .bad
theorem RepL.rep {ds : List D} {vs : List V} (r : RepL K ρ P ds vs) : ∀ k : Nat, RepL K ρ P (List.replicate k ds).flatten (List.replicate k vs).flatten
  | 0 => .nil
  | k + 1 => by
    rw [List.replicate_succ, List.replicate_succ, List.flatten_cons, List.flatten_cons]
    exact r.append (RepL.rep r k)
def subD : D → D → AH → R D
  | .int i, .int j, h => .ok (.int (i - j)) h
  | _, _, _ => .bad
theorem os_sub : OpS K E (rI0 fun i j => .int (i - j)) subD := fun ρ P H h x y dx dy s wx wy Q p => by
  cases wx with
  | int i =>
    cases wy with
    | int j => exact ⟨i, j, rfl, rfl, Post.here p s (.int _)⟩
    | _ => exact p.elim
  | _ => exact p.elim
@[irreducible] instance insCMul (i j : Int) : Decidable (CMul i j) := inferInstanceAs (Decidable ((-(2 ^ 64) < i ∧ i < 2 ^ 64) ∨ (-(2 ^ 64) < j ∧ j < 2 ^ 64)))
@[irreducible] instance insCMulW (i j : Int) : Decidable (CMulW i j) := inferInstanceAs (Decidable (_ < _))
def rMulU (K : PySem.W.Frag) : R2 := fun x y H Q => rI CMul (fun i j => .int (i * j)) x y H Q ∨ rI CMulW (fun i j => .int (i * j)) x y H Q ∨ rRepT K x y H Q
theorem op_mulU {X : Cx} : OpR X (binaryOp .Mult) (rMulU X.K) := op_mul.or (op_mulW.or op_repT)
def mulD : D → D → AH → R D
  | .int i, .int j, h => if CMul i j ∨ CMulW i j then .ok (.int (i * j)) h else .bad
  | .tup xs, .int k, h => if xs ≠ [] ∧ 2 ≤ k ∧ k ≤ 1000 ∧ xs.length ≤ 1000 then .ok (.tup (List.replicate k.toNat xs).flatten) h else .bad
  | _, _, _ => .bad
theorem os_mul : OpS K E (rMulU K) mulD := fun ρ P H h x y dx dy s wx wy Q p => by
  cases wx with
  | int i =>
    cases wy with
    | int j =>
      have p : Post K (RV K) E ρ P H Q (if CMul i j ∨ CMulW i j then .ok (.int (i * j)) h else .bad) := p
      split at p
      · rename_i hc
        rcases hc with hc | hc
        · exact .inl ⟨i, j, rfl, rfl, hc, Post.here p s (.int _)⟩
        · exact .inr (.inl ⟨i, j, rfl, rfl, hc, Post.here p s (.int _)⟩)
      · exact p.elim
    | _ => exact p.elim
  | tup q r =>
    rename_i a xs ds
    cases wy with
    | int k =>
      have p : Post K (RV K) E ρ P H Q (if ds ≠ [] ∧ 2 ≤ k ∧ k ≤ 1000 ∧ ds.length ≤ 1000 then .ok (.tup (List.replicate k.toNat ds).flatten) h else .bad) := p
      split at p
      · rename_i hc
        refine .inr (.inr ⟨a, k, xs, rfl, rfl, sqT_tk s.sub q, fun e => ?_, hc.2.1, hc.2.2.1, by rw [r.length]; exact hc.2.2.2, p.newT s (r.rep _)⟩)
        subst e; cases r; exact hc.1 rfl
      · exact p.elim
    | _ => exact p.elim
  | _ => exact p.elim
@[irreducible] instance insCDivW (i j : Int) : Decidable (CDivW i j) := inferInstanceAs (Decidable (_ ∧ _))
@[irreducible] instance insCDiv (i j : Int) : Decidable (CDiv i j) := inferInstanceAs (Decidable (_ ∧ _))
@[irreducible] instance insCPow (i j : Int) : Decidable (CPow i j) := inferInstanceAs (Decidable (_ ∧ _))
def rDivU : R2 := fun x y H Q => rI CDiv (fun i j => .int (i / j)) x y H Q ∨ rI CDivW (fun i j => .int (i / j)) x y H Q
theorem op_divU {X : Cx} : OpR X (binaryOp .FloorDiv) rDivU := op_fdiv.or op_fdivW
def divD : D → D → AH → R D
  | .int i, .int j, h => if CDiv i j ∨ CDivW i j then .ok (.int (i / j)) h else .bad
  | _, _, _ => .bad
theorem os_div : OpS K E rDivU divD := fun ρ P H h x y dx dy s wx wy Q p => by
  cases wx with
  | int i =>
    cases wy with
    | int j =>
      have p : Post K (RV K) E ρ P H Q (if CDiv i j ∨ CDivW i j then .ok (.int (i / j)) h else .bad) := p
      split at p
      · rename_i hc
        rcases hc with hc | hc
        · exact .inl ⟨i, j, rfl, rfl, hc, Post.here p s (.int _)⟩
        · exact .inr ⟨i, j, rfl, rfl, hc, Post.here p s (.int _)⟩
      · exact p.elim
    | _ => exact p.elim
  | _ => exact p.elim
def modD : D → D → AH → R D
  | .int i, .int j, h => if 0 < j then .ok (.int (i % j)) h else .bad
  | _, _, _ => .bad
theorem os_mod : OpS K E (rI (fun _ j => 0 < j) fun i j => .int (i % j)) modD := fun ρ P H h x y dx dy s wx wy Q p => by
  cases wx with
  | int i =>
    cases wy with
    | int j =>
      have p : Post K (RV K) E ρ P H Q (if 0 < j then .ok (.int (i % j)) h else .bad) := p
      split at p
      · rename_i hc; exact ⟨i, j, rfl, rfl, hc, Post.here p s (.int _)⟩
      · exact p.elim
    | _ => exact p.elim
  | _ => exact p.elim
def powD : D → D → AH → R D
  | .int i, .int j, h => if CPow i j then .ok (.int (i ^ j.toNat)) h else .bad
  | _, _, _ => .bad
theorem os_pow : OpS K E (rI CPow fun i j => .int (i ^ j.toNat)) powD := fun ρ P H h x y dx dy s wx wy Q p => by
  cases wx with
  | int i =>
    cases wy with
    | int j =>
      have p : Post K (RV K) E ρ P H Q (if CPow i j then .ok (.int (i ^ j.toNat)) h else .bad) := p
      split at p
      · rename_i hc; exact ⟨i, j, rfl, rfl, hc, Post.here p s (.int _)⟩
      · exact p.elim
    | _ => exact p.elim
  | _ => exact p.elim
/-- comparisons of ints -/
def cmpD (f : Int → Int → Bool) : D → D → AH → R D
  | .int i, .int j, h => .ok (.bl (f i j)) h
  | _, _, _ => .bad
theorem os_cmp {f : Int → Int → Bool} : OpS K E (rI0 fun i j => .bl (f i j)) (cmpD f) := fun ρ P H h x y dx dy s wx wy Q p => by
  cases wx with
  | int i =>
    cases wy with
    | int j => exact ⟨i, j, rfl, rfl, Post.here p s (.bl _)⟩
    | _ => exact p.elim
  | _ => exact p.elim
/-- -x -/
def negD : D → AH → R D
  | .int i, h => .ok (.int (-i)) h
  | _, _ => .bad
/-! == of data -/
def rEqU (K : PySem.W.Frag) : R2 := fun x y H Q => rEq x y H Q ∨ rEqD K x y H Q
def rNeU (K : PySem.W.Frag) : R2 := fun x y H Q => rNe x y H Q ∨ rNeD K x y H Q
theorem op_eqU {X : Cx} (hu : X.A.units + 64 < cLine) : OpR X (compareOp .Eq) (rEqU X.K) := op_eq.or (op_eqD hu)
theorem op_neU {X : Cx} (hu : X.A.units + 64 < cLine) : OpR X (compareOp .NotEq) (rNeU X.K) := op_ne.or (op_neD hu)
def eqB (a b : D) (h : AH) : Option Bool := match a, b with
  | .int i, .int j => some (decide (i = j))
  | .bl i, .bl j => some (decide (i = j))
  | .str i, .str j => some (decide (i = j))
  | a, b => match toPy h a, toPy h b with
    | some p, some q => if SeqAt.shaped p = true ∧ SeqAt.shaped q = true then some (PyData.eqv p q) else none
    | _, _ => none
theorem eqB_ok {h : AH} {a b : D} {x y : V} {k : Bool} (s : SR K ρ P H h) (wx : Rep K ρ P a x) (wy : Rep K ρ P b y) (e : eqB a b h = some k) :
    (scal x y = true ∧ decide (x = y) = k) ∨ ∃ p q, Dp K H x p ∧ Dp K H y q ∧ SeqAt.shaped p = true ∧ SeqAt.shaped q = true ∧ PyData.eqv p q = k := by
  have gen : (match toPy h a, toPy h b with
    | some p, some q => if SeqAt.shaped p = true ∧ SeqAt.shaped q = true then some (PyData.eqv p q) else none
    | _, _ => none) = some k → ∃ p q, Dp K H x p ∧ Dp K H y q ∧ SeqAt.shaped p = true ∧ SeqAt.shaped q = true ∧ PyData.eqv p q = k := fun e => by
    cases ea : toPy h a with
    | none => rw [ea] at e; cases e
    | some p =>
      cases eb : toPy h b with
      | none => rw [ea, eb] at e; cases e
      | some q =>
        rw [ea, eb] at e
        dsimp only at e
        split at e
        · rename_i hh; cases e; exact ⟨p, q, dp_of s wx ea, dp_of s wy eb, hh.1, hh.2, rfl⟩
        · cases e
  unfold eqB at e
  split at e
  · cases wx; cases wy; cases e; exact .inl ⟨rfl, by rw [dec_int]; rfl⟩
  · cases wx; cases wy; cases e; exact .inl ⟨rfl, by rw [dec_bl]; rename_i i j; cases i <;> cases j <;> rfl⟩
  · cases wx; cases wy; cases e; exact .inl ⟨rfl, by rename_i i j; by_cases z : i = j; · subst z; simp
                                                     · rw [decide_eq_false z, decide_eq_false fun q => z (V.str.inj q)]⟩
  · exact .inr (gen e)
def eqD (a b : D) (h : AH) : R D := match eqB a b h with
  | some k => .ok (.bl k) h
  | none => .bad
def neD (a b : D) (h : AH) : R D := match eqB a b h with
  | some k => .ok (.bl (!k)) h
  | none => .bad
theorem os_eq : OpS K E (rEqU K) eqD := fun ρ P H h x y dx dy s wx wy Q p => by
  unfold eqD at p
  cases e : eqB dx dy h with
  | none => rw [e] at p; exact p.elim
  | some k =>
    rw [e] at p
    have q := Post.here p s (.bl k)
    rcases eqB_ok s wx wy e with ⟨h1, h2⟩ | ⟨a, b, h1, h2, h3, h4, h5⟩
    · exact .inl ⟨h1, by rw [h2]; exact q⟩
    · exact .inr ⟨a, b, h1, h2, h3, h4, by rw [h5]; exact q⟩
theorem os_ne : OpS K E (rNeU K) neD := fun ρ P H h x y dx dy s wx wy Q p => by
  unfold neD at p
  cases e : eqB dx dy h with
  | none => rw [e] at p; exact p.elim
  | some k =>
    rw [e] at p
    have q := Post.here p s (.bl !k)
    rcases eqB_ok s wx wy e with ⟨h1, h2⟩ | ⟨a, b, h1, h2, h3, h4, h5⟩
    · exact .inl ⟨h1, by rw [h2]; exact q⟩
    · exact .inr ⟨a, b, h1, h2, h3, h4, by rw [h5]; exact q⟩
/-! in -/
def rInG (K : PySem.W.Frag) (neg : Bool) : R2 := fun x y H Q => ∃ d ds, Dp K H x d ∧ (Dp K H y (.list ds) ∨ Dp K H y (.tuple ds)) ∧ SeqAt.shaped d = true ∧ PyData.canLayAll0 ds = true ∧ Q (.bl (if neg then !ds.any (fun z => PyData.eqv z d) else ds.any fun z => PyData.eqv z d)) H
theorem room_in {X : Cx} {d : PyData} {ds : List PyData} (sd : SeqAt.shaped d = true) (hu : X.A.units + 65 < cLine) : X.A.units + 1 + min (PyData.depthAll ds) d.depth < cLine := by
  have h1 := SeqAt.depth_of_shaped sd
  have h2 : min (PyData.depthAll ds) d.depth ≤ d.depth := Nat.min_le_right _ _
  omega
theorem op_notInG {X : Cx} (hu : X.A.units + 65 < cLine) : OpR X (compareOp .NotIn) (rInG X.K true) := by
  intro pins s σ H x y v u Q I rx ry h
  obtain ⟨d, ds, hd, he, sd, se, q⟩ := h
  obtain ⟨as, r1⟩ := Dp.reads I d x v hd rx
  have hr := room_in (X := X) (ds := ds) sd hu
  rcases he with he | he
  · obtain ⟨bs, r2⟩ := Dp.reads I _ y u he ry
    exact SeqAt.notIn_list_reads r2 r1 se (SeqAt.canLay_of_shaped sd) hr ⟨.bl _, H, I, rfl, q⟩
  · obtain ⟨bs, r2⟩ := Dp.reads I _ y u he ry
    exact SeqAt.notIn_tuple_reads r2 r1 se (SeqAt.canLay_of_shaped sd) hr ⟨.bl _, H, I, rfl, q⟩
def inB (a b : D) (h : AH) : Option Bool := match toPy h a, toPy h b with
  | some p, some (.list qs) => if SeqAt.shaped p = true ∧ PyData.canLayAll0 qs = true then some (qs.any fun z => PyData.eqv z p) else none
  | some p, some (.tuple qs) => if SeqAt.shaped p = true ∧ PyData.canLayAll0 qs = true then some (qs.any fun z => PyData.eqv z p) else none
  | _, _ => none
def inD0 (neg : Bool) (a b : D) (h : AH) : R D := match inB a b h with
  | some k => .ok (.bl (if neg then !k else k)) h
  | none => .bad
def inD (neg : Bool) (a b : D) (h : AH) : R D := match a, b with
  | .str x, .str z => (match x.cps.toList with
    | [c] => .ok (.bl (if neg then !decide (c ∈ z.cps.toList) else decide (c ∈ z.cps.toList))) h
    | _ => .bad)
  | a, b => inD0 neg a b h
theorem os_in0 {neg : Bool} : OpS K E (rInG K neg) (inD0 neg) := fun ρ P H h x y dx dy s wx wy Q p => by
  unfold inD0 at p
  cases e : inB dx dy h with
  | none => rw [e] at p; exact p.elim
  | some k =>
    rw [e] at p
    have q := Post.here p s (.bl _)
    unfold inB at e
    cases ea : toPy h dx with
    | none => rw [ea] at e; cases e
    | some a =>
      cases eb : toPy h dy with
      | none => rw [ea, eb] at e; cases e
      | some b =>
        rw [ea, eb] at e
        have hb := dp_of s wy eb
        have ha := dp_of s wx ea
        cases b with
        | list qs =>
          dsimp only at e
          split at e
          · rename_i hh; cases e; exact ⟨a, qs, ha, .inl hb, hh.1, hh.2, q⟩
          · cases e
        | tuple qs =>
          dsimp only at e
          split at e
          · rename_i hh; cases e; exact ⟨a, qs, ha, .inr hb, hh.1, hh.2, q⟩
          · cases e
        | _ => cases e
def rInS1 (neg : Bool) : R2 := fun x y H Q => ∃ (c : Nat) (z : Str), x = .str ⟨#[c]⟩ ∧ y = .str z ∧ Q (.bl (if neg then !decide (c ∈ z.cps.toList) else decide (c ∈ z.cps.toList))) H
def rInU (K : PySem.W.Frag) (neg : Bool) : R2 := fun x y H Q => rInG K neg x y H Q ∨ rInS1 neg x y H Q
theorem op_notInU {X : Cx} (hu : X.A.units + 65 < cLine) : OpR X (compareOp .NotIn) (rInU X.K true) := (op_notInG hu).or op_notIn_sign
theorem os_in {neg : Bool} : OpS K E (rInU K neg) (inD neg) := fun ρ P H h x y dx dy s wx wy Q p => by
  unfold inD at p
  split at p
  · rename_i z1 z2
    cases wx
    cases wy
    split at p
    · rename_i c ec
      refine .inr ⟨c, z2, ?_, rfl, Post.here p s (.bl _)⟩
      have : z1.cps = #[c] := by
        have := congrArg List.toArray ec
        simpa using this
      cases z1
      cases this
      rfl
    · exact p.elim
  · exact .inl (os_in0 ρ P H h x y dx dy s wx wy Q p)

/-! is None -/
def isND (neg : Bool) (a b : D) (h : AH) : R D := match b with
  | .non => .ok (.bl (match a with
    | .non => !neg
    | _ => neg)) h
  | _ => .bad
/-! xs[i] -/
def ixD (a b : D) (h : AH) : R D := match a, b with
  | .str z, .int i => if z.length ≤ sizeLine then (match atI z.cps.toList i with
    | some c => .ok (.str ⟨#[c]⟩) h
    | none => .bad) else .bad
  | .tup ds, .int i => (match atI ds i with
    | some d => .ok d h
    | none => .bad)
  | a, .int i => (match seqD a h with
    | some ds => (match atI ds i with
      | some d => .ok d h
      | none => .bad)
    | none => .bad)
  | _, _ => .bad
theorem RepL.atI {ds : List D} {vs : List V} {i : Int} {d : D} (r : RepL K ρ P ds vs) (e : atI ds i = some d) : ∃ v, L2.atI vs i = some v ∧ Rep K ρ P d v := by
  have hl := r.length
  unfold L2.atI at e ⊢
  rw [hl]
  cases q : ixN ds.length i with
  | none => rw [q] at e; cases e
  | some j =>
    rw [q] at e
    exact r.get e
theorem os_ix : OpS K E (rIx K) ixD := fun ρ P H h x y dx dy s wx wy Q p => by
  have sq : ∀ {ds : List D} {i : Int}, dy = .int i → seqD dx h = some ds → Post K (RV K) E ρ P H Q (match atI ds i with
      | some d => .ok d h
      | none => .bad) → rIx K x y H Q := fun {ds i} ey es pp => by
    subst ey
    cases wy
    cases e : L2.atI ds i with
    | none => rw [e] at pp; exact pp.elim
    | some d =>
      rw [e] at pp
      obtain ⟨a, vs, rfl, q, r⟩ := seqD_sq s wx es
      obtain ⟨v, e2, rv⟩ := r.atI e
      exact .inl ⟨a, vs, i, v, rfl, rfl, q, e2, Post.here pp s rv⟩
  cases wy with
  | int i =>
    cases wx with
    | str z =>
      have p : Post K (RV K) E ρ P H Q (if z.length ≤ sizeLine then (match L2.atI z.cps.toList i with
        | some c => .ok (.str ⟨#[c]⟩) h
        | none => .bad) else .bad) := p
      split at p
      · rename_i hl
        cases e : L2.atI z.cps.toList i with
        | none => rw [e] at p; exact p.elim
        | some c =>
          rw [e] at p
          exact .inr (.inr ⟨z, i, c, rfl, rfl, hl, e, Post.here p s (.str _)⟩)
      · exact p.elim
    | tup q r =>
      rename_i a vs ds
      have p : Post K (RV K) E ρ P H Q (match L2.atI ds i with
        | some d => .ok d h
        | none => .bad) := p
      cases e : L2.atI ds i with
      | none => rw [e] at p; exact p.elim
      | some d =>
        rw [e] at p
        obtain ⟨v, e2, rv⟩ := r.atI e
        exact .inr (.inl ⟨a, vs, i, v, rfl, rfl, sqT_tk s.sub q, e2, Post.here p s rv⟩)
    | lst q r => exact sq rfl rfl p
    | scr q r => exact sq rfl rfl p
    | loc e =>
      rename_i n a
      have p : Post K (RV K) E ρ P H Q (match seqD (.loc n) h with
        | some ds => (match L2.atI ds i with
          | some d => .ok d h
          | none => .bad)
        | none => .bad) := p
      cases q : seqD (.loc n) h with
      | none => rw [q] at p; exact p.elim
      | some ds => rw [q] at p; exact sq rfl q p
    | _ => exact p.elim
  | _ => cases wx <;> exact p.elim
end
end Ab

namespace Ab
open PySem PySem.Spec L2
section
variable {K : PySem.W.Frag} {E : XK} {ρ ρ' ρ1 : Ro} {P H P' H' P1 H1 : Hp}
/-! ### built-in functions, by values -/
def CbS (K : PySem.W.Frag) (E : XK) (r : List V → Hp → VK → Prop) (f : List D → AH → R D) : Prop := ∀ ρ P H h vs ds, SR K ρ P H h → RepL K ρ P ds vs → ∀ Q, Post K (RV K) E ρ P H Q (f ds h) → r vs H Q
def CbF (K : PySem.W.Frag) (E : XK) (r : List V → Hp → VK → Prop) (f : List D → AH → R (List D)) : Prop := ∀ ρ P H h vs ds, SR K ρ P H h → RepL K ρ P ds vs → ∀ Q, PostF K E ρ P H Q (f ds h) → r vs H Q
def mCB (f : List D → AH → R D) (m : M (List D)) : M D := fun env h => (m env h).bind fun ds h1 => f ds h1
def mCBF (f : List D → AH → R (List D)) (m : M (List D)) : M (List D) := fun env h => (m env h).bind fun ds h1 => f ds h1
theorem sd_cb {r : List V → Hp → VK → Prop} {f : List D → AH → R D} {t : TA} {m : M (List D)} (hr : CbS K E r f) (ha : Sd K (RVs K) E t m) : Sd K (RV K) E (tCB r t) (mCB f m) := fun ρ P σ H env h s re Q p =>
  ha ρ P σ H env h s re _ (Post.bind p fun a h1 ρ1 P1 H1 v t1 s1 w1 p1 => hr _ _ _ _ _ _ s1 w1 Q p1)
theorem RepL.one {d : D} {vs : List V} (r : RepL K ρ P [d] vs) : ∃ v, vs = [v] ∧ Rep K ρ P d v := by
  cases r with
  | cons a b => cases b; exact ⟨_, rfl, a⟩
theorem RepL.two {d e : D} {vs : List V} (r : RepL K ρ P [d, e] vs) : ∃ v u, vs = [v, u] ∧ Rep K ρ P d v ∧ Rep K ρ P e u := by
  cases r with
  | cons a b =>
    obtain ⟨u, rfl, w⟩ := b.one
    exact ⟨_, u, rfl, a, w⟩
def lenD : List D → AH → R D
  | [.str x], h => if x.length ≤ sizeLine then .ok (.int x.length) h else .bad
  | [.tup ds], h => .ok (.int ds.length) h
  | [d], h => (match seqD d h with
    | some ds => .ok (.int ds.length) h
    | none => .bad)
  | _, _ => .bad
theorem cb_len : CbS K E (fun xs H Q => ∃ x n, xs = [x] ∧ LenV K x H n ∧ Q (.int n) H) lenD := fun ρ P H h vs ds s w Q p => by
  unfold lenD at p
  split at p
  · obtain ⟨v, rfl, r⟩ := w.one
    cases r
    split at p
    · rename_i hl; exact ⟨_, _, rfl, ⟨hl, rfl⟩, Post.here p s (.int _)⟩
    · exact p.elim
  · obtain ⟨v, rfl, r⟩ := w.one
    cases r with
    | tup q r => exact ⟨_, _, rfl, .inr ⟨_, sqT_tk s.sub q, rfl⟩, by rw [r.length]; exact Post.here p s (.int _)⟩
  · obtain ⟨v, rfl, r⟩ := w.one
    split at p
    · rename_i e
      obtain ⟨a, us, rfl, q, r2⟩ := seqD_sq s r e
      exact ⟨_, _, rfl, .inl ⟨_, q, rfl⟩, by rw [r2.length]; exact Post.here p s (.int _)⟩
    · exact p.elim
  · exact p.elim
def absD : List D → AH → R D
  | [.int i], h => .ok (.int (if i < 0 then -i else i)) h
  | _, _ => .bad
theorem cb_abs : CbS K E (fun xs H Q => ∃ i, xs = [.int i] ∧ Q (.int (if i < 0 then -i else i)) H) absD := fun ρ P H h vs ds s w Q p => by
  unfold absD at p
  split at p
  · obtain ⟨v, rfl, r⟩ := w.one
    cases r
    exact ⟨_, rfl, Post.here p s (.int _)⟩
  · exact p.elim
def max2D : List D → AH → R D
  | [.int i, .int j], h => .ok (.int (if j > i then j else i)) h
  | _, _ => .bad
def min2D : List D → AH → R D
  | [.int i, .int j], h => .ok (.int (if j < i then j else i)) h
  | _, _ => .bad
theorem cb_max2 : CbS K E (fun xs H Q => ∃ i j, xs = [.int i, .int j] ∧ Q (.int (if j > i then j else i)) H) max2D := fun ρ P H h vs ds s w Q p => by
  unfold max2D at p
  split at p
  · obtain ⟨v, u, rfl, r1, r2⟩ := w.two
    cases r1; cases r2
    exact ⟨_, _, rfl, Post.here p s (.int _)⟩
  · exact p.elim
theorem cb_min2 : CbS K E (fun xs H Q => ∃ i j, xs = [.int i, .int j] ∧ Q (.int (if j < i then j else i)) H) min2D := fun ρ P H h vs ds s w Q p => by
  unfold min2D at p
  split at p
  · obtain ⟨v, u, rfl, r1, r2⟩ := w.two
    cases r1; cases r2
    exact ⟨_, _, rfl, Post.here p s (.int _)⟩
  · exact p.elim
def intD : List D → AH → R D
  | [.int i], h => .ok (.int i) h
  | [.bl k], h => .ok (.int (if k then 1 else 0)) h
  | _, _ => .bad
theorem cb_int : CbS K E (fun xs H Q => (∃ i, xs = [.int i] ∧ Q (.int i) H) ∨ ∃ k, xs = [.bl k] ∧ Q (.int (if k then 1 else 0)) H) intD := fun ρ P H h vs ds s w Q p => by
  unfold intD at p
  split at p
  · obtain ⟨v, rfl, r⟩ := w.one
    cases r
    exact .inl ⟨_, rfl, Post.here p s (.int _)⟩
  · obtain ⟨v, rfl, r⟩ := w.one
    cases r
    exact .inr ⟨_, rfl, Post.here p s (.int _)⟩
  · exact p.elim
def strD : List D → AH → R D
  | [.int i], h => if i.natAbs.log2 < 1920 then .ok (.str (toString i)) h else .bad
  | _, _ => .bad
def divmodD : List D → AH → R D
  | [.int i, .int j], h => if CDiv i j then .ok (.tup [.int (i / j), .int (i % j)]) h else .bad
  | _, _ => .bad
theorem cb_divmod : CbS K E (fun xs H Q => ∃ i j, xs = [.int i, .int j] ∧ CDiv i j ∧ ∀ p, H p = none → Q (.ref p) (upd H p (.tup [.int (i / j), .int (i % j)]))) divmodD := fun ρ P H h vs ds s w Q p => by
  unfold divmodD at p
  split at p
  · obtain ⟨v, u, rfl, r1, r2⟩ := w.two
    cases r1; cases r2
    split at p
    · rename_i hc; exact ⟨_, _, rfl, hc, p.newT s (.cons (.int _) (.cons (.int _) .nil))⟩
    · exact p.elim
  · exact p.elim
/-- list(xs) -/
def listD : List D → AH → R (List D)
  | [.tup ds], h => .ok ds h
  | [d], h => (match seqD d h with
    | some ds => .ok ds h
    | none => .bad)
  | _, _ => .bad
/-- tuple(xs) -/
def tupleD : List D → AH → R D
  | [.tup ds], h => .ok (.tup ds) h
  | [d], h => (match seqD d h with
    | some ds => .ok (.tup ds) h
    | none => .bad)
  | _, _ => .bad
theorem cb_tuple : CbS K E (fun xs H Q => ∃ p ys, xs = [.ref p] ∧ ((SqL K H p ys ∧ ∀ l, H l = none → Q (.ref l) (upd H l (.tup ys))) ∨ (SqT K H p ys ∧ Q (.ref p) H))) tupleD := fun ρ P H h vs ds s w Q p => by
  unfold tupleD at p
  split at p
  · obtain ⟨v, rfl, r⟩ := w.one
    cases r with
    | tup q r => exact ⟨_, _, rfl, .inr ⟨sqT_tk s.sub q, Post.here p s (.tup q r)⟩⟩
  · obtain ⟨v, rfl, r⟩ := w.one
    split at p
    · rename_i e
      obtain ⟨a, us, rfl, q, r2⟩ := seqD_sq s r e
      exact ⟨_, _, rfl, .inl ⟨q, p.newT s r2⟩⟩
    · exact p.elim
  · exact p.elim
/-- the truth values of a list -/
def blsD : List D → Option (List Bool)
  | [] => some []
  | .bl b :: ds => (blsD ds).map (b :: ·)
  | _ => none
theorem blsD_ok : ∀ {ds : List D} {bs : List Bool}, blsD ds = some bs → ds = bs.map D.bl
  | [], _, e => by cases e; rfl
  | d :: ds, bs, e => by
    cases d with
    | bl b =>
      have e : (blsD ds).map (b :: ·) = some bs := e
      cases q : blsD ds with
      | none => rw [q] at e; cases e
      | some cs => rw [q] at e; cases e; rw [blsD_ok q]; rfl
    | _ => cases e
def allD (any : Bool) : List D → AH → R D
  | [d], h => (match seqD d h with
    | some ds => (match blsD ds with
      | some bs => .ok (.bl (if any then bs.any id else bs.all id)) h
      | none => .bad)
    | _ => .bad)
  | _, _ => .bad
theorem cb_all : CbS K E (rAll K) (allD false) := fun ρ P H h vs ds s w Q p => by
  unfold allD at p
  split at p
  · obtain ⟨v, rfl, r⟩ := w.one
    split at p
    · rename_i e
      split at p
      · rename_i bs eb
        obtain ⟨a, us, rfl, q, r2⟩ := seqD_sq s r e
        rw [blsD_ok eb] at r2
        rw [RepL.bls_iff r2] at q
        exact ⟨_, bs, rfl, q, Post.here p s (.bl _)⟩
      · exact p.elim
    · exact p.elim
  · exact p.elim
def intsD : List D → Option (List Int)
  | [] => some []
  | .int b :: ds => (intsD ds).map (b :: ·)
  | _ => none
theorem intsD_ok : ∀ {ds : List D} {bs : List Int}, intsD ds = some bs → ds = bs.map D.int
  | [], _, e => by cases e; rfl
  | d :: ds, bs, e => by
    cases d with
    | int b =>
      have e : (intsD ds).map (b :: ·) = some bs := e
      cases q : intsD ds with
      | none => rw [q] at e; cases e
      | some cs => rw [q] at e; cases e; rw [intsD_ok q]; rfl
    | _ => cases e
def sumD : List D → AH → R D
  | [d], h => (match seqD d h with
    | some ds => (match intsD ds with
      | some bs => .ok (.int bs.sum) h
      | none => .bad)
    | _ => .bad)
  | _, _ => .bad
/-- isinstance of a built-in type -/
def tyD (d : D) (h : AH) : Option String := match d with
  | .non => some "NoneType"
  | .bl _ => some "bool"
  | .int _ => some "int"
  | .str _ => some "str"
  | .tup _ => some "tuple"
  | .lst _ => some "list"
  | .scr _ => some "list"
  | .dk _ => some "dict"
  | .dv _ _ => some "dict"
  | .loc n => (match h[n]? with
    | some (.lst _) => some "list"
    | _ => none)
  | _ => none
theorem tyD_ok {h : AH} {d : D} {v : V} {n : String} (s : SR K ρ P H h) (w : Rep K ρ P d v) (e : tyD d h = some n) : TyX K H v (.type n) := by
  have lq : ∀ {a : Addr} {vs : List V}, SqL K H a vs → TyX K H (.ref a) (.type "list") := fun {a vs} q => by
    rcases q with (q | ⟨o, q⟩) | ⟨o, its, m, q, c, _⟩
    · exact .base (.lst q)
    · exact .base (.frz q)
    · exact .kList q c
  cases w with
  | non => cases e; exact .base .non
  | bl b => cases e; exact .base (.bl b)
  | int i => cases e; exact .base (.int i)
  | str x => cases e; exact .base (.str x)
  | glo x => cases e
  | ty x => cases e
  | tup q r =>
    cases e
    rcases sqT_tk s.sub q with (q | ⟨o, q⟩) | ⟨o, its, m, q, c, _⟩
    · exact .base (.tup q)
    · exact .fTuple q
    · exact .kTuple q c
  | lst q r => cases e; exact lq (.of (s.sub _ _ q rfl))
  | scr q r => cases e; exact lq (sqL_s s.sub q)
  | obj _ _ _ _ => cases e
  | dic _ _ _ _ => cases e
  | nd _ _ _ _ _ => cases e
  | exv _ _ _ _ _ => cases e
  | fn _ => cases e
  | dk q => cases e; exact .base (.dK (s.sub _ _ q rfl))
  | dv q _ _ _ => cases e; exact .base (.dK (s.sub _ _ q rfl))
  | loc e1 =>
    obtain ⟨o, eo, r⟩ := s.here e1
    simp only [tyD, eo] at e
    cases o with
    | lst ds => cases e; obtain ⟨us, ev, _⟩ := r; exact lq (.of ev)
    | dct kvs => cases e
    | ins c fs => cases e
    | ndt kvs => cases e
def isTy (a b : String) : Option Bool := if (a = "NoneType" ∨ a = "bool" ∨ a = "int" ∨ a = "str" ∨ a = "tuple" ∨ a = "list" ∨ a = "dict") ∧ (b = "bool" ∨ b = "int" ∨ b = "str" ∨ b = "tuple" ∨ b = "list") then some (decide (a = b) || (decide (a = "bool") && decide (b = "int"))) else none
theorem isTy_ok {a b : String} {k : Bool} (e : isTy a b = some k) : kitB a b = some k := by
  unfold isTy at e
  split at e
  · rename_i hh
    rw [← e]
    obtain ⟨ha, hb⟩ := hh
    rcases ha with rfl | rfl | rfl | rfl | rfl | rfl | rfl <;> rcases hb with rfl | rfl | rfl | rfl | rfl <;> decide +kernel
  · cases e
def isiD : List D → AH → R D
  | [d, .ty n], h => (match tyD d h with
    | some t => (match isTy t n with
      | some k => .ok (.bl k) h
      | none => .bad)
    | _ => .bad)
  | _, _ => .bad
theorem cb_isi : CbS K E (rIsi K) isiD := fun ρ P H h vs ds s w Q p => by
  unfold isiD at p
  split at p
  · obtain ⟨v, u, rfl, r1, r2⟩ := w.two
    cases r2
    split at p
    · rename_i t et
      split at p
      · rename_i k ek
        exact ⟨v, _, _, _, k, rfl, .ty _, tyD_ok s r1 et, kit_ty (isTy_ok ek), Post.here p s (.bl _)⟩
      · exact p.elim
    · exact p.elim
  · exact p.elim
end
/-! ### repr -/
mutual
/-- a bound of a repr's length that does not hang on the ints -/
def cost : PyData → Nat
  | .none => 8
  | .bool _ => 8
  | .int _ => 2000
  | .str x => (reprText x).length
  | .list ds => costL ds + 4
  | .tuple ds => costL ds + 4
  | .dict _ => 0
def costL : List PyData → Nat
  | [] => 0
  | d :: ds => cost d + 2 + costL ds
end
mutual
def noDict : PyData → Bool
  | .list ds => noDictL ds
  | .tuple ds => noDictL ds
  | .dict _ => false
  | _ => true
def noDictL : List PyData → Bool
  | [] => true
  | d :: ds => noDict d && noDictL ds
end
theorem listText_le : ∀ ts : List Str, (listText ts).length ≤ piled ts + 2
  | [] => by decide
  | t :: r => by
    have h := textFrom_length_pos r 1 ((("[" : String) : Str) ++ (if (0 : Nat) > 0 then ", " else "" : String) ++ t) (Nat.succ_pos 0)
    have e : (listText (t :: r)).length = (textFrom 1 ((("[" : String) : Str) ++ (if (0 : Nat) > 0 then ", " else "" : String) ++ t) r).length + 1 := strLen_append _ _
    have e2 : ((("[" : String) : Str) ++ (if (0 : Nat) > 0 then ", " else "" : String) ++ t).length = 1 + t.length := by rw [strLen_append, strLen_append]; rfl
    rw [e, h, e2, piled_cons]
    omega
theorem tupleText_le (ts : List Str) : (tupleText ts).length ≤ piled ts + 4 := by
  unfold tupleText
  rw [strLen_append, strLen_append]
  have e1 : ((("(" : String) : Str)).length = 1 := rfl
  have e3 : (((if ts.length == 1 then ",)" else ")" : String) : Str)).length ≤ 2 := by split <;> decide
  rw [e1]
  by_cases z : ts = []
  · subst z
    have e0 : (Str.join ((", " : String) : Str) []).length = 0 := rfl
    rw [e0]
    omega
  · have := join_length_add ts z
    omega
mutual
theorem shown_le : ∀ d : PyData, d.showable = true → noDict d = true → d.shown.length ≤ cost d
  | .none, _, _ => by decide
  | .bool b, _, _ => by cases b <;> decide
  | .int i, h, _ => by
    have h1 : i.natAbs.log2 < 1920 := of_decide_eq_true h
    have h2 := int_text_length_le (k := 1920) (by decide) h1
    show (Str.ofString (toString i)).length ≤ 2000
    have h3 : (Str.ofString (toString i)).length = (toString i).length := by
      rw [Str.ofString_eq_toList]
      show ((toString i).toList.map Char.toNat).toArray.size = _
      rw [List.size_toArray, List.length_map]
      exact String.length_toList
    omega
  | .str x, _, _ => Nat.le_refl _
  | .list ds, h, n => by
    have h1 := shownL_le ds (by simpa only [PyData.showable] using h) (by simpa only [noDict] using n)
    have h2 := listText_le (PyData.shownAll ds)
    show (PyData.shown (.list ds)).length ≤ costL ds + 4
    rw [PyData.shown]
    omega
  | .tuple ds, h, n => by
    have h1 := shownL_le ds (by simpa only [PyData.showable] using h) (by simpa only [noDict] using n)
    have h2 := tupleText_le (PyData.shownAll ds)
    show (PyData.shown (.tuple ds)).length ≤ costL ds + 4
    rw [PyData.shown]
    omega
  | .dict _, _, n => by simp [noDict] at n
theorem shownL_le : ∀ ds : List PyData, PyData.showableAll ds = true → noDictL ds = true → piled (PyData.shownAll ds) ≤ costL ds
  | [], _, _ => by decide
  | d :: ds, h, n => by
    have h' : d.showable = true ∧ PyData.showableAll ds = true := by simpa only [PyData.showableAll, Bool.and_eq_true] using h
    have n' : noDict d = true ∧ noDictL ds = true := by simpa only [noDictL, Bool.and_eq_true] using n
    have h1 := shown_le d h'.1 n'.1
    have h2 := shownL_le ds h'.2 n'.2
    show piled (PyData.shown d :: PyData.shownAll ds) ≤ cost d + 2 + costL ds
    rw [piled_cons]
    omega
end
mutual
theorem noDict_has : ∀ d : PyData, noDict d = true → d.hasDict = false
  | .none, _ => by simp only [PyData.hasDict]
  | .bool _, _ => by simp only [PyData.hasDict]
  | .int _, _ => by simp only [PyData.hasDict]
  | .str _, _ => by simp only [PyData.hasDict]
  | .list ds, h => by simp only [PyData.hasDict]; exact noDictL_has ds (by simpa only [noDict] using h)
  | .tuple ds, h => by simp only [PyData.hasDict]; exact noDictL_has ds (by simpa only [noDict] using h)
  | .dict _, n => by simp [noDict] at n
theorem noDictL_has : ∀ ds : List PyData, noDictL ds = true → PyData.hasDictAll ds = false
  | [], _ => by simp only [PyData.hasDictAll]
  | d :: ds, n => by
    have n' : noDict d = true ∧ noDictL ds = true := by simpa only [noDictL, Bool.and_eq_true] using n
    simp only [PyData.hasDictAll, noDict_has d n'.1, noDictL_has ds n'.2, Bool.or_self]
end
def reprOk (d : PyData) : Bool := d.showable && (noDict d && (decide (cost d ≤ sizeLine) && decide (d.depth ≤ 64)))
def rReprU (K : PySem.W.Frag) : List V → Hp → VK → Prop := fun xs H Q => ∃ x d, xs = [x] ∧ Dp K H x d ∧ reprOk d = true ∧ Q (.str d.shown) H
section
variable {K : PySem.W.Frag} {E : XK} {ρ ρ' ρ1 : Ro} {P H P' H' P1 H1 : Hp}
def reprD : List D → AH → R D
  | [d], h => (match toPy h d with
    | some p => if reprOk p = true then .ok (.str p.shown) h else .bad
    | none => .bad)
  | _, _ => .bad
/-! ### slices -/
def cutL {α : Type} (xs : List α) (lo hi : Option Int) : List α := (xs.drop (HT.sIx xs.length 0 lo)).take (HT.sIx xs.length xs.length hi - HT.sIx xs.length 0 lo)
theorem RepL.cutL {ds : List D} {vs : List V} (r : RepL K ρ P ds vs) (lo hi : Option Int) : RepL K ρ P (Ab.cutL ds lo hi) (cutV vs lo hi) := by
  unfold Ab.cutL cutV
  rw [r.length]
  exact (r.drop _).take _
def mNoPart : M (Option Int) := fun _ h => .ok none h
def mPart (m : M D) : M (Option Int) := fun env h => (m env h).bind fun d h1 => match d with
  | .int i => .ok (some i) h1
  | _ => .bad
theorem sd_noPart : Sd K (RQ (Option Int)) E tNoPart mNoPart := fun ρ P σ H env h s re Q p => Post.here p s rfl
theorem sd_part {t : TE} {m : M D} (ha : Sd K (RV K) E t m) : Sd K (RQ (Option Int)) E (tPart t) (mPart m) := fun ρ P σ H env h s re Q p =>
  ha ρ P σ H env h s re _ (Post.bind p fun a h1 ρ1 P1 H1 v t1 s1 w1 p1 => by
    cases w1 with
    | int i => exact ⟨i, rfl, Post.here p1 s1 rfl⟩
    | _ => exact p1.elim)
def mSlL (m : M D) (lo hi : M (Option Int)) : M (List D) := fun env h => (m env h).bind fun d h1 => (lo env h1).bind fun l h2 => (hi env h2).bind fun u h3 => match seqD d h3 with
  | some ds => .ok (cutL ds l u) h3
  | none => .bad
theorem sf_slL {te : TE} {tl th : TO} {m : M D} {lo hi : M (Option Int)} (ha : Sd K (RV K) E te m) (hl : Sd K (RQ (Option Int)) E tl lo) (hh : Sd K (RQ (Option Int)) E th hi) : SdF K E (tSl (rSlL K) te tl th) (mSlL m lo hi) := fun ρ P σ H env h s re Q p =>
  ha ρ P σ H env h s re _ (PostF.bind p fun a h1 ρ1 P1 H1 v t1 s1 w1 p1 => hl _ _ _ _ _ _ s1 (re.step t1) _ (PostF.bind p1 fun b h2 ρ2 P2 H2 u t2 s2 w2 p2 =>
    hh _ _ _ _ _ _ s2 ((re.step t1).step t2) _ (PostF.bind p2 fun c h3 ρ3 P3 H3 x t3 s3 w3 p3 => by
      cases w2; cases w3
      split at p3
      · rename_i ds e
        obtain ⟨q, us, rfl, sq, r⟩ := seqD_sq s3 ((w1.step t2).step t3) e
        exact ⟨q, us, rfl, sq, p3.newL s3 (r.cutL _ _)⟩
      · exact p3.elim)))
def mSlT (m : M D) (lo hi : M (Option Int)) : M D := fun env h => (m env h).bind fun d h1 => (lo env h1).bind fun l h2 => (hi env h2).bind fun u h3 => match d with
  | .tup ds => .ok (.tup (cutL ds l u)) h3
  | _ => .bad
theorem cutL_whole {α : Type} {xs : List α} {lo hi : Option Int} (h : HT.sIx xs.length 0 lo = 0 ∧ HT.sIx xs.length xs.length hi = xs.length) : cutL xs lo hi = xs := by
  unfold cutL
  rw [h.1, h.2]
  simp
/-! ### xs[i] = v, xs.append(v) .. -/
def mgSub (mo mi : M D) : MG := fun d env h => (mo env h).bind fun o h1 => (mi env h1).bind fun i h2 => match o, i with
  | .loc n, .int k => (match h2[n]? with
    | some (.lst ds) => (match ixN ds.length k with
      | some j => .ok env (h2.set n (.lst (ds.set j d)))
      | none => .bad)
    | _ => .bad)
  | _, _ => .bad
def mMeth (f : D → List D → AH → R D) (mo : M D) (ma : M (List D)) : M D := fun env h => (mo env h).bind fun o h1 => (ma env h1).bind fun ds h2 => f o ds h2
def MtS (K : PySem.W.Frag) (E : XK) (T : String) (r : V → List V → Hp → VK → Prop) (ok : D → AH → Bool) (f : D → List D → AH → R D) : Prop :=
  (∀ ρ P H h x d, SR K ρ P H h → Rep K ρ P d x → ok d h = true → tyV K T x H) ∧
  ∀ ρ P H h x vs d ds, SR K ρ P H h → Rep K ρ P d x → RepL K ρ P ds vs → ∀ Q, Post K (RV K) E ρ P H Q (f d ds h) → r x vs H Q
def mMethT (ok : D → AH → Bool) (f : D → List D → AH → R D) (mo : M D) (ma : M (List D)) : M D := fun env h => (mo env h).bind fun o h1 => if ok o h1 = true then (ma env h1).bind fun ds h2 => f o ds h2 else .bad
def mMethT0 (ok : D → AH → Bool) (f : D → List D → AH → R D) (mo : M D) : M D := fun env h => (mo env h).bind fun o h1 => if ok o h1 = true then f o [] h1 else .bad
def isLoc (d : D) (h : AH) : Bool := match d with
  | .loc n => (match h[n]? with
    | some (.lst _) => true
    | _ => false)
  | _ => false
def appendD : D → List D → AH → R D
  | .loc n, [d], h => (match h[n]? with
    | some (.lst ds) => if ds.length < sizeLine then .ok .non (h.set n (.lst (ds ++ [d]))) else .bad
    | _ => .bad)
  | _, _, _ => .bad
def popD : D → List D → AH → R D
  | .loc n, [], h => (match h[n]? with
    | some (.lst ds) => (match ds[ds.length - 1]? with
      | some d => .ok d (h.set n (.lst ds.dropLast))
      | none => .bad)
    | _ => .bad)
  | _, _, _ => .bad
def popAtD : D → List D → AH → R D
  | .loc n, [.int i], h => if -(2 ^ 63) ≤ i ∧ i < 2 ^ 63 then (match h[n]? with
    | some (.lst ds) => (match seqIndex? i ds.length with
      | some k => (match ds[k]? with
        | some d => .ok d (h.set n (.lst (ds.eraseIdx k)))
        | none => .bad)
      | none => .bad)
    | _ => .bad) else .bad
  | _, _, _ => .bad
end
end Ab

namespace Ab
open PySem PySem.Spec L2
/-! ### the text, its reading, its computation -/
structure JE (K : PySem.W.Frag) (E : XK) (X : Cx) (e : Expr) (t : TE) (m : M D) : Prop where
  k : X.K = K
  p : PE X e t
  s : Sd K (RV K) E t m
structure JF (K : PySem.W.Frag) (E : XK) (X : Cx) (e : Expr) (t : TE) (m : M (List D)) : Prop where
  k : X.K = K
  p : PE X e t
  s : SdF K E t m
structure JT (K : PySem.W.Frag) (E : XK) (X : Cx) (e : Expr) (t : TT) (m : M Bool) : Prop where
  k : X.K = K
  p : PT X e t
  s : Sd K (RQ Bool) E t m
structure JTs (K : PySem.W.Frag) (E : XK) (X : Cx) (e : List Expr) (t : TT) (m : M Bool) : Prop where
  k : X.K = K
  p : PTs X e t
  s : Sd K (RQ Bool) E t m
structure JW (K : PySem.W.Frag) (E : XK) (X : Cx) (e : Expr) (t : TT) (m : M Bool) : Prop where
  k : X.K = K
  p : PW X e t
  s : Sd K (RQ Bool) E t m
structure JA (K : PySem.W.Frag) (E : XK) (X : Cx) (e : List Expr) (t : TA) (m : M (List D)) : Prop where
  k : X.K = K
  p : PA X e t
  s : Sd K (RVs K) E t m
structure JK (K : PySem.W.Frag) (E : XK) (X : Cx) (e : List Keyword) (t : TA) (m : M (List D)) : Prop where
  k : X.K = K
  p : PK X e t
  s : Sd K (RVs K) E t m
structure JO (K : PySem.W.Frag) (E : XK) (X : Cx) (e : Option Expr) (t : TO) (m : M (Option Int)) : Prop where
  k : X.K = K
  p : PO X e t
  s : Sd K (RQ (Option Int)) E t m
structure JI (K : PySem.W.Frag) (E : XK) (X : Cx) (tg e : Expr) (t : TI) (m : MI) : Prop where
  k : X.K = K
  p : PI X tg e t
  s : SdI K E t m
structure JG (K : PySem.W.Frag) (E : XK) (X : Cx) (e : Expr) (t : TG) (m : MG) : Prop where
  k : X.K = K
  p : PG X e t
  s : SdG K E t m
structure JGs (K : PySem.W.Frag) (E : XK) (X : Cx) (e : List Expr) (t : TGs) (m : List D → En → AH → R En) : Prop where
  k : X.K = K
  p : PGs X e t
  s : SdGs K E t m
structure JS (K : PySem.W.Frag) (E : XK) (X : Cx) (e : Stmt) (t : TS) (m : MS) : Prop where
  k : X.K = K
  p : PS X e t
  s : SdS K E t m
structure JSs (K : PySem.W.Frag) (E : XK) (X : Cx) (e : List Stmt) (t : TS) (m : MS) : Prop where
  k : X.K = K
  p : PSs X e t
  s : SdS K E t m
theorem JSs.b {K : PySem.W.Frag} {E : XK} {X : Cx} {e : List Stmt} {t : TS} {m : MS} (h : JSs K E X e t m) : JB X E e m := ⟨t, h.p, by rw [h.k]; exact h.s⟩
section
variable {K : PySem.W.Frag} {E : XK} {X : Cx} {e a b c : Expr} {es : List Expr} {ta tb tc : TE} {t : TA} {ma mb mc : M D} {m : M (List D)} {pos pos' : Pos}
/-! names, constants -/
theorem je_v (i : Nat) {x : Str} (hK : X.K = K := by rfl) (hN : X.N[i]? = some x := by rfl) (hv : Vis X.env.scope x := by first | exact Or.inl rfl | exact Or.inr (Or.inl rfl) | exact Or.inr (Or.inr rfl)) (hd : (x == ("__debug__" : Str)) = false := by decide)
    (hcd : (x == ("__classdict__" : Str)) = false := by decide) : JE K E X (.Name x pos) (tVar i) (mVar i) := ⟨hK, pe_var hN hv hd hcd, sd_var⟩
theorem je_int {i : Int} {j} (hK : X.K = K := by rfl) : JE K E X (.Constant (.int i) j pos) (tC (.int i)) (mC (.int i)) := ⟨hK, pe_int, sd_c fun _ _ => .int _⟩
theorem je_bl {i : Bool} {j} (hK : X.K = K := by rfl) : JE K E X (.Constant (.bool i) j pos) (tC (.bl i)) (mC (.bl i)) := ⟨hK, pe_bl, sd_c fun _ _ => .bl _⟩
/-- a module's int, text -/
theorem je_gint {x : Str} {i : Int} (hm : ∃ t, X.mg x = some (.int i t)) (hg : Gl X x := by rfl) (hd : (x == ("__debug__" : Str)) = false := by decide) (hK : X.K = K := by rfl) : JE K E X (.Name x pos) (tC (.int i)) (mC (.int i)) := by
  obtain ⟨t, hm⟩ := hm
  exact ⟨hK, pe_glob hg hm ⟨t, rfl⟩ hd, sd_c fun _ _ => .int _⟩
/-- a built-in type as a value -/
theorem je_ty {x : Str} {n : String} (hm : X.mg x = none) (hv : bootBuiltins x = some (.type n) := by decide +kernel) (hg : Gl X x := by rfl) (hn : x ≠ "__name__" := by decide) (hd : (x == ("__debug__" : Str)) = false := by decide) (hK : X.K = K := by rfl) :
    JE K E X (.Name x pos) (tC (.ty n)) (mC (.ty n)) := ⟨hK, pe_bltn hg hm hv rfl hn hd, sd_c fun _ _ => .ty _⟩
/-! operators -/
theorem je_bin {op : Operator} {r : R2} {f : D → D → AH → R D} (ho : OpR X (binaryOp op) r) (hs : OpS K E r f) (ha : JE K E X a ta ma) (hb : JE K E X b tb mb) : JE K E X (.BinOp a op b pos) (tOp r ta tb) (mBin f ma mb) := ⟨ha.k, pe_op ho ha.p hb.p, sd_op ha.s hb.s hs⟩
theorem je_sub (ha : JE K E X a ta ma) (hb : JE K E X b tb mb) : JE K E X (.BinOp a .Sub b pos) (tOp (rI0 fun i j => .int (i - j)) ta tb) (mBin subD ma mb) := je_bin op_sub os_sub ha hb
theorem je_div (ha : JE K E X a ta ma) (hb : JE K E X b tb mb) : JE K E X (.BinOp a .FloorDiv b pos) (tOp rDivU ta tb) (mBin divD ma mb) := je_bin op_divU os_div ha hb
theorem je_mod (ha : JE K E X a ta ma) (hb : JE K E X b tb mb) : JE K E X (.BinOp a .Mod b pos) (tOp (rI (fun _ j => 0 < j) fun i j => .int (i % j)) ta tb) (mBin modD ma mb) := je_bin op_mod os_mod ha hb
theorem je_pow (ha : JE K E X a ta ma) (hb : JE K E X b tb mb) : JE K E X (.BinOp a .Pow b pos) (tOp (rI CPow fun i j => .int (i ^ j.toNat)) ta tb) (mBin powD ma mb) := je_bin op_pow os_pow ha hb
/-- lists -/
theorem jf_cat (ha : JE K E X a ta ma) (hb : JE K E X b tb mb) : JF K E X (.BinOp a .Add b pos) (tOp rCat ta tb) (mBinF catD ma mb) := ⟨ha.k, pe_op op_cat ha.p hb.p, sf_cat ha.s hb.s⟩
/-! comparisons -/
/-- what a comparison does -/
structure JC (K : PySem.W.Frag) (E : XK) (X : Cx) (op : CmpOp) (r : R2) (f : D → D → AH → R D) : Prop where
  o : OpR X (compareOp op) r
  s : OpS K E r f
theorem jc_lt : JC K E X .Lt (rI0 fun i j => .bl (decide (i < j))) (cmpD fun i j => decide (i < j)) := ⟨op_lt, os_cmp⟩
theorem jc_le : JC K E X .LtE (rI0 fun i j => .bl (decide (i ≤ j))) (cmpD fun i j => decide (i ≤ j)) := ⟨op_le, os_cmp⟩
theorem jc_gt : JC K E X .Gt (rI0 fun i j => .bl (decide (j < i))) (cmpD fun i j => decide (j < i)) := ⟨op_gt, os_cmp⟩
theorem jc_ge : JC K E X .GtE (rI0 fun i j => .bl (decide (j ≤ i))) (cmpD fun i j => decide (j ≤ i)) := ⟨op_ge, os_cmp⟩
theorem jc_eq {k : Nat} (hr : Room k X.A) (hK : X.K = K := by rfl) : JC K E X .Eq (rEqU K) eqD := by subst hK; exact ⟨op_eqU hr.units, os_eq⟩
theorem jc_ne {k : Nat} (hr : Room k X.A) (hK : X.K = K := by rfl) : JC K E X .NotEq (rNeU K) neD := by subst hK; exact ⟨op_neU hr.units, os_ne⟩
theorem jt_cmp {op : CmpOp} {r : R2} {f : D → D → AH → R D} (hc : JC K E X op r f) (ha : JE K E X a ta ma) (hb : JE K E X b tb mb) (hm : behindInMarks op b = false := by first | exact nomark _ | rfl) : JT K E X (.Compare a [op] [b] pos) (tTest (tOp r ta tb)) (mBl (mBin f ma mb)) :=
  ⟨ha.k, pt_cmpR hc.o ha.p hb.p hm, sd_test (sd_op ha.s hb.s hc.s)⟩
def mChain (f g : D → D → AH → R D) (ma mb mc : M D) : M D := fun env h => (ma env h).bind fun a h1 => (mb env h1).bind fun b h2 => (f a b h2).bind fun k h3 => match k with
  | .bl true => (mc env h3).bind fun c h4 => g b c h4
  | .bl false => .ok (.bl false) h3
  | _ => .bad
theorem sd_chain {r r' : R2} {f g : D → D → AH → R D} (hf : OpS K E r f) (hg : OpS K E r' g) (ha : Sd K (RV K) E ta ma) (hb : Sd K (RV K) E tb mb) (hc : Sd K (RV K) E tc mc) : Sd K (RV K) E (tChain r r' ta tb tc) (mChain f g ma mb mc) := fun ρ P σ H env h s re Q p =>
  ha ρ P σ H env h s re _ (Post.bind p fun a h1 ρ1 P1 H1 v t1 s1 w1 p1 => hb _ _ _ _ _ _ s1 (re.step t1) _ (Post.bind p1 fun b h2 ρ2 P2 H2 u t2 s2 w2 p2 =>
    hf _ _ _ _ _ _ _ _ s2 (w1.step t2) w2 _ (Post.bind p2 fun k h3 ρ3 P3 H3 x t3 s3 w3 p3 => by
      cases w3 with
      | bl k =>
        refine ⟨k, rfl, ?_⟩
        cases k with
        | true => exact hc _ _ _ _ _ _ s3 (((re.step t1).step t2).step t3) _ (Post.bind p3 fun c h4 ρ4 P4 H4 y t4 s4 w4 p4 => hg _ _ _ _ _ _ _ _ s4 ((w2.step t3).step t4) w4 Q p4)
        | false => exact Post.here p3 s3 (.bl _)
      | _ => exact p3.elim)))
theorem je_chain {op op' : CmpOp} {r r' : R2} {f g : D → D → AH → R D} (h1 : JC K E X op r f) (h2 : JC K E X op' r' g) (ha : JE K E X a ta ma) (hb : JE K E X b tb mb) (hc : JE K E X c tc mc) (hm : lastMarks [op, op'] [b, c] = false := by with_unfolding_all rfl) :
    JE K E X (.Compare a [op, op'] [b, c] pos) (tChain r r' ta tb tc) (mChain f g ma mb mc) := ⟨ha.k, pe_chain h1.o h2.o ha.p hb.p hc.p hm, sd_chain h1.s h2.s ha.s hb.s hc.s⟩
/-! truth -/
def tTruU (K : PySem.W.Frag) (ta : TE) : TT := fun σ H Q => ta σ H fun x H' => ∃ k, TruV K x H' k ∧ Q k H'
theorem jt_tru (ha : JE K E X a ta ma) (he : ∀ whole, isTrue a X.env whole = (do let v ← whole; standAt a.pos; holding [v] (truthy v)) := by intro _; rfl) : JT K E X a (tTruU K ta) (mTru ma) := by
  obtain ⟨hK, hp, hs⟩ := ha
  subst hK
  exact ⟨rfl, pt_truth hp he, sd_tru hs⟩
variable {tt tu : TT} {mt mu : M Bool} {rest : List Expr}
theorem jt_not (ha : JT K E X a tt mt) : JT K E X (.UnaryOp .Not a pos) (tNot tt) (mNotT mt) := ⟨ha.k, pt_not ha.p, sd_notT ha.s⟩
theorem jw_and1 (ha : JT K E X a tt mt) : JW K E X (.BoolOp .And [a] pos) tt mt := ⟨ha.k, pw_and1 ha.p, ha.s⟩
theorem jw_or1 (ha : JT K E X a tt mt) : JW K E X (.BoolOp .Or [a] pos) tt mt := ⟨ha.k, pw_or1 ha.p, ha.s⟩
theorem jw_and (ha : JT K E X a tt mt) (hb : JW K E X (.BoolOp .And (b :: rest) pos) tu mu) : JW K E X (.BoolOp .And (a :: b :: rest) pos) (tAnd tt tu) (mAndT mt mu) := ⟨ha.k, pw_and ha.p hb.p, sd_andT ha.s hb.s⟩
theorem jw_or (ha : JT K E X a tt mt) (hb : JW K E X (.BoolOp .Or (b :: rest) pos) tu mu) : JW K E X (.BoolOp .Or (a :: b :: rest) pos) (tOr tt tu) (mOrT mt mu) := ⟨ha.k, pw_or ha.p hb.p, sd_orT ha.s hb.s⟩
theorem JW.jt (h : JW K E X a tt mt) : JT K E X a tt mt := ⟨h.k, h.p.pt, h.s⟩
theorem je_not (ha : JE K E X a ta ma) : JE K E X (.UnaryOp .Not a pos) (tNotT K ta) (mNot ma) := by
  obtain ⟨hK, hp, hs⟩ := ha
  subst hK
  exact ⟨rfl, pe_notT hp, sd_not hs⟩
theorem je_one {op} (ha : JE K E X a ta ma) : JE K E X (.BoolOp op [a] pos) ta ma := ⟨ha.k, pe_one ha.p, ha.s⟩
theorem je_and (ha : JE K E X a ta ma) (hb : JE K E X (.BoolOp .And (b :: rest) pos) tb mb) : JE K E X (.BoolOp .And (a :: b :: rest) pos) (tAndT K ta tb) (mAnd ma mb) := by
  obtain ⟨hK, hp, hs⟩ := ha
  subst hK
  exact ⟨rfl, pe_andT hp hb.p, sd_and hs hb.s⟩
theorem je_if (hc : JT K E X c tt mt) (ha : JE K E X a ta ma) (hb : JE K E X b tb mb) : JE K E X (.IfExp c a b pos) (tIf tt ta tb) (mIf mt ma mb) := ⟨ha.k, pe_ifExp hc.p ha.p hb.p, sd_if hc.s ha.s hb.s⟩
/-! arguments, displays -/
theorem ja_nil (hK : X.K = K := by rfl) : JA K E X [] tNil mNil := ⟨hK, pa_nil, sd_nil⟩
theorem ja_cons (ha : JE K E X e ta ma) (hr : JA K E X es t m) (hs : starEach (e :: es) X.env = (false, eval e X.env) :: starEach es X.env := by rfl) : JA K E X (e :: es) (tCons ta t) (mCons ma m) := ⟨ha.k, pa_cons ha.p hr.p hs, sd_cons ha.s hr.s⟩
theorem je_tup {x1} (h : JA K E X es t m) : JE K E X (.Tuple es x1 pos) (tTup t) (mTup m) := ⟨h.k, pe_tup h.p, sd_tup h.s⟩
theorem jf_lst (h : JA K E X es t m) : JF K E X (.List es pos) (tLst t) (mLst m) := ⟨h.k, pe_lst h.p, sf_lst h.s⟩
theorem JF.f {mf : M (List D)} (h : JF K E X e ta mf) : JE K E X e ta (mFrz mf) := ⟨h.k, h.p, sd_frz h.s⟩
theorem JF.o {mf : M (List D)} (h : JF K E X e ta mf) : JE K E X e ta (mOwn mf) := ⟨h.k, h.p, sd_own h.s⟩
/-! subscripts -/
variable {lo hi : Option Expr} {tl th : TO} {ml mh : M (Option Int)} {p2 : Pos}
theorem jo_none (hK : X.K = K := by rfl) : JO K E X none tNoPart mNoPart := ⟨hK, po_none, sd_noPart⟩
theorem jo_some (ha : JE K E X a ta ma) : JO K E X (some a) (tPart ta) (mPart ma) := ⟨ha.k, po_some ha.p, sd_part ha.s⟩
theorem jf_sl (ha : JE K E X a ta ma) (hl : JO K E X lo tl ml) (hh : JO K E X hi th mh) : JF K E X (.Subscript a (.Slice lo hi none p2) pos) (tSl (rSlL K) ta tl th) (mSlL ma ml mh) := by
  obtain ⟨hK, hp, hq⟩ := ha
  subst hK
  exact ⟨rfl, pe_slice sl_list hp hl.p hh.p, sf_slL hq hl.s hh.s⟩
/-! built-ins -/
variable {x : Str} {pn : Pos}
theorem je_bf {id : String} {r : List V → Hp → VK → Prop} {f : List D → AH → R D} (hr : CallR X (.builtin id) r) (hs : CbS K E r f) (hm : X.mg x = none) (ha : JA K E X (e :: es) t m) (hv : bootBuiltins x = some (.builtin id) := by decide +kernel) (hg : Gl X x := by rfl)
    (hn : x ≠ "__name__" := by decide) (hd : (x == ("__debug__" : Str)) = false := by decide) (he : starEach (e :: es) X.env = (false, eval e X.env) :: starEach es X.env := by rfl) (hpl : (backTo pos (starEach es X.env)).any (·.1) = false := by rfl) :
    JE K E X (.Call (.Name x pn) (e :: es) [] pos) (tCB r t) (mCB f m) := ⟨ha.k, pe_callB hr hg hm hv ha.p hn hd he hpl, sd_cb hs ha.s⟩
theorem je_bt {id : String} {r : List V → Hp → VK → Prop} {f : List D → AH → R D} (hr : CallR X (.type id) r) (hs : CbS K E r f) (hm : X.mg x = none) (ha : JA K E X (e :: es) t m) (hv : bootBuiltins x = some (.type id) := by decide +kernel) (hg : Gl X x := by rfl)
    (hn : x ≠ "__name__" := by decide) (hd : (x == ("__debug__" : Str)) = false := by decide) (he : starEach (e :: es) X.env = (false, eval e X.env) :: starEach es X.env := by rfl) (hpl : (backTo pos (starEach es X.env)).any (·.1) = false := by rfl) :
    JE K E X (.Call (.Name x pn) (e :: es) [] pos) (tCB r t) (mCB f m) := ⟨ha.k, pe_callTy hr hg hm hv ha.p hn hd he hpl, sd_cb hs ha.s⟩
/-- what a built-in function does -/
structure JBf (K : PySem.W.Frag) (E : XK) (X : Cx) (v : Value) (r : List V → Hp → VK → Prop) (f : List D → AH → R D) : Prop where
  o : CallR X v r
  s : CbS K E r f
structure JBl (K : PySem.W.Frag) (E : XK) (X : Cx) (v : Value) (r : List V → Hp → VK → Prop) (f : List D → AH → R (List D)) : Prop where
  o : CallR X v r
  s : CbF K E r f
theorem jb_abs : JBf K E X (.builtin "abs") (fun xs H Q => ∃ i, xs = [.int i] ∧ Q (.int (if i < 0 then -i else i)) H) absD := ⟨call_abs, cb_abs⟩
theorem jb_max2 (hc : X.calm = true := by rfl) : JBf K E X (.builtin "max") (fun xs H Q => ∃ i j, xs = [.int i, .int j] ∧ Q (.int (if j > i then j else i)) H) max2D := ⟨call_max2 hc, cb_max2⟩
theorem jb_min2 (hc : X.calm = true := by rfl) : JBf K E X (.builtin "min") (fun xs H Q => ∃ i j, xs = [.int i, .int j] ∧ Q (.int (if j < i then j else i)) H) min2D := ⟨call_min2 hc, cb_min2⟩
theorem jb_divmod : JBf K E X (.builtin "divmod") (fun xs H Q => ∃ i j, xs = [.int i, .int j] ∧ CDiv i j ∧ ∀ p, H p = none → Q (.ref p) (upd H p (.tup [.int (i / j), .int (i % j)]))) divmodD := ⟨call_divmod, cb_divmod⟩
theorem jb_tuple (hK : X.K = K := by rfl) : JBf K E X (.type "tuple") (fun xs H Q => ∃ p ys, xs = [.ref p] ∧ ((SqL K H p ys ∧ ∀ l, H l = none → Q (.ref l) (upd H l (.tup ys))) ∨ (SqT K H p ys ∧ Q (.ref p) H))) tupleD := by subst hK; exact ⟨call_tuple_of, cb_tuple⟩
theorem jb_all (hc : X.calm = true := by rfl) (hK : X.K = K := by rfl) : JBf K E X (.builtin "all") (rAll K) (allD false) := by subst hK; exact ⟨cr_all hc, cb_all⟩
theorem jb_isi (hK : X.K = K := by rfl) : JBf K E X (.builtin "isinstance") (rIsi K) isiD := by subst hK; exact ⟨call_isi, cb_isi⟩
theorem je_b {id : String} {r : List V → Hp → VK → Prop} {f : List D → AH → R D} (h : JBf K E X (.builtin id) r f) (hm : X.mg x = none) (ha : JA K E X (e :: es) t m) (hv : bootBuiltins x = some (.builtin id) := by decide +kernel) (hg : Gl X x := by rfl)
    (hn : x ≠ "__name__" := by decide) (hd : (x == ("__debug__" : Str)) = false := by decide) (he : starEach (e :: es) X.env = (false, eval e X.env) :: starEach es X.env := by rfl) (hpl : (backTo pos (starEach es X.env)).any (·.1) = false := by rfl) :
    JE K E X (.Call (.Name x pn) (e :: es) [] pos) (tCB r t) (mCB f m) := je_bf h.o h.s hm ha hv hg hn hd he hpl
theorem je_t {id : String} {r : List V → Hp → VK → Prop} {f : List D → AH → R D} (h : JBf K E X (.type id) r f) (hm : X.mg x = none) (ha : JA K E X (e :: es) t m) (hv : bootBuiltins x = some (.type id) := by decide +kernel) (hg : Gl X x := by rfl)
    (hn : x ≠ "__name__" := by decide) (hd : (x == ("__debug__" : Str)) = false := by decide) (he : starEach (e :: es) X.env = (false, eval e X.env) :: starEach es X.env := by rfl) (hpl : (backTo pos (starEach es X.env)).any (·.1) = false := by rfl) :
    JE K E X (.Call (.Name x pn) (e :: es) [] pos) (tCB r t) (mCB f m) := je_bt h.o h.s hm ha hv hg hn hd he hpl
/-! methods of lists -/
variable {name : Str} {apos : Pos}
structure JM (K : PySem.W.Frag) (E : XK) (X : Cx) (T id : String) (r : V → List V → Hp → VK → Prop) (ok : D → AH → Bool) (f : D → List D → AH → R D) : Prop where
  o : MtR X id r
  s : MtS K E T r ok f
/-! own defs -/
/-- a def of the text as a caller wants it -/
structure Cal (P : Program) (w : World) (K : PySem.W.Frag) (mg : Str → Option Value) (base : Heap) (k : Nat) (x : Str) (ps : List Str) (F : Fn) (st : Stmt) : Prop where
  ex : ∃ f fd, FnG P w K mg base (L2.CX P w) k f fd ps (spD K ps.length F) ∧ mg x = some (.ref f) ∧ PySem.W.keepIn K (.ref f) = true ∧ Binds K fd ps [] ∧ ∃ q, FunD K q q (defArgs st) (defBody st) (defScope st) [] [] f fd
variable {k : Nat} {ps : List Str} {F : Fn} {st : Stmt}
theorem je_call {n : Nat} (G : Cal X.prog X.w K X.mg X.base k x ps F st) (hr : Room k X.A) (hgu : X.A.guards = some []) (ha : JA K E X (e :: es) t m) (hn : ps.length = n := by rfl) (hx : Passes (L2.CX X.prog X.w) X E := by first | exact passE | exact passX) (hg : Gl X x := by rfl)
    (hdb : (x == ("__debug__" : Str)) = false := by decide) (he : starEach (e :: es) X.env = (false, eval e X.env) :: starEach es X.env := by rfl) (hpl : (backTo pos (starEach es X.env)).any (·.1) = false := by rfl) :
    JE K E X (.Call (.Name x pn) (e :: es) [] pos) (tCall (spD K n F) [] E t) (mCall n F m) := by
  obtain ⟨hK, hp, hq⟩ := ha
  subst hK
  subst hn
  obtain ⟨f, fd, G, hm, hk, hb, _⟩ := G.ex
  exact ⟨rfl, pe_callG G hr hgu hg hm hk hb hx hp hdb he hpl, sd_call hq⟩
/-- keywords put into the parameters' order: the places among positional values, then keywords -/
def permL {α : Type} (n m : Nat) (ix : List Nat) (d : α) (us ws : List α) : List α := if us.length = n ∧ ws.length = m then ix.map (fun i => (us ++ ws).getD i d) else []
theorem permL_len {α : Type} {n m : Nat} {ix : List Nat} {d : α} {us ws : List α} {l : Nat} (h : (permL n m ix d us ws).length = l) (hl : 0 < l) : us.length = n ∧ ws.length = m := by
  unfold permL at h
  split at h
  · assumption
  · rw [List.length_nil] at h; omega
theorem vals_getD {vs : List V} {us : List Value} (r : Vals vs us) (i : Nat) : RelV (vs.getD i .non) (us.getD i .none) := by
  rw [List.getD_eq_getElem?_getD, List.getD_eq_getElem?_getD]
  cases e : vs[i]? with
  | none => rw [r.none_of e]; rfl
  | some v => obtain ⟨u, e2, q⟩ := r.get e; rw [e2]; exact q
theorem vals_map {f : Nat → V} {g : Nat → Value} (h : ∀ i, RelV (f i) (g i)) : ∀ ix : List Nat, Vals (ix.map f) (ix.map g)
  | [] => .nil
  | i :: ix => .cons (h i) (vals_map h ix)
theorem repL_map {ρ : Ro} {P : Hp} {f : Nat → D} {g : Nat → V} (h : ∀ i, Rep K ρ P (f i) (g i)) : ∀ ix : List Nat, RepL K ρ P (ix.map f) (ix.map g)
  | [] => .nil
  | i :: ix => .cons (h i) (repL_map h ix)
theorem permL_vals {n m : Nat} {ix : List Nat} {vs zs : List V} {us ws : List Value} (r : Vals vs us) (q : Vals zs ws) : Vals (permL n m ix .non vs zs) (permL n m ix .none us ws) := by
  unfold permL
  rw [r.length, q.length]
  split
  · exact vals_map (fun i => vals_getD (r.append q) i) ix
  · exact .nil
theorem rep_getD {ρ : Ro} {P : Hp} {ds : List D} {vs : List V} (r : RepL K ρ P ds vs) (i : Nat) : Rep K ρ P (ds.getD i .non) (vs.getD i .non) := by
  rw [List.getD_eq_getElem?_getD, List.getD_eq_getElem?_getD]
  cases e : ds[i]? with
  | none =>
    have : vs[i]? = none := by rw [List.getElem?_eq_none_iff] at e ⊢; rw [r.length]; exact e
    rw [this]; exact .non
  | some v => obtain ⟨u, e2, q⟩ := r.get e; rw [e2]; exact q
theorem permL_rep {ρ : Ro} {P : Hp} {n m : Nat} {ix : List Nat} {ds es : List D} {vs ws : List V} (r : RepL K ρ P ds vs) (q : RepL K ρ P es ws) : RepL K ρ P (permL n m ix .non ds es) (permL n m ix .non vs ws) := by
  unfold permL
  rw [r.length, q.length]
  split
  · exact repL_map (fun i => rep_getD (r.append q) i) ix
  · exact .nil
theorem kb_of {q q' : Str} {params : Arguments} {body : List Stmt} {scope : Scope} {f : Addr} {fd : FuncData} {n l : Nat} {ks : List Str} {ix : List Nat} (F : FunD K q q' params body scope [] [] f fd) (h0 : 0 < ps.length) (hks : ks.length = l)
    (h : ∀ (kV doc pm : Value) (an : Option Addr) (cdv ct : Value) (us ws : List Value), us.length = n → ws.length = l → bindArgs (PySem.W.fnOf q q' params body scope .none kV doc pm an cdv ct) ⟨us, ks.zip ws⟩ = pure (ps.zip (permL n l ix .none us ws))) :
    KBinds K fd ps ks (permL n l ix .none) (permL n l ix .non) := by
  obtain ⟨oc, od, dV, kV, doc, pm, an, cdv, ct, osl, rfl, lk, hcd, hD, hK⟩ := F.ex
  refine ⟨fun s us ws _ hl => ?_, fun r q => permL_vals r q⟩
  obtain ⟨e1, e2⟩ := permL_len hl h0
  rcases hD with ⟨_, rfl⟩ | ⟨e, _⟩
  · exact .of_eq (h kV doc pm an cdv ct us ws e1 e2)
  · exact absurd rfl e
variable {kws : List Keyword} {tk : TA} {mk : M (List D)} {nm : Option Str} {kpos : Pos}
theorem jk_nil (hK : X.K = K := by rfl) : JK K E X [] tNil mNil := ⟨hK, pk_nil, sd_nil⟩
theorem jk_cons (ha : JE K E X e ta ma) (hr : JK K E X kws tk mk) : JK K E X (⟨nm, e, kpos⟩ :: kws) (tCons ta tk) (mCons ma mk) := ⟨ha.k, pk_cons ha.p hr.p, sd_cons ha.s hr.s⟩
/-! what is walked -/
variable {tg : Expr}
def miRng1 (m : M (List D)) : MI := fun env h => (m env h).bind fun ds h1 => match ds with
    | [.int j] => if InW j then .ok (.items (rngD 0 j)) h1 else .bad
    | _ => .bad
def miRng2 (m : M (List D)) : MI := fun env h => (m env h).bind fun ds h1 => match ds with
    | [.int i, .int j] => if InW i ∧ InW j then .ok (.items (rngD i j)) h1 else .bad
    | _ => .bad
theorem ji_rng1 (hm : X.mg "range" = none) (ha : JA K E X [a] t m) (hg : Gl X "range" := by rfl) (hs : starEach [a] X.env = [(false, eval a X.env)] := by rfl) : JI K E X tg (.Call (.Name "range" pn) [a] [] pos) (iRng1 t) (miRng1 m) := ⟨ha.k, pi_range1 hg hm ha.p hs, si_rng1 ha.s⟩
theorem ji_rng2 (hm : X.mg "range" = none) (ha : JA K E X [a, b] t m) (hg : Gl X "range" := by rfl) (hs : starEach [a, b] X.env = [(false, eval a X.env), (false, eval b X.env)] := by rfl) (hs2 : starEach [b] X.env = [(false, eval b X.env)] := by rfl) :
    JI K E X tg (.Call (.Name "range" pn) [a, b] [] pos) (iRng2 t) (miRng2 m) := ⟨ha.k, pi_range2 hg hm ha.p hs hs2, si_rng2 ha.s⟩
/-! targets -/
theorem jg_n (i : Nat) {x : Str} (hN : X.N.Nodup) (hi : X.N[i]? = some x := by rfl) (hx : Loc X.env.scope x := by first | exact Or.inl rfl | exact Or.inr rfl) (hf : X.fn x = true ∨ X.env.scope.names.lookup x = some .local := by first | exact .inl rfl | exact .inr rfl) (hK : X.K = K := by rfl) :
    JG K E X (.Name x pos) (gName i) (mgName i) := ⟨hK, pg_name hN hi hx hf, sg_name⟩
variable {g : TG} {gs : TGs} {mg : MG} {mgs : List D → En → AH → R En}
theorem jgs_nil (hK : X.K = K := by rfl) : JGs K E X [] gNil mgNil := ⟨hK, pgs_nil, sg_nil⟩
theorem jgs_cons (ha : JG K E X e g mg) (hr : JGs K E X es gs mgs) (hs : (assignEach (e :: es) X.env).map (·.2) = assign e X.env :: (assignEach es X.env).map (·.2) := by rfl) : JGs K E X (e :: es) (gCons g gs) (mgCons mg mgs) := ⟨ha.k, pgs_cons ha.p hr.p hs, sg_cons ha.s hr.s⟩
/-! statements -/
variable {sts sts2 : List Stmt} {s0 : Stmt} {ts tu2 : TS} {ms mu2 : MS}
theorem jss_nil (hK : X.K = K := by rfl) : JSs K E X [] tNext mNext := ⟨hK, pss_nil, ss_next⟩
theorem jss_one (h : JS K E X s0 ts ms) : JSs K E X [s0] ts ms := ⟨h.k, pss_one h.p, h.s⟩
theorem jss_cons (h : JS K E X s0 ts ms) (hr : JSs K E X sts tu2 mu2) : JSs K E X (s0 :: sts) (tSeq ts tu2) (mSeq ms mu2) := ⟨h.k, pss_cons h.p hr.p, ss_seq h.s hr.s⟩
theorem js_ret (h : JE K E X e ta ma) : JS K E X (.Return (some e) pos) (tRet ta) (mRet ma) := ⟨h.k, ps_ret h.p, ss_ret h.s⟩
theorem js_if (hc : JT K E X c tt mt) (ha : JSs K E X sts ts ms) (hb : JSs K E X sts2 tu2 mu2) : JS K E X (.If c sts sts2 pos) (tIfS tt ts tu2) (mIfS mt ms mu2) := ⟨hc.k, ps_if hc.p ha.p hb.p, ss_if hc.s ha.s hb.s⟩
theorem js_never (hK : X.K = K := by rfl) : JS K E X s0 tNever (fun _ _ => .bad) := ⟨hK, ps_never, ss_never⟩
theorem js_set (i : Nat) {x : Str} (hN : X.N.Nodup) (he : JE K E X e ta ma) (hi : X.N[i]? = some x := by rfl) (hx : Loc X.env.scope x := by first | exact Or.inl rfl | exact Or.inr rfl) (hs : swapsWith e (some (.Name x pos')) pos.line X.env = pure false := by rfl)
    (hf : X.fn x = true ∨ X.env.scope.names.lookup x = some .local := by first | exact .inl rfl | exact .inr rfl) : JS K E X (.Assign [.Name x pos'] e pos) (tAsg ta (gName i)) (mAsg ma (mgName i)) := ⟨he.k, ps_set hN hi hx he.p hs hf, ss_asg he.s sg_name⟩
theorem js_asg (he : JE K E X e ta ma) (hg : JG K E X tg g mg) (hs : swapsWithSole [tg] e pos.line X.env = pure false := by rfl) (hw : swappedStores [tg] e X.env = pure none := by rfl) (h1 : (assignEach [tg] X.env).map (·.2) = [assign tg X.env] := by rfl) :
    JS K E X (.Assign [tg] e pos) (tAsg ta g) (mAsg ma mg) := ⟨he.k, ps_asg he.p hg.p hs hw h1, ss_asg he.s hg.s⟩
theorem js_par (i j : Nat) {x y : Str} {px py pt pt2 : Pos} {kt k2 : Nat} (hN : X.N.Nodup) (ha : JA K E X [a, b] t m) (hi : X.N[i]? = some x := by rfl) (hj : X.N[j]? = some y := by rfl) (hij : i ≠ j := by decide) (hx : X.env.scope.names.lookup x = some .local := by rfl) (hy : X.env.scope.names.lookup y = some .local := by rfl)
    (hc : X.calm = true := by rfl) (hw : swappedStores [.Tuple [.Name x px, .Name y py] kt pt] (.Tuple [a, b] k2 pt2) X.env = pure (some [x, y]) := by rfl) (hs : swapsWithSole [.Tuple [.Name x px, .Name y py] kt pt] (.Tuple [a, b] k2 pt2) pos.line X.env = pure false := by rfl) :
    JS K E X (.Assign [.Tuple [.Name x px, .Name y py] kt pt] (.Tuple [a, b] k2 pt2) pos) (tPar i j t) (mPar i j m) := ⟨ha.k, ps_par hc hN hi hj hij hx hy ha.p hw hs, ss_par ha.s⟩
def addI : D → D → AH → R D
  | .int i, .int j, h => .ok (.int (i + j)) h
  | _, _, _ => .bad
theorem js_while (n : Nat) (hc : JT K E X c tt mt) (hb : JSs K E X sts ts ms) (hp : PassesOwn (model X.prog X.w) X.A X.env X.xe := by first | exact PassesOwn.never | exact L2.passes_of rfl) : JS K E X (.While c sts [] pos) (tWhile tt ts) (mWhile mt ms n) := ⟨hc.k, ps_while hp hc.p hb.p, ss_while hc.s hb.s n⟩
variable {w : TI} {mi : MI}
theorem js_for (hi : JI K E X tg e w mi) (hg : JG K E X tg g mg) (hb : JSs K E X sts ts ms) (hc : X.calm = true := by rfl) (hp : PassesOwn (model X.prog X.w) X.A X.env X.xe := by first | exact PassesOwn.never | exact L2.passes_of rfl) (hs : ∀ x, foldedSetIterable e X.env x = pure x := by intro _; rfl) :
    JS K E X (.For tg e sts [] pos) (tFor w g ts) (mFor mi mg ms) := ⟨hi.k, ps_for hp hc hi.p hg.p hb.p hs, ss_for hi.s hg.s hb.s⟩
/-! comprehensions -/
theorem jts_nil (hK : X.K = K := by rfl) : JTs K E X [] tYes (fun _ h => .ok true h) := ⟨hK, pts_nil, sd_yes⟩
theorem jts_one (h : JT K E X c tt mt) : JTs K E X [c] tt mt := ⟨h.k, pts_one h.p, h.s⟩
variable {elt iter : Expr} {ifs : List Expr} {scope : Scope} {own : List (Str × Nat)} {te : TE} {me : M D}
theorem jf_lc (hN : X.N.Nodup) (hi : JI K E X tg iter w mi) (ok : BlkOk X.N X.env.scope scope own) (hv : GW (own.map (·.2)) g)
    (hg : ∀ (s : Shared) (H : Hp) (C : Addr) (cl : List (Str × Addr)) (fp : List Addr), JG K E (X.blk s H scope (compEnvC scope cl C X.env) fp) tg g mg) (ht : ∀ (s : Shared) (H : Hp) (C : Addr) (cl : List (Str × Addr)) (fp : List Addr), JTs K E (X.blk s H scope (compEnvC scope cl C X.env) fp) ifs tt mt)
    (he : ∀ (s : Shared) (H : Hp) (C : Addr) (cl : List (Str × Addr)) (fp : List Addr), JE K E (X.blk s H scope (compEnvC scope cl C X.env) fp) elt te me) (hc : X.calm = true := by rfl) (hs : ∀ x, foldedSetIterable iter X.env x = pure x := by intro _; rfl) :
    JF K E X (.ListComp elt [⟨tg, iter, ifs, 0⟩] scope pos) (tLc w g tt te (own.map (·.2))) (mLc mi mg mt me (own.map (·.2))) := by
  have hg0 := hg X.s_0 X.H_0 default [] []
  have ht0 := ht X.s_0 X.H_0 default [] []
  have he0 := he X.s_0 X.H_0 default [] []
  exact ⟨hi.k, pe_lc hc hN hi.p ok (fun s H C cl fp => (hg s H C cl fp).p) (fun s H C cl fp => (ht s H C cl fp).p) (fun s H C cl fp => (he s H C cl fp).p) hs, sf_lc hi.s hg0.s hv ht0.s he0.s⟩
end
end Ab

/-! Calls whose values hold nothing mutable: computed over the empty heap, the caller's heap stays. -/
namespace Ab
open PySem PySem.Spec L2
section
variable {K : PySem.W.Frag} {E : XK} {ρ ρ' ρ1 : Ro} {P H P' H' P1 H1 : Hp}
/-- what a def computes over nothing, told over h -/
def overD (h : AH) : R D → R D
  | .ok d _ => if below 0 d = true then .ok d h else .bad
  | .exc x fs _ => if belowL 0 (fs.map (·.2)) = true then .exc x fs h else .bad
  | .bad => .bad
def callP (n : Nat) (F : Fn) (ds : List D) (h : AH) : R D := if ds.length = n ∧ belowL 0 ds = true then overD h (F ds []) else .bad
def mCallP (n : Nat) (F : Fn) (m : M (List D)) : M D := fun env h => (m env h).bind (callP n F)
def mCallKP (n : Nat) (F : Fn) (g : List D → List D → List D) (m mk : M (List D)) : M D := fun env h => (m env h).bind fun ds h1 => (mk env h1).bind fun es h2 => callP n F (g ds es) h2
theorem step_over {h h' : AH} (s : SR K ρ P H h) (t : Step (cutR 0 ρ) P H ρ' P' H') (s' : SR K ρ' P' H' h') : Step ρ P H ρ P' H' ∧ SR K ρ P' H' h := by
  have n0 : ∀ a, NoR (cutR 0 ρ) a := fun a n e => by
    have e : (if n < 0 then ρ n else none) = some a := e
    rw [if_neg (Nat.not_lt_zero n)] at e
    cases e
  have newp : ∀ a, P a = none → ((∃ n, ρ n = some a) ∨ ∃ u, H a = some u ∧ noTup u = true) → P' a = none := fun a e z => t.newp a e (.inr (by
    rcases z with ⟨n, en⟩ | z
    · obtain ⟨o, _, r⟩ := s.here en
      exact r.own
    · exact z))
  have st : Step ρ P H ρ P' H' := ⟨fun _ _ e => e, t.pure, fun n a e e' => (by rw [e] at e'; cases e'), newp, fun a o e _ w => t.keep a o e (n0 a) w, t.there⟩
  refine ⟨st, s'.sub, s'.subD, fun n a e => ?_, s.inj, fun n o e => ?_, s.dom, s'.tabs⟩
  · exact st.noP (s.apart n a e) (.inl ⟨n, e⟩)
  · obtain ⟨a, e1, r⟩ := s.obj n o e
    exact ⟨a, e1, r.up (fun _ _ e => e) t.pure fun o e => t.keep a o e (n0 a) ⟨noC_nT (r.noC o e), .inl (s.apart n a e1)⟩⟩
theorem none_up : ∀ n a, cutR 0 ρ' n = some a → ρ n = some a := fun n a e => by
  have e : (if n < 0 then ρ' n else none) = some a := e
  rw [if_neg (Nat.not_lt_zero n)] at e
  cases e
theorem post_over {h : AH} (s : SR K ρ P H h) {Q : VK} : ∀ {r : R D}, Post K (RV K) E ρ P H Q (overD h r) → Post K (RV K) E (cutR 0 ρ) P H Q r
  | .bad, p => p
  | .exc x fs h', p => by
    intro ρ' P' H' dd t s' rx
    have p : Post K (RV K) E ρ P H Q (if belowL 0 (fs.map (·.2)) = true then .exc x fs h else .bad) := p
    split at p
    · rename_i hb
      obtain ⟨st, sr⟩ := step_over s t s'
      refine p _ P' H' dd st sr ?_
      rcases rx with z | ⟨da, fvs, e1, e2, e3, r⟩
      · exact .inl z
      · exact .inr ⟨da, fvs, e1, e2, e3, (r.cut hb).up none_up (fun _ _ e => e)⟩
    · exact p.elim
  | .ok d h', p => by
    intro ρ' P' H' v t s' w
    have p : Post K (RV K) E ρ P H Q (if below 0 d = true then .ok d h else .bad) := p
    split at p
    · rename_i hd
      obtain ⟨st, sr⟩ := step_over s t s'
      exact p _ P' H' v st sr ((w.cut hd).up none_up (fun _ _ e => e))
    · exact p.elim
theorem sp_over {n : Nat} {F : Fn} {ds : List D} {vs : List V} {h : AH} (s : SR K ρ P H h) (w : RepL K ρ P ds vs) {Q : VK} (p : Post K (RV K) E ρ P H Q (callP n F ds h)) : spD K n F vs H Q E := by
  unfold callP at p
  split at p
  · rename_i hl
    have sc := s.cut (h' := h) (n := 0) (by simp)
    exact ⟨by rw [w.length]; exact hl.1, cutR 0 ρ, P, [], ds, sc, w.cut hl.2, post_over s p⟩
  · exact p.elim
theorem sd_callP {n : Nat} {F : Fn} {t : TA} {m : M (List D)} (ha : Sd K (RVs K) E t m) : Sd K (RV K) E (tCall (spD K n F) [] E t) (mCallP n F m) := fun ρ P σ H env h s re Q p =>
  ha ρ P σ H env h s re _ (Post.bind p fun a h1 ρ1 P1 H1 v t1 s1 w1 p1 => by
    show spD K n F (v ++ []) H1 Q E
    rw [List.append_nil]
    exact sp_over s1 w1 p1)
theorem sd_callKP {n : Nat} {F : Fn} {g : List D → List D → List D} {gV : List V → List V → List V} {t tk : TA} {m mk : M (List D)} (ha : Sd K (RVs K) E t m) (hk : Sd K (RVs K) E tk mk)
    (hg : ∀ {ρ : Ro} {P : Hp} {ds es : List D} {vs ws : List V}, RepL K ρ P ds vs → RepL K ρ P es ws → RepL K ρ P (g ds es) (gV vs ws)) : Sd K (RV K) E (tCallK (spD K n F) gV E t tk) (mCallKP n F g m mk) := fun ρ P σ H env h s re Q p =>
  ha ρ P σ H env h s re _ (Post.bind p fun a h1 ρ1 P1 H1 v t1 s1 w1 p1 => hk _ _ _ _ _ _ s1 (re.step t1) _ (Post.bind p1 fun b h2 ρ2 P2 H2 u t2 s2 w2 p2 =>
    sp_over s2 (hg (w1.step t2) w2) p2))
variable {X : Cx} {k : Nat} {x : Str} {ps ks : List Str} {F : Fn} {st : Stmt} {e : Expr} {es : List Expr} {t tk : TA} {m mk : M (List D)} {pn pos : Pos} {kws : List Keyword} {l n N : Nat}
theorem je_callP (G : Cal X.prog X.w K X.mg X.base k x ps F st) (hr : Room k X.A) (hgu : X.A.guards = some []) (ha : JA K E X (e :: es) t m) (hn : ps.length = n := by rfl) (hx : Passes (L2.CX X.prog X.w) X E := by first | exact passE | exact passX) (hg : Gl X x := by rfl)
    (hdb : (x == ("__debug__" : Str)) = false := by decide) (he : starEach (e :: es) X.env = (false, eval e X.env) :: starEach es X.env := by rfl) (hpl : (backTo pos (starEach es X.env)).any (·.1) = false := by rfl) :
    JE K E X (.Call (.Name x pn) (e :: es) [] pos) (tCall (spD K n F) [] E t) (mCallP n F m) := by
  obtain ⟨hK, hp, hq⟩ := ha
  subst hK
  subst hn
  obtain ⟨f, fd, G, hm, hk, hb, _⟩ := G.ex
  exact ⟨rfl, pe_callG G hr hgu hg hm hk hb hx hp hdb he hpl, sd_callP hq⟩
theorem je_callPK0 (ix : List Nat) (G : Cal X.prog X.w K X.mg X.base k x ps F st) (hr : Room k X.A) (hgu : X.A.guards = some []) (hkw : JK K E X kws tk mk)
    (h : ∀ (q : Str) (kV doc pm : Value) (an : Option Addr) (cdv ct : Value) (us ws : List Value), us.length = 0 → ws.length = l → bindArgs (PySem.W.fnOf q q (defArgs st) (defBody st) (defScope st) .none kV doc pm an cdv ct) ⟨us, ks.zip ws⟩ = pure (ps.zip (permL 0 l ix .none us ws)))
    (hks : (backToKw pos (keywordEach kws X.env)).filterMap (·.1) = ks := by rfl) (hl : ks.length = l := by rfl) (hn : ps.length = N := by rfl) (h0 : 0 < ps.length := by decide) (hx : Passes (L2.CX X.prog X.w) X E := by first | exact passE | exact passX) (hg : Gl X x := by rfl)
    (hall : (backToKw pos (keywordEach kws X.env)).all (·.1.isSome) = true := by rfl) (hdb : (x == ("__debug__" : Str)) = false := by decide) (hpl : ((backTo pos (starEach [] X.env)).any (·.1) || (backToKw pos (keywordEach kws X.env)).any (·.1.isNone)) = false := by rfl) :
    JE K E X (.Call (.Name x pn) [] kws pos) (tCallK (spD K N F) (permL 0 l ix .non) E tNil tk) (mCallKP N F (permL 0 l ix .non) mNil mk) := by
  obtain ⟨hK, hp, hq⟩ := hkw
  subst hK
  subst hn
  obtain ⟨f, fd, G, hm, hk, hb, q, FD⟩ := G.ex
  exact ⟨rfl, pe_callKG0 G hr hgu hg hm hk (kb_of FD h0 hl (h q)) hx hp hall hks hdb hpl, sd_callKP sd_nil hq fun r q => permL_rep r q⟩
end
end Ab

/-! Dicts whose keys are flat tuples. -/
namespace Ab
open PySem PySem.Spec L2
section
variable {K : PySem.W.Frag} {E : XK} {ρ ρ' ρ1 : Ro} {P H P' H' P1 H1 : Hp}
def keyD : D → Option Key
  | .int i => some (.inl i)
  | .str x => some (.inr x)
  | _ => none
def keyL : List D → Option (List Key)
  | [] => some []
  | d :: ds => match keyD d, keyL ds with
    | some k, some ks => some (k :: ks)
    | _, _ => none
theorem keyD_ok {d : D} {v : V} {k : Key} (r : Rep K ρ P d v) (e : keyD d = some k) : v = kV k := by
  cases r <;> simp [keyD] at e
  · subst e; rfl
  · subst e; rfl
theorem keyL_ok : ∀ {ds : List D} {vs : List V} {ks : List Key}, RepL K ρ P ds vs → keyL ds = some ks → vs = ks.map kV
  | [], _, ks, r, e => by cases r; simp [keyL] at e; subst e; rfl
  | d :: ds, _, ks, r, e => by
    cases r with
    | cons a b =>
      unfold keyL at e
      cases q : keyD d with
      | none => rw [q] at e; cases e
      | some k =>
        cases q2 : keyL ds with
        | none => rw [q, q2] at e; cases e
        | some ks2 =>
          rw [q, q2] at e
          cases e
          rw [keyD_ok a q, keyL_ok b q2]; rfl
def keyT (d : D) : Option (List Key) := match d with
  | .tup ds => keyL ds
  | _ => none
theorem keyT_ok {h : AH} {d : D} {v : V} {ks : List Key} (s : SR K ρ P H h) (r : Rep K ρ P d v) (e : keyT d = some ks) : ∃ b, v = .ref b ∧ H b = some (.tup (ks.map kV)) := by
  cases r with
  | tup q w => exact ⟨_, rfl, by rw [← keyL_ok w e]; exact s.sub _ _ q rfl⟩
  | _ => cases e
def keyEq1 : Key → Key → Bool
  | .inl (.ofNat a), .inl (.ofNat b) => Nat.beq a b
  | .inl (.negSucc a), .inl (.negSucc b) => Nat.beq a b
  | .inr a, .inr b => decide (a = b)
  | _, _ => false
def keyEq : List Key → List Key → Bool
  | [], [] => true
  | a :: r, b :: s => match keyEq1 a b with
    | true => keyEq r s
    | false => false
  | _, _ => false
theorem keyEq1_is (a b : Key) : keyEq1 a b = decide (a = b) := by
  cases a with
  | inl a =>
    cases b with
    | inl b =>
      cases a with
      | ofNat a => cases b with
        | ofNat b => by_cases z : a = b
                     · subst z; simp [keyEq1]
                     · have : Nat.beq a b = false := by rw [Bool.eq_false_iff]; exact fun y => z (Nat.eq_of_beq_eq_true y)
                       simp only [keyEq1, this]
                       exact (decide_eq_false fun y => z (by cases y; rfl)).symm
        | negSucc b => simp [keyEq1]
      | negSucc a => cases b with
        | ofNat b => simp [keyEq1]
        | negSucc b => by_cases z : a = b
                       · subst z; simp [keyEq1]
                       · have : Nat.beq a b = false := by rw [Bool.eq_false_iff]; exact fun y => z (Nat.eq_of_beq_eq_true y)
                         simp only [keyEq1, this]
                         exact (decide_eq_false fun y => z (by cases y; rfl)).symm
    | inr b => cases a <;> simp [keyEq1]
  | inr a =>
    cases b with
    | inl b => cases b <;> simp [keyEq1]
    | inr b => simp [keyEq1]
theorem keyEq_is : ∀ a b : List Key, keyEq a b = decide (a = b)
  | [], [] => by simp [keyEq]
  | [], _ :: _ => by simp [keyEq]
  | _ :: _, [] => by simp [keyEq]
  | a :: r, b :: s => by
    have ih := keyEq_is r s
    simp only [keyEq, keyEq1_is]
    by_cases z : a = b
    · subst z; simp [ih]
    · simp [z]
def fGet (kvs : List (List Key × D)) (k : List Key) : Option D := (kvs.find? fun kv => keyEq kv.1 k).map (·.2)
def fPut (kvs : List (List Key × D)) (k : List Key) (v : D) : List (List Key × D) :=
  if (kvs.any fun kv => keyEq kv.1 k) = true then kvs.map (fun kv => match keyEq kv.1 k with
    | true => (kv.1, v)
    | false => kv) else kvs ++ [(k, v)]
theorem fGet_is {kvs : List (List Key × D)} {k : List Key} : fGet kvs k = (kvs.find? fun kv => decide (kv.1 = k)).map (·.2) := by
  unfold fGet
  simp only [keyEq_is]
theorem fPut_is {kvs : List (List Key × D)} {k : List Key} {v : D} : fPut kvs k v = if (kvs.any fun kv => decide (kv.1 = k)) = true then kvs.map (fun kv => if kv.1 = k then (kv.1, v) else kv) else kvs ++ [(k, v)] := by
  have e : (fun kv : List Key × D => match keyEq kv.1 k with
    | true => (kv.1, v)
    | false => kv) = (fun kv => if kv.1 = k then (kv.1, v) else kv) := by
    funext kv
    rw [keyEq_is]
    by_cases z : kv.1 = k
    · rw [decide_eq_true z, if_pos z]
    · rw [decide_eq_false z, if_neg z]
  unfold fPut
  rw [e]
  simp only [keyEq_is]
theorem get_rel {k : List Key} : ∀ {kvs : List (List Key × D)} {kws : List (List Key × V)}, kws.map (·.1) = kvs.map (·.1) → RepL K ρ P (kvs.map (·.2)) (kws.map (·.2)) →
    (fGet kvs k = none ∧ valV kws k = none) ∨ ∃ d v, fGet kvs k = some d ∧ valV kws k = some v ∧ Rep K ρ P d v
  | [], [], _, _ => .inl ⟨rfl, rfl⟩
  | [], _ :: _, e, _ => by cases e
  | _ :: _, [], e, _ => by cases e
  | p :: kvs, q :: kws, e, r => by
    simp only [List.map_cons, List.cons.injEq] at e
    simp only [List.map_cons] at r
    cases r with
    | cons a b =>
      by_cases z : p.1 = k
      · have z2 : q.1 = k := by rw [e.1]; exact z
        exact .inr ⟨p.2, q.2, by simp [fGet_is, z], by simp [valV, z2], a⟩
      · have z2 : ¬ q.1 = k := by rw [e.1]; exact z
        rcases get_rel (k := k) e.2 b with ⟨h1, h2⟩ | ⟨d, v, h1, h2, h3⟩
        · refine .inl ⟨?_, ?_⟩
          · simpa [fGet_is, z] using h1
          · simpa [valV, z2] using h2
        · refine .inr ⟨d, v, ?_, ?_, h3⟩
          · simpa [fGet_is, z] using h1
          · simpa [valV, z2] using h2
theorem any_rel {k : List Key} {kvs : List (List Key × D)} {kws : List (List Key × V)} (e : kws.map (·.1) = kvs.map (·.1)) : (kws.any fun kv => decide (kv.1 = k)) = (kvs.any fun kv => decide (kv.1 = k)) := by
  have h1 : (kws.any fun kv => decide (kv.1 = k)) = ((kws.map (·.1)).any fun x => decide (x = k)) := by rw [List.any_map]; rfl
  have h2 : (kvs.any fun kv => decide (kv.1 = k)) = ((kvs.map (·.1)).any fun x => decide (x = k)) := by rw [List.any_map]; rfl
  rw [h1, h2, e]
theorem repl_rel {k : List Key} {d : D} {v : V} (rd : Rep K ρ P d v) : ∀ {kvs : List (List Key × D)} {kws : List (List Key × V)}, kws.map (·.1) = kvs.map (·.1) → RepL K ρ P (kvs.map (·.2)) (kws.map (·.2)) →
    (kws.map fun kv => if kv.1 = k then (kv.1, v) else kv).map (·.1) = (kvs.map fun kv => if kv.1 = k then (kv.1, d) else kv).map (·.1) ∧ RepL K ρ P ((kvs.map fun kv => if kv.1 = k then (kv.1, d) else kv).map (·.2)) ((kws.map fun kv => if kv.1 = k then (kv.1, v) else kv).map (·.2))
  | [], [], _, _ => ⟨rfl, .nil⟩
  | [], _ :: _, e, _ => by cases e
  | _ :: _, [], e, _ => by cases e
  | p :: kvs, q :: kws, e, r => by
    simp only [List.map_cons, List.cons.injEq] at e
    simp only [List.map_cons] at r
    cases r with
    | cons a b =>
      obtain ⟨h1, h2⟩ := repl_rel (k := k) rd e.2 b
      by_cases z : p.1 = k
      · have z2 : q.1 = k := by rw [e.1]; exact z
        simp only [List.map_cons, z, z2, if_true]
        exact ⟨by rw [h1], .cons rd h2⟩
      · have z2 : ¬ q.1 = k := by rw [e.1]; exact z
        simp only [List.map_cons, z, z2, if_false]
        exact ⟨by rw [h1, e.1], .cons a h2⟩
theorem put_rel {k : List Key} {d : D} {v : V} (rd : Rep K ρ P d v) {kvs : List (List Key × D)} {kws : List (List Key × V)} (e : kws.map (·.1) = kvs.map (·.1)) (r : RepL K ρ P (kvs.map (·.2)) (kws.map (·.2))) :
    (putK kws k v).map (·.1) = (fPut kvs k d).map (·.1) ∧ RepL K ρ P ((fPut kvs k d).map (·.2)) ((putK kws k v).map (·.2)) := by
  rw [fPut_is]
  unfold putK
  rw [any_rel e]
  split
  · exact repl_rel rd e r
  · simp only [List.map_append, List.map_cons, List.map_nil]
    exact ⟨by rw [e], r.append (.cons rd .nil)⟩
/-! {} -/
def mDNew : M D := fun _ h => .ok (.loc h.length) (h ++ [.dct []])
theorem sd_dnew : Sd K (RV K) E tDNewT mDNew := fun ρ P σ H env h s re Q p => by
  intro a hp
  obtain ⟨s1, t⟩ := s.own hp (.dT [])
  have np : P a = none := s.noP hp
  have nr : NoR ρ a := s.noR hp
  refine p (fun n => if n = h.length then some a else ρ n) P _ _ ⟨fun n b eb => ?_, t.pure, fun n b e0 eb => ?_, t.newp, t.keep, t.there⟩ (s1.number np nr ⟨[], upd_same, rfl, .nil⟩) (.loc (by simp))
  · have z : n ≠ h.length := fun z => by rw [z, s.dom _ (Nat.le_refl _)] at eb; cases eb
    show (if n = h.length then some a else ρ n) = some b
    rw [if_neg z]; exact eb
  · have eb : (if n = h.length then some a else ρ n) = some b := eb
    split at eb
    · cases eb; exact hp
    · rw [e0] at eb; cases eb
/-! x in d, d[x] -/
def dctD (d : D) (h : AH) : Option (List (List Key × D)) := match d with
  | .loc n => (match h[n]? with
    | some (.dct kvs) => some kvs
    | _ => none)
  | .dic ks ds => some (ks.zip ds)
  | _ => none
theorem dctD_ok {h : AH} {d : D} {v : V} {kvs : List (List Key × D)} (s : SR K ρ P H h) (r : Rep K ρ P d v) (e : dctD d h = some kvs) : ∃ a kws, v = .ref a ∧ Rd H a (.dT kws) ∧ kws.map (·.1) = kvs.map (·.1) ∧ RepL K ρ P (kvs.map (·.2)) (kws.map (·.2)) := by
  cases r with
  | loc e1 =>
    obtain ⟨o, eo, x⟩ := s.here e1
    simp only [dctD, eo] at e
    cases o with
    | lst ds => cases e
    | dct kvs2 =>
      cases e
      obtain ⟨kws, e3, e4, q⟩ := x
      exact ⟨_, kws, rfl, .inl e3, e4, q⟩
    | ins c fs => cases e
    | ndt kvs => cases e
  | dic p ez l q =>
    cases e
    have l2 := q.length
    refine ⟨_, _, rfl, s.subD _ _ p, ?_, ?_⟩
    · rw [ez, List.map_fst_zip (by omega), List.map_fst_zip (by omega)]
    · rw [ez, List.map_snd_zip (by omega), List.map_snd_zip (by omega)]; exact q
  | _ => cases e
theorem dget_rd {H : Hp} {a b : Addr} {kvs : List (List Key × V)} {k : List Key} (e : Rd H a (.dT kvs)) (eb : H b = some (.tup (k.map kV))) : DGet H a (.ref b) (valV kvs k) := .inr ⟨kvs, k, b, e, rfl, eb, rfl⟩
def dInD (neg : Bool) (y d : D) (h : AH) : R D := match keyT y, dctD d h with
  | some k, some kvs => .ok (.bl (if neg then !(fGet kvs k).isSome else (fGet kvs k).isSome)) h
  | _, _ => .bad
def dGetD (d y : D) (h : AH) : R D := match keyT y, dctD d h with
  | some k, some kvs => (match fGet kvs k with
    | some v => .ok v h
    | none => .bad)
  | _, _ => .bad
/-! d[x] = v -/
def dPutD (v d y : D) (h : AH) : R Unit := match d, keyT y, dctD d h with
  | .loc n, some k, some kvs => if kvs.length < sizeLine then .ok () (h.set n (.dct (fPut kvs k v))) else .bad
  | _, _, _ => .bad
def mDPut (mv md my : M D) : MS := fun env h => (mv env h).then fun v h1 => (md env h1).then fun d h2 => (my env h2).then fun y h3 => (dPutD v d y h3).then fun _ h4 => .nx env h4
variable {X : Cx} {a b : Expr} {ta tb tc : TE} {ma mb mc : M D} {pos pos' : Pos} {c : Expr} {k : Nat}
theorem je_dnew (hK : X.K = K := by rfl) : JE K E X (.Dict [] [] pos) tDNewT mDNew := ⟨hK, pe_dnewT, sd_dnew⟩
/-! three at once -/
def mPar3 (i j l : Nat) (m : M (List D)) : MS := fun env h => (m env h).then fun ds h1 => match ds with
  | [a, b, c] => .nx (((env.set i (some a)).set j (some b)).set l (some c)) h1
  | _ => .bad
end
end Ab

/-! Texts taken apart, ranges as lists and tuples, two sequences side by side. -/
namespace Ab
open PySem PySem.Spec L2
section
variable {K : PySem.W.Frag} {E : XK} {ρ ρ' ρ1 : Ro} {P H P' H' P1 H1 : Hp}
/-! list(range(..)), tuple(range(..)) -/
structure JR (K : PySem.W.Frag) (E : XK) (X : Cx) (e : Expr) (t : L2.St → Hp → (Int → Int → Hp → Prop) → Prop) (m : M (Int × Int)) : Prop where
  k : X.K = K
  p : PRg X e t
  s : ∀ ρ P σ H env h, SR K ρ P H h → RE K ρ P env σ → ∀ Q : Int → Int → Hp → Prop, Post K (RQ (Int × Int)) E ρ P H (fun ab H => Q ab.1 ab.2 H) (m env h) → t σ H Q
def mRg1 (ma : M D) : M (Int × Int) := fun env h => (ma env h).bind fun a h1 => match a with
  | .int n => .ok (0, n) h1
  | _ => .bad
def mRg2 (ma mb : M D) : M (Int × Int) := fun env h => (ma env h).bind fun a h1 => (mb env h1).bind fun b h2 => match a, b with
  | .int i, .int j => .ok (i, j) h2
  | _, _ => .bad
variable {X : Cx} {a b : Expr} {ta tb : TE} {ma mb : M D} {pos pn : Pos} {tr : L2.St → Hp → (Int → Int → Hp → Prop) → Prop} {mr : M (Int × Int)} {e : Expr}
instance insRg (a b : Int) : Decidable (RgOk a b) := inferInstanceAs (Decidable (_ ∧ _))
def mLstRg (m : M (Int × Int)) : M (List D) := fun env h => (m env h).bind fun ab h1 => if InW ab.1 ∧ InW ab.2 ∧ (ab.2 - ab.1).toNat ≤ 2 ^ 24 then .ok (rngD ab.1 ab.2) h1 else .bad
def mTupRg (m : M (Int × Int)) : M D := fun env h => (m env h).bind fun ab h1 => if InW ab.1 ∧ InW ab.2 ∧ (ab.2 - ab.1).toNat ≤ 2 ^ 24 then .ok (.tup (rngD ab.1 ab.2)) h1 else .bad
/-! s.split(sep) -/
def mSplit (mo me : M D) : M (List D) := fun env h => (mo env h).bind fun a h1 => match a with
  | .str x => (me env h1).bind fun b h2 => (match b with
    | .str y => if (y.length == 0) = false ∧ x.length + 2 ≤ sizeLine then .ok ((Txt.split x y).map D.str) h2 else .bad
    | _ => .bad)
  | _ => .bad
/-! int(text) -/
def intSD : List D → AH → R D
  | [.str x], h => (match PySem.intText? x with
    | some n => if x.length ≤ 640 then .ok (.int n) h else .bad
    | none => .bad)
  | _, _ => .bad
theorem cb_intS : CbS K E (fun xs H Q => ∃ a n, xs = [.str a] ∧ PySem.intText? a = some n ∧ a.length ≤ 640 ∧ Q (.int n) H) intSD := fun ρ P H h vs ds s w Q p => by
  unfold intSD at p
  split at p
  · obtain ⟨v, rfl, r⟩ := w.one
    cases r
    split at p
    · rename_i n en
      split at p
      · rename_i hl; exact ⟨_, n, rfl, en, hl, Post.here p s (.int _)⟩
      · exact p.elim
    · exact p.elim
  · exact p.elim
end
end Ab

/-! Two sequences side by side. -/
namespace Ab
open PySem PySem.Spec L2
section
variable {K : PySem.W.Frag} {E : XK} {ρ ρ' ρ1 : Ro} {P H P' H' P1 H1 : Hp}
def zipD (xs ys : List D) : List D := List.zipWith (fun x y => D.tup [x, y]) xs ys
def zipA : List D → Option (List D)
  | [.lst xs, .lst ys] => some (zipD xs ys)
  | [.tup xs, .tup ys] => some (zipD xs ys)
  | _ => none
def miZip (m : M (List D)) : MI := fun env h => (m env h).bind fun ds h1 => match zipA ds with
  | some l => .ok (.items l) h1
  | none => .bad
variable {X : Cx} {e e2 : Expr} {t : TA} {m : M (List D)} {pos pn tpos : Pos} {elts : List Expr} {kk : Nat}
end
end Ab

/-! Objects that never change: their attributes. -/
namespace Ab
open PySem PySem.Spec L2
section
variable {K : PySem.W.Frag} {E : XK} {ρ ρ' ρ1 : Ro} {P H P' H' P1 H1 : Hp}
def fldD (c f : Str) (d : D) (h : AH) : R D := match d with
  | .obj c' ns ds => if c' = c then (match (ns.zip ds).lookup f with
    | some v => .ok v h
    | none => .bad) else .bad
  | _ => .bad
variable {X : Cx} {a : Expr} {ta : TE} {ma : M D} {pos : Pos} {f c : Str}
end
end Ab

/-! Comprehensions with two loops. -/
namespace Ab
open PySem PySem.Spec L2
section
variable {K : PySem.W.Frag} {E : XK} {ρ ρ' ρ1 : Ro} {P H P' H' P1 H1 : Hp}
def lc2Items (g : MG) (c : M Bool) (w1 : MI) (g1 : MG) (c1 : M Bool) (e : M D) (vs1 : List Nat) (env : En) : List D → AH → R (List D)
  | [], h => .ok [] h
  | d :: ds, h => (g d env h).bind fun env1 h1 => (c env1 h1).bind fun b h2 => if b = true then (w1 env1 h2).bind fun a h3 => (match a with
      | .items es => if es.length ≤ 1000 then (lcItems g1 c1 e (wipeE env1 vs1) es h3).bind fun ys h4 => (lc2Items g c w1 g1 c1 e vs1 env ds h4).bind fun r h5 => .ok (ys ++ r) h5 else .bad
      | .at_ _ => .bad) else lc2Items g c w1 g1 c1 e vs1 env ds h2
def mLc2 (w : MI) (g : MG) (c : M Bool) (w1 : MI) (g1 : MG) (c1 : M Bool) (e : M D) (vs vs1 : List Nat) : M (List D) := fun env h => (w env h).bind fun a h1 => match a with
  | .items ds => if ds.length ≤ 16000 then lc2Items g c w1 g1 c1 e vs1 (wipeE env vs) ds h1 else .bad
  | .at_ _ => .bad
variable {X : Cx} {tg tg1 elt iter iter1 : Expr} {ifs ifs1 : List Expr} {scope : Scope} {own : List (Str × Nat)} {te : TE} {me : M D} {w w1 : TI} {g g1 : TG} {tt tt1 : TT} {mi mi1 : MI} {mg mg1 : MG} {mt mt1 : M Bool} {pos spos : Pos} {vs1 : List Nat}
end
end Ab

/-! join; sorted whole numbers. -/
namespace Ab
open PySem PySem.Spec L2
section
variable {K : PySem.W.Frag} {E : XK} {ρ ρ' ρ1 : Ro} {P H P' H' P1 H1 : Hp}
def strsD : List D → Option (List Str)
  | [] => some []
  | .str x :: ds => (strsD ds).map (x :: ·)
  | _ => none
/-- a list or a tuple of texts -/
def textsD (d : D) (h : AH) : Option (List Str) := match d with
  | .tup ds => strsD ds
  | d => (seqD d h).bind strsD
def joinD (a b : D) (h : AH) : R D := match a, textsD b h with
  | .str x, some ys => if (ys.map (·.length)).sum + ys.length * x.length ≤ 16777216 then .ok (.str (Txt.join x ys)) h else .bad
  | _, _ => .bad
def mJoin (mo me : M D) : M D := fun env h => (mo env h).bind fun a h1 => match a with
  | .str x => (me env h1).bind fun b h2 => joinD (.str x) b h2
  | _ => .bad
variable {X : Cx} {a b : Expr} {ta tb : TE} {ma mb : M D} {pos apos : Pos}
/-! sorted(ints) -/
def insI (x : Int) : List Int → List Int
  | [] => [x]
  | y :: l => if x ≤ y then x :: y :: l else y :: insI x l
def sortI : List Int → List Int
  | [] => []
  | x :: l => insI x (sortI l)
def sortedD (ds : List D) (h : AH) : R (List D) := match ds with
  | [d] => (match (seqD d h).bind intsD with
    | some ns => .ok ((sortI ns).map D.int) h
    | none => .bad)
  | _ => .bad
variable {x : Str} {pn : Pos} {e : Expr} {es : List Expr} {t : TA} {m : M (List D)}
end
end Ab

/-! Starred parts of displays and of argument lists. -/
namespace Ab
open PySem PySem.Spec L2
section
variable {K : PySem.W.Frag} {E : XK} {ρ ρ' ρ1 : Ro} {P H P' H' P1 H1 : Hp}
/-- what a star spreads: a list or a tuple -/
def spreadD (d : D) (h : AH) : Option (List D) := match d with
  | .tup ds => some ds
  | d => seqD d h
theorem spreadD_ok {h : AH} {d : D} {v : V} {ds : List D} (s : SR K ρ P H h) (w : Rep K ρ P d v) (e : spreadD d h = some ds) : ∃ p vs, v = .ref p ∧ (SqL K H p vs ∨ SqT K H p vs) ∧ RepL K ρ P ds vs := by
  by_cases z : ∃ ds, d = .tup ds
  · obtain ⟨es, rfl⟩ := z
    cases w with
    | tup q r =>
      have e : some es = some ds := e
      cases e
      exact ⟨_, _, rfl, .inr (.of (s.sub _ _ q rfl)), r⟩
  · have e : seqD d h = some ds := by
      cases d with
      | tup ds => exact absurd ⟨ds, rfl⟩ z
      | _ => exact e
    obtain ⟨a, vs, rfl, sq, r⟩ := seqD_sq s w e
    exact ⟨a, vs, rfl, .inl sq, r⟩
def mStar (ma : M D) (mr : M (List D)) : M (List D) := fun env h => (ma env h).bind fun a h1 => match spreadD a h1 with
  | some ds => (mr env h1).bind fun r h2 => .ok (ds ++ r) h2
  | none => .bad
variable {X : Cx} {e : Expr} {es : List Expr} {te : TE} {t : TA} {me : M D} {m : M (List D)} {sp : Pos}
end
end Ab

/-! enumerate of a tuple: how the thing is made (the turns are still to be done). -/
namespace Ab
open PySem PySem.Spec PyProof.Rows L2
/-- the tuple's own iterator, then the enumerate over it -/
abbrev tupIt (l : Addr) : Obj := { cls := .type "tuple_iterator", data := .fields #[.ref l, .int 0 0] }
abbrev enumOver (it : Addr) : Obj := { cls := .type "enumerate", data := .fields #[.none, .bool false, .ref it, rawInt 0, .none, .none] }
/-- the tuple at a, each item in a new pair -/
def IteT (K : PySem.W.Frag) (a : Addr) : It :=
  ⟨fun i H => ∃ (xs : List V) (x : V), SqT K H a xs ∧ xs[i]? = some x, fun i H v H2 => ∃ T x, v = .ref T ∧ H T = none ∧ H2 = upd H T (.tup [.int (i : Nat), x]) ∧ ∀ xs, SqT K H a xs → xs[i]? = some x, fun i H => ∃ xs : List V, SqT K H a xs ∧ xs.length ≤ i⟩
def iEnumA (K : PySem.W.Frag) (ta : TA) : TI := fun σ H R => ta σ H fun vs H1 => ∃ a xs, vs = [.ref a] ∧ ((SqL K H1 a xs ∧ R (Ite K a) H1) ∨ (SqT K H1 a xs ∧ R (IteT K a) H1))
end Ab

/-! enumerate: the pairs. -/
namespace Ab
open PySem PySem.Spec L2
section
variable {K : PySem.W.Frag} {E : XK} {ρ ρ' ρ1 : Ro} {P H P' H' P1 H1 : Hp}
def enumD (ds : List D) : List D := ds.zipIdx.map fun p => D.tup [.int (p.2 : Nat), p.1]
def enumA (ds : List D) : Option (List D) := match ds with
  | [.lst xs] => some (enumD xs)
  | [.tup xs] => some (enumD xs)
  | _ => none
def miEnum (m : M (List D)) : MI := fun env h => (m env h).bind fun ds h1 => match enumA ds with
  | some l => .ok (.items l) h1
  | none => .bad
variable {X : Cx} {e : Expr} {t : TA} {m : M (List D)} {pos pn tpos : Pos} {elts : List Expr} {kk : Nat}
end
end Ab

/-! Dict comprehensions whose keys are flat tuples. -/
namespace Ab
open PySem PySem.Spec L2
end Ab

/-! One core for the comprehensions of every kind. -/
namespace Ab
open PySem PySem.Spec L2 PyProof.Rows
/-- what a turn does behind its tests: from a state to all states behind -/
abbrev Act := Addr → Env → (Shared → Prop) → Shared → Prop
abbrev TAct := Addr → L2.St → Hp → (Hp → Prop) → Prop
def ActOk (X : Cx) (act : Act) (vs : List Nat) (t : TAct) : Prop := ∀ (D : Addr) (pins : List (Addr × Obj)) (s : Shared) (σ : L2.St) (H : Hp) (Q : Hp → Prop), Inv X pins σ H s → t D σ H Q →
  act D X.env (fun z => ∃ σ2 H2, Inv X pins σ2 H2 z ∧ σ2.length = σ.length ∧ (∀ (j : Nat) v, j ∉ vs → σ[j]? = some (some v) → σ2[j]? = some (some v)) ∧ Q H2) s
def ActMono (act : Act) : Prop := ∀ (D : Addr) (e : Env) (Q R : Shared → Prop) (s : Shared), (∀ z, Q z → R z) → act D e Q s → act D e R s
/-- no error comes -/
abbrev Nox : Value → Shared → Prop := fun _ _ => False
def testing (ifs : List Expr) (e : Env) : Sem Bool := forIn ifs true fun c r => if r = true then do let b ← isTrue c e (eval c e); pure (ForInStep.yield b) else pure (ForInStep.yield r)
def LoopOk (P : Program) (w : World) (A : Around) (comp tg : Expr) (ifs : List Expr) (ix : Nat) (act : Act) : Prop := ∀ (R : Result → Shared → Prop) (it : Value) (D : Addr) (e : Env) (I : Nat → Shared → Prop),
  (∀ n s, I n s → wpAny (model P w) A (pyNext it) (fun r s1 => match r with
    | none => R (.ok .next) s1
    | some v => wpAny (model P w) A (letOwnedTupleGo tg it v) (fun _ s2 => wpAny (model P w) A (assign tg e v) (fun _ s3 => wpAny (model P w) A (testing ifs e) (fun b s4 =>
        if b = true then act D e (fun z => ∃ m, m < n ∧ I m z) s4 else ∃ m, m < n ∧ I m s4) Nox s3) Nox s2) Nox s1) Nox s) →
  ∀ (n : Nat) (s : Shared), I n s → codeAny (model P w) A (.compLoop comp ix it (.ref D) e) R s
/-- what a comprehension's frame asks; o0: what stands at its thing's place when it is made -/
def tCore (o0 : Addr → HO) (wi : TI) (g : TG) (tt : TT) (ta : TAct) (vs : List Nat) : TE := fun σ H Q => wi σ H fun J H1 => ∀ D, H1 D = none → ∃ W : Nat → Nat → Hp → Prop, (∃ m, W 0 m (upd H1 D (o0 D))) ∧ ∀ i m H, W i m H →
  (J.stop i H ∧ Q (.ref D) H) ∨ (J.go i H ∧ ∃ Nx : Hp → Prop, (∀ Z, Nx Z → ∃ k, k < m ∧ W (i + 1) k Z) ∧ ∀ x Z, J.yld i H x Z → g x (wipe σ vs) Z fun σ2 H2 => wipe σ2 vs = wipe σ vs ∧ tt σ2 H2 fun b H3 =>
    if b = true then ta D σ2 H3 Nx else Nx H3)
section
variable {X : Cx}
end
end Ab

/-! The core's parts: dict comprehensions. -/
namespace Ab
open PySem PySem.Spec L2 PyProof.Rows
def actD (P : Program) (w : World) (A : Around) (kx vx : Expr) : Act := fun D e Q s => wpAny (model P w) A (eval kx e) (fun k s1 => wpAny (model P w) A (eval vx e) (fun v s2 => wpAny (model P w) A (dictSet D k v) (fun _ z => Q z) Nox s2) Nox s1) Nox s
/-- a pair whose key is a tuple is put -/
def taDT (tk tv : TE) : TAct := fun D σ H Q => tk σ H fun y H1 => tv σ H1 fun z H2 => ∃ b kvs ks, y = .ref b ∧ H2 b = some (.tup (ks.map kV)) ∧ H2 D = some (.dT kvs) ∧ kvs.length < sizeLine ∧ Q (upd H2 D (.dT (putK kvs ks z)))
section
variable {X : Cx}
end
end Ab

/-! The core's parts: a second clause. -/
namespace Ab
open PySem PySem.Spec L2 PyProof.Rows
/-- a turn of a comprehension's clause, its inner part being emit -/
def TurnEq (comp : Expr) (ix : Nat) (tg : Expr) (ifs : List Expr) (p : Pos) (emit : Addr → Env → Sem PySem.Fin → Sem PySem.Fin) : Prop := ∀ (it : Value) (D : Addr) (env : Env),
  compTurn comp ix it (.ref D) env = (do
    standAt p
    match ← pyNext it with
    | none => pure (.done .next)
    | some v =>
      letOwnedTupleGo tg it v
      assign tg env v
      let mut ok := true
      for c in ifs do
        if ok then ok ← isTrue c env (eval c env)
      if ok then
        emit D env (again (.compLoop comp ix it (.ref D) env))
      else again (.compLoop comp ix it (.ref D) env))
def EmitOk (P : Program) (w : World) (A : Around) (emit : Addr → Env → Sem PySem.Fin → Sem PySem.Fin) (act : Act) : Prop := ∀ (D : Addr) (e : Env) (Q : Shared → Prop) (s : Shared) (k : Sem PySem.Fin) (R : PySem.Fin → Shared → Prop) (E : Value → Shared → Prop), act D e Q s → (∀ z, Q z → wpAny (model P w) A k R E z) → wpAny (model P w) A (emit D e k) R E s
/-- the second clause's source, start and loop -/
def act2 (P : Program) (w : World) (A : Around) (comp i1 : Expr) : Act := fun D e Q s => wpAny (model P w) A (eval i1 e) (fun x s4 => wpAny (model P w) A (pyIter x) (fun it1 s5 =>
  codeAny (model P w) A (.compStart comp 1 it1 (.ref D) e) (fun r s' => match r with
    | .ok _ => Q s'
    | .error _ => False) s5) Nox s4) Nox s
def emit2 (comp i1 : Expr) : Addr → Env → Sem PySem.Fin → Sem PySem.Fin := fun D env k => do
  let x ← eval i1 env
  standAt i1.pos
  let x ← foldedSetIterable i1 env x
  let _ ← runOwn (.compStart comp 1 (← holding [x] (pyIter x)) (.ref D) env) env
  k
def emitDU (kx vx : Expr) (D : Addr) (env : Env) : Sem Unit := do
  let kv ← eval kx env
  let vv ← holding [kv] (eval vx env)
  standAt { kx.pos with endLine := vx.pos.endLine, endCol := vx.pos.endCol }
  holding [kv, vv] (dictSet D kv vv)
def emitD (kx vx : Expr) : Addr → Env → Sem PySem.Fin → Sem PySem.Fin := fun D env k => do
  emitDU kx vx D env
  k
/-- the second clause's start -/
def StartOk (P : Program) (w : World) (A : Around) (comp : Expr) (ix : Nat) : Prop := ∀ (R : Result → Shared → Prop) (s : Shared) (it acc : Value) (e : Env), codeAny (model P w) A (.compLoop comp ix it acc e) R s →
  wpAny (model P w) A (pyIter it) (fun it2 z => codeAny (model P w) A (.compLoop comp ix it2 acc e) R z) Nox s → codeAny (model P w) A (.compStart comp ix it acc e) R s
/-- what the second clause asks -/
def taIn (wi : TI) (g : TG) (tt : TT) (ta : TAct) (vs : List Nat) : TAct := fun D σ H Q => wi σ H fun J H1 => ∃ W : Nat → Nat → Hp → Prop, (∃ m, W 0 m H1) ∧ ∀ i m H, W i m H →
  (J.stop i H ∧ Q H) ∨ (J.go i H ∧ ∃ Nx : Hp → Prop, (∀ Z, Nx Z → ∃ k, k < m ∧ W (i + 1) k Z) ∧ ∀ x Z, J.yld i H x Z → g x (wipe σ vs) Z fun σ2 H2 => wipe σ2 vs = wipe σ vs ∧ tt σ2 H2 fun b H3 =>
    if b = true then ta D σ2 H3 Nx else Nx H3)
section
variable {X : Cx}
end
end Ab

/-! Comprehensions of every kind in the layer: what gathers is told by how it stands. -/
namespace Ab
open PySem PySem.Spec L2
/-- how what was gathered stands: at the place of the new thing -/
structure Acc (K : PySem.W.Frag) (γ : Type) where
  R : γ → Ro → Hp → Addr → HO → Prop
  up : ∀ {a ρ P D o ρ' P'}, R a ρ P D o → (∀ n x, ρ n = some x → ρ' n = some x) → (∀ x u, P x = some u → P' x = some u) → R a ρ' P' D o
  noT : ∀ {a ρ P D o}, R a ρ P D o → noTup o = true ∧ noC o
structure Up (ρ : Ro) (P H : Hp) (ρ' : Ro) (P' H' : Hp) : Prop where
  m : ∀ n a, ρ n = some a → ρ' n = some a
  p : ∀ a o, P a = some o → P' a = some o
  f : Frz H H'
section
variable {K : PySem.W.Frag} {E : XK} {ρ ρ' ρ1 ρ0 : Ro} {P H P' H' P1 H1 P0 H0 : Hp} {γ : Type} {A : Acc K γ} {D0 : Addr}
theorem Up.refl (ρ : Ro) (P H : Hp) : Up ρ P H ρ P H := ⟨fun _ _ e => e, fun _ _ e => e, Frz.refl _⟩
theorem Up.trans (a : Up ρ P H ρ1 P1 H1) (b : Up ρ1 P1 H1 ρ' P' H') : Up ρ P H ρ' P' H' := ⟨fun n x e => b.m n x (a.m n x e), fun x o e => b.p x o (a.p x o e), a.f.trans b.f⟩
theorem Step.up {h : AH} (t : Step ρ P H ρ' P' H') (s : SR K ρ P H h) : Up ρ P H ρ' P' H' := ⟨t.mono, t.pure, t.frz s⟩
structure CmS (A : Acc K γ) (ρ0 : Ro) (P0 H0 : Hp) (D0 : Addr) (ρ : Ro) (P H : Hp) (h : AH) (acc : γ) : Prop where
  t : Step ρ0 P0 H0 ρ P H
  s : SR K ρ P H h
  np : P D0 = none
  nr : NoR ρ D0
  at_ : ∃ o, H D0 = some o ∧ A.R acc ρ P D0 o
theorem CmS.step {h h' : AH} {acc : γ} (x : CmS A ρ0 P0 H0 D0 ρ P H h acc) (t : Step ρ P H ρ' P' H') (s : SR K ρ' P' H' h') : CmS A ρ0 P0 H0 D0 ρ' P' H' h' acc := by
  obtain ⟨o, e, r⟩ := x.at_
  have ne : H D0 ≠ none := by rw [e]; simp
  exact ⟨x.t.trans t, s, t.noP x.np (.inr ⟨_, e, (A.noT r).1⟩), t.noR ne x.nr, o, t.keep _ _ e x.nr ⟨noT_nT (A.noT r).1, .inl x.np⟩, A.up r t.mono t.pure⟩
/-- what was gathered changes -/
theorem CmS.put {h : AH} {acc acc' : γ} {o : HO} (x : CmS A ρ0 P0 H0 D0 ρ P H h acc) (h0 : H0 D0 = none) (r : A.R acc' ρ P D0 o) (nf : ∀ q u, H D0 ≠ some (.frz q u)) : CmS A ρ0 P0 H0 D0 ρ P (upd H D0 o) h acc' ∧ Up ρ P H ρ P (upd H D0 o) :=
  ⟨⟨x.t.loose h0, x.s.loose x.np x.nr (fun u q => by obtain ⟨o', e', r'⟩ := x.at_; rw [e'] at q; cases q; exact (A.noT r').2) (noT_nT (A.noT r).1), x.np, x.nr, o, upd_same, r⟩, fun _ _ e => e, fun _ _ e => e, fun a q u e => by
    have z : a ≠ D0 := fun z => nf q u (z ▸ e)
    rw [upd_ne z]; exact e⟩
/-- what is wanted behind a part of the gathering -/
def PostA (A : Acc K γ) (E : XK) (ρ0 : Ro) (P0 H0 : Hp) (D0 : Addr) (ρ : Ro) (P H : Hp) (Q : Hp → Prop) : R γ → Prop
  | .ok acc h' => ∀ ρ' P' H', CmS A ρ0 P0 H0 D0 ρ' P' H' h' acc → Up ρ P H ρ' P' H' → Q H'
  | .exc x fs h' => ∀ ρ' P' H' dd, Step ρ0 P0 H0 ρ' P' H' → SR K ρ' P' H' h' → RX K ρ' P' fs dd → E (.ref (He.ga K x)) dd H'
  | .bad => False
theorem PostA.up {Q : Hp → Prop} {r : R γ} (p : PostA A E ρ0 P0 H0 D0 ρ P H Q r) (u : Up ρ P H ρ1 P1 H1) : PostA A E ρ0 P0 H0 D0 ρ1 P1 H1 Q r := by
  cases r with
  | ok a h' => exact fun ρ' P' H' x u2 => p ρ' P' H' x (u.trans u2)
  | exc x fs h => exact p
  | bad => exact p
def AcOk (A : Acc K γ) (E : XK) (ta : TAct) (ac : γ → En → AH → R γ) : Prop := ∀ ρ0 P0 H0 D0, H0 D0 = none → ∀ ρ P H h σ env acc, CmS A ρ0 P0 H0 D0 ρ P H h acc → RE K ρ P env σ → ∀ Q, PostA A E ρ0 P0 H0 D0 ρ P H Q (ac acc env h) → ta D0 σ H Q
def cmItems (g : MG) (c : M Bool) (ac : γ → En → AH → R γ) (env : En) : List D → γ → AH → R γ
  | [], acc, h => .ok acc h
  | d :: ds, acc, h => (g d env h).bind fun env1 h1 => (c env1 h1).bind fun b h2 => if b = true then (ac acc env1 h2).bind fun acc' h3 => cmItems g c ac env ds acc' h3 else cmItems g c ac env ds acc h2
/-- the second clause as an action -/
def ac2 (w : MI) (g : MG) (c : M Bool) (ac : γ → En → AH → R γ) (vs : List Nat) : γ → En → AH → R γ := fun acc env h => (w env h).bind fun a h1 => match a with
  | .items es => cmItems g c ac (wipeE env vs) es acc h1
  | .at_ _ => .bad
/-- the whole comprehension: a new thing -/
def PostX (A : Acc K γ) (E : XK) (ρ : Ro) (P H : Hp) (Q : VK) : R γ → Prop
  | .ok acc h' => ∀ ρ' P' H' p o, Step ρ P H ρ' P' H' → SR K ρ' P' H' h' → H p = none → P' p = none → NoR ρ' p → H' p = some o → A.R acc ρ' P' p o → Q (.ref p) H'
  | .exc x fs h' => ∀ ρ' P' H' dd, Step ρ P H ρ' P' H' → SR K ρ' P' H' h' → RX K ρ' P' fs dd → E (.ref (He.ga K x)) dd H'
  | .bad => False
def SdX (A : Acc K γ) (E : XK) (t : TE) (m : M γ) : Prop := ∀ ρ P σ H env h, SR K ρ P H h → RE K ρ P env σ → ∀ Q, PostX A E ρ P H Q (m env h) → t σ H Q
def mCm (w : MI) (g : MG) (c : M Bool) (ac : γ → En → AH → R γ) (a0 : γ) (vs : List Nat) : M γ := fun env h => (w env h).bind fun a h1 => match a with
  | .items ds => cmItems g c ac (wipeE env vs) ds a0 h1
  | .at_ _ => .bad
end
end Ab

/-! sorted({..}): sets of tuples of whole numbers, gathered by a comprehension and sorted. -/
namespace Ab
open PySem PySem.Spec L2 PyProof.Rows PpSet
section
variable {X : Cx}
def actS (P : Program) (w : World) (A : Around) (ex : Expr) : Act := fun D e Q s => wpAny (model P w) A (eval ex e) (fun v s1 => wpAny (model P w) A (call (.builtin "set.add") [.ref D, v]) (fun _ z => Q z) Nox s1) Nox s
/-- a tuple is put into a set -/
def taST (K : PySem.W.Frag) (P : Program) (w : World) (te : TE) : TAct := fun D σ H Q => te σ H fun y H1 => ∃ b k L, y = .ref b ∧ H1 b = some (.tup (k.map V.int)) ∧ H1 D = some (SetTO P w D L) ∧ (∀ p ∈ L, SqT K H1 p.1 (p.2.map V.int)) ∧ L.length + 1 < 64 ∧
  ∀ L', (k ∈ L.map (·.2) → L' = L) → (k ∉ L.map (·.2) → L'.Perm ((b, k) :: L)) → Q (upd H1 D (SetTO P w D L'))
def emitSU (ex : Expr) (D : Addr) (env : Env) : Sem Unit := do
  let v ← eval ex env
  standAt ex.pos
  let _ ← call (.builtin "set.add") [.ref D, v]
def emitS (ex : Expr) : Addr → Env → Sem PySem.Fin → Sem PySem.Fin := fun D env k => do
  emitSU ex D env
  k
end
end Ab

/-! sorted({..}) in the layer; dict comprehensions in the layer. -/
namespace Ab
open PySem PySem.Spec L2
/-! the order of tuples of whole numbers -/
def lexI : List Int → List Int → Bool
  | [], [] => false
  | [], _ :: _ => true
  | _ :: _, [] => false
  | a :: r, b :: s => if a = b then lexI r s else decide (a < b)
def insT (x : List Int) : List (List Int) → List (List Int)
  | [] => [x]
  | y :: l => if lexI y x = true then y :: insT x l else x :: y :: l
def sortT : List (List Int) → List (List Int)
  | [] => []
  | x :: l => insT x (sortT l)
abbrev UpT (l : List (List Int)) : Prop := l.Pairwise fun a b => lexI b a = false
/-! sets of tuples -/
def intsT (d : D) : Option (List Int) := match d with
  | .tup ds => intsD ds
  | _ => none
def tupI (k : List Int) : D := .tup (k.map D.int)
theorem noC_setTO {Pg : Program} {w : World} {a : Addr} {L : List (Addr × List Int)} : noC (SetTO Pg w a L) := noC_ext fun h y => by
  obtain ⟨es, ep, t, ⟨o, ho, _, hd⟩, _⟩ := (show SetT0 Pg w h a L from y).ex
  exact ⟨_, o, ho, fun vs z => by rw [hd] at z; cases z⟩
def accS (K : PySem.W.Frag) (Pg : Program) (w : World) : Acc K (List (List Int)) where
  R ks ρ P D o := ∃ L : List (Addr × List Int), o = SetTO Pg w D L ∧ (L.map (·.2)).Perm ks ∧ ∀ p ∈ L, P p.1 = some (.tup (p.2.map V.int))
  up := by
    rintro a ρ P D o ρ' P' ⟨L, e, pm, h⟩ _ hp
    exact ⟨L, e, pm, fun p q => hp _ _ (h p q)⟩
  noT := fun ⟨L, e, _, _⟩ => by subst e; exact ⟨rfl, noC_setTO⟩
def memT (k : List Int) : List (List Int) → Bool
  | [] => false
  | x :: l => if k = x then true else memT k l
def acS (me : M D) : List (List Int) → En → AH → R (List (List Int)) := fun acc env h => (me env h).bind fun d h1 => match intsT d with
  | some k => if acc.length < 60 then .ok (if memT k acc = true then acc else acc ++ [k]) h1 else .bad
  | none => .bad
section
variable {K : PySem.W.Frag} {E : XK} {ρ ρ' ρ1 ρ0 : Ro} {P H P' H' P1 H1 P0 H0 : Hp}
def okT (ks : List (List Int)) : Bool := ks.all fun k => decide (k.length = (ks.headD []).length) && (decide (0 < k.length) && k.all fun m => decide (0 ≤ m) && decide (m < 1000))
def mSortS (m : M (List (List Int))) : M (List D) := fun env h => (m env h).bind fun ks h1 => if okT ks = true then .ok ((sortT ks).map tupI) h1 else .bad
/-! dicts with tuple keys -/
def accD (K : PySem.W.Frag) : Acc K (List (List Key × D)) where
  R kvs ρ P D o := ∃ kws : List (List Key × V), o = .dT kws ∧ kws.map (·.1) = kvs.map (·.1) ∧ RepL K ρ P (kvs.map (·.2)) (kws.map (·.2))
  up := by
    rintro a ρ P D o ρ' P' ⟨kws, e, ek, r⟩ hm hp
    exact ⟨kws, e, ek, r.up hm hp⟩
  noT := fun ⟨kws, e, _, _⟩ => by subst e; exact ⟨rfl, noC_of rfl⟩
def acD (mk mv : M D) : List (List Key × D) → En → AH → R (List (List Key × D)) := fun acc env h => (mk env h).bind fun k h1 => (mv env h1).bind fun v h2 => match keyT k with
  | some ks => if acc.length < sizeLine then .ok (fPut acc ks v) h2 else .bad
  | none => .bad
def mDicF (m : M (List (List Key × D))) : M D := fun env h => (m env h).bind fun kvs h1 => .ok (.dic (kvs.map (·.1)) (kvs.map (·.2))) h1
def mDicO (m : M (List (List Key × D))) : M D := fun env h => (m env h).bind fun kvs h1 => .ok (.loc h1.length) (h1 ++ [.dct kvs])
end
end Ab

/-! sorted(list or dict of tuples of whole numbers), of any length. -/
namespace Ab
open PySem PySem.Spec L2 PyProof.Rows
section
variable {prog : Program} {w : World} {A : Around} {E : Value → Shared → Prop} {s : Shared}
abbrev ltT (k : Value → List Int) : Value → Value → Bool := fun v u => lexI (k v) (k u)
end
/-- what is sorted comes out as the one ascending arrangement -/
def rSortTO (K : PySem.W.Frag) : List V → Hp → VK → Prop := fun vs H Q => ∃ (a : Addr) (ks : List (List Int)) (k : Addr → List Int), vs = [V.ref a] ∧ ((∃ bs : List Addr, SqL K H a (bs.map V.ref) ∧ bs.map k = ks ∧ ∀ b ∈ bs, H b = some (.tup ((k b).map V.int))) ∨
    ∃ kvs, Rd H a (.dT kvs) ∧ kvs.length ≤ sizeLine ∧ ∀ cs : List Addr, IsKeys H kvs cs → cs.map k = ks ∧ ∀ b ∈ cs, H b = some (.tup ((k b).map V.int))) ∧ (∀ x ∈ ks, x ≠ []) ∧
  ∀ (cs : List Addr) (p : Addr), (cs.map k).Perm ks → UpT (cs.map k) → (∀ b ∈ cs, H b = some (.tup ((k b).map V.int))) → H p = none → Q (.ref p) (upd H p (.lst (cs.map V.ref)))
section
variable {X : Cx}
def adr : Value → Addr
  | .ref a => a
  | _ => 0
end
end Ab

/-! Dicts walked, listed, sorted, made by comprehensions and displays; reversed slices. -/
namespace Ab
open PySem PySem.Spec L2
section
variable {K : PySem.W.Frag} {E : XK} {ρ ρ' ρ1 : Ro} {P H P' H' P1 H1 : Hp}
/-! a dict is walked -/
def keyDv : Key → D
  | .inl i => .int i
  | .inr x => .str x
def keyTD (k : List Key) : D := .tup (k.map keyDv)
theorem repL_keys : ∀ k : List Key, RepL K ρ P (k.map keyDv) (k.map kV)
  | [] => .nil
  | .inl i :: k => .cons (.int i) (repL_keys k)
  | .inr x :: k => .cons (.str x) (repL_keys k)
/-- a dict that stands is locked -/
theorem SR.lock {h : AH} (s : SR K ρ P H h) {d : Addr} {kws : List (List Key × V)} (hp : P d = some (.dT kws)) (hd : H d = some (.dT kws)) (o : Obj) : SR K ρ P (upd H d (.frz o (.dT kws))) h ∧ Step ρ P H ρ P (upd H d (.frz o (.dT kws))) := by
  have nr : NoR ρ d := fun n e => by rw [s.apart n d e] at hp; cases hp
  refine ⟨⟨fun a u e n => ?_, fun a u e => ?_, s.apart, s.inj, fun n u e => ?_, s.dom, s.tabs.upd K (fun u e => by rw [hd] at e; cases e; exact noC_of rfl) rfl⟩, ⟨fun _ _ e => e, fun _ _ e => e, fun n a e e' => (by rw [e] at e'; cases e'), fun _ e _ => e, fun a u e _ w => ?_, fun a e => ?_⟩⟩
  · have z : a ≠ d := fun z => by rw [z, hp] at e; cases e; cases n
    rw [upd_ne z]; exact s.sub a u e n
  · by_cases z : a = d
    · subst z; rw [hp] at e; cases e; exact .inr ⟨o, upd_same⟩
    · exact rd_keep (fun o e => by rw [upd_ne z]; exact e) (s.subD a u e)
  · obtain ⟨a, e1, r⟩ := s.obj n u e
    have z : a ≠ d := fun z => nr n (z ▸ e1)
    exact ⟨a, e1, r.up (fun _ _ e => e) (fun _ _ e => e) fun o e => by rw [upd_ne z]; exact e⟩
  · have z : a ≠ d := fun z => by
      subst z
      rw [hd] at e
      cases e
      rcases w.2 with w | w
      · rw [hp] at w; cases w
      · cases w
    rw [upd_ne z]; exact e
  · by_cases z : a = d
    · rw [z, upd_same]; simp
    · rw [upd_ne z]; exact e
def iKeysL (td : TE) : TI := fun σ H R => td σ H fun x H1 => ∃ d kvs, x = .ref d ∧ ((∃ o, H1 d = some (.frz o (.dT kvs)) ∧ R (Itkt d o kvs) H1) ∨ (H1 d = some (.dT kvs) ∧ ∀ o, R (Itkt d o kvs) (upd H1 d (.frz o (.dT kvs)))))
def miDic (m : M D) : MI := fun env h => (m env h).bind fun d h1 => match d with
  | .dic ks ds => if ks.length = ds.length then .ok (.items (ks.map keyTD)) h1 else .bad
  | _ => .bad
theorem itOk_K {h : AH} {d : Addr} {o : Obj} {kws : List (List Key × V)} (hd : H d = some (.frz o (.dT kws))) : ItOk K ρ P H (.items ((kws.map (·.1)).map keyTD)) (Itkt d o kws) := fun ρ' P' H' tm tp tf h' s i => by
  have hd' : H' d = some (.frz o (.dT kws)) := tf _ _ _ hd
  refine ⟨fun x e => ?_, fun e => ⟨hd', by simpa using e⟩⟩
  rw [List.getElem?_map, List.getElem?_map] at e
  cases q : kws[i]? with
  | none => rw [q] at e; cases e
  | some kv =>
    rw [q] at e
    cases e
    refine ⟨⟨hd', (List.getElem?_eq_some_iff.mp q).1⟩, fun y H2 yy => ?_⟩
    obtain ⟨rfl, k, v, a, e1, rfl, ha⟩ := yy
    rw [q] at e1
    cases e1
    obtain ⟨P2, t2, s2, e2⟩ := s.adopt ha
    exact ⟨P2, t2, s2, .tup e2 (repL_keys k)⟩
variable {X : Cx} {e : Expr} {tg : Expr} {t : TE} {m : M D}
/-! list(d), sorted(d), sorted(list of tuples) -/
def listDD : List D → AH → R (List D) := fun ds h => match ds with
  | [d] => (match dctD d h with
    | some kvs => .ok ((kvs.map (·.1)).map keyTD) h
    | none => .bad)
  | _ => .bad
def intsTs : List D → Option (List (List Int))
  | [] => some []
  | d :: ds => match intsT d, intsTs ds with
    | some k, some ks => some (k :: ks)
    | _, _ => none
def intV : V → Int
  | .int i => i
  | _ => 0
/-- the ints of the tuple that stands at b -/
def kAt (H : Hp) (b : Addr) : List Int := match H b with
  | some (.tup vs) => vs.map intV
  | _ => []
/-- the keys of a dict as rows of whole numbers -/
def keyI : List Key → Option (List Int)
  | [] => some []
  | .inl i :: k => (keyI k).map (i :: ·)
  | .inr _ :: _ => none
def keyIs' : List (List Key) → Option (List (List Int))
  | [] => some []
  | k :: l => match keyI k, keyIs' l with
    | some a, some b => some (a :: b)
    | _, _ => none
/-- what is sorted: a list or a dict -/
def rowsD (d : D) (h : AH) : Option (List (List Int)) := match dctD d h with
  | some kvs => if kvs.length ≤ sizeLine then keyIs' (kvs.map (·.1)) else none
  | none => (seqD d h).bind intsTs
def sortedTD (ds : List D) (h : AH) : R (List D) := match ds with
  | [d] => (match rowsD d h with
    | some ks => if (ks.all fun k => !k.isEmpty) = true then .ok ((sortT ks).map tupI) h else .bad
    | none => .bad)
  | _ => .bad
end
end Ab

/-! Rules for the printer: comprehensions of dicts and sets, {t: v}, x[::-1], len(d). -/
namespace Ab
open PySem PySem.Spec L2 PyProof.Rows
section
variable {K : PySem.W.Frag} {E : XK} {ρ ρ' ρ1 : Ro} {P H P' H' P1 H1 : Hp} {X : Cx}
/-! len(d) -/
theorem call_len_rd : CallR X (.builtin "len") (fun xs H Q => ∃ (p : Addr) (kvs : List (List Key × V)), xs = [.ref p] ∧ Rd H p (.dT kvs) ∧ Q (.int ((kvs.length : Nat) : Int)) H) := by
  intro pins s σ H xs us Q I r h
  obtain ⟨p, kvs, rfl, hp, q⟩ := h
  obtain ⟨u, rfl, rx⟩ := vals1 r
  obtain rfl : u = .ref p := rx
  obtain ⟨z, hd, ys, rel, dd⟩ := dt_rd I.hok hp
  have hl : kvs.length = ys.length := Paired.length rel
  refine call_len_dictH hd dd (by rw [← hl]; rw [sizeLine_eq] at z; omega) ?_
  rw [← hl]
  exact ⟨.int ((kvs.length : Nat) : Int), H, I.tok _, ⟨_, rfl⟩, q⟩
def lenDD : List D → AH → R D := fun ds h => match ds with
  | [d] => (match dctD d h with
    | some kvs => .ok (.int ((kvs.length : Nat) : Int)) h
    | none => .bad)
  | _ => .bad
theorem cb_lenD : CbS K E (fun xs H Q => ∃ (p : Addr) (kvs : List (List Key × V)), xs = [.ref p] ∧ Rd H p (.dT kvs) ∧ Q (.int ((kvs.length : Nat) : Int)) H) lenDD := fun ρ P H h vs ds s w Q p => by
  unfold lenDD at p
  split at p
  · obtain ⟨v, rfl, r⟩ := w.one
    split at p
    · rename_i kvs e
      obtain ⟨a, kws, rfl, hd, ek, _⟩ := dctD_ok s r e
      have hl : kws.length = kvs.length := by have := congrArg List.length ek; simpa using this
      exact ⟨a, kws, rfl, hd, by rw [hl]; exact Post.here p s (.int _)⟩
    · exact p.elim
  · exact p.elim
end
section
variable {K : PySem.W.Frag} {E : XK} {X : Cx} {kx vx tg iter tg1 iter1 ex : Expr} {ifs ifs1 : List Expr} {scope : Scope} {own : List (PySem.Str × Nat)} {vs1 : List Nat} {pos pn : Pos} {wi wi1 : TI} {g g1 : TG} {tt tt1 : TT} {tk tv te : TE} {mi mi1 : MI} {mg mg1 : MG} {mt mt1 : M Bool} {mk mv me : M D} {k : Nat}
/-- a dict's comprehension, one clause -/
structure JX {γ : Type} (K : PySem.W.Frag) (E : XK) (X : Cx) (A : Acc K γ) (e : Expr) (t : TE) (m : M γ) : Prop where
  k : X.K = K
  p : PE X e t
  s : SdX A E t m
end
end Ab

/-! {t: v}; x[::-1]. -/
namespace Ab
open PySem PySem.Spec L2 PyProof.Rows HT
section
variable {K : PySem.W.Frag} {E : XK} {ρ ρ' ρ1 : Ro} {P H P' H' P1 H1 : Hp} {X : Cx} {kx vx e : Expr} {pos : Pos} {tk tv te : TE} {mk mv me : M D} {k : Nat}
def tDisp1 (tk tv : TE) : TE := fun σ H Q => ∀ p, H p = none → tk σ (upd H p (.dT [])) fun y H1 => tv σ H1 fun z H2 => ∃ b ks, y = .ref b ∧ H2 b = some (.tup (ks.map kV)) ∧ H2 p = some (.dT []) ∧ Q (.ref p) (upd H2 p (.dT [(ks, z)]))
/-! t[::-1] -/
def tRevT (K : PySem.W.Frag) (te : TE) : TE := fun σ H Q => te σ H fun x H1 => ∃ a xs, x = .ref a ∧ SqT K H1 a xs ∧ ∀ p, H1 p = none → Q (.ref p) (upd H1 p (.tup xs.reverse))
/-! the layer -/
def mDisp1 (mk mv : M D) : M D := fun env h => (mk env h).bind fun y h1 => (mv env h1).bind fun z h2 => match keyT y with
  | some ks => .ok (.loc h2.length) (h2 ++ [.dct [(ks, z)]])
  | none => .bad
def mRevT (m : M D) : M D := fun env h => (m env h).bind fun d h1 => match d with
  | .tup ds => .ok (.tup ds.reverse) h1
  | _ => .bad
def mRevL (m : M D) : M (List D) := fun env h => (m env h).bind fun d h1 => match seqD d h1 with
  | some ds => .ok ds.reverse h1
  | none => .bad
end
end Ab

/-! Instances: attributes read and stored, made, properties. -/
namespace Ab
open PySem PySem.Spec L2 PyProof.Rows
section
variable {K : PySem.W.Frag} {E : XK} {ρ ρ' ρ1 : Ro} {P H P' H' P1 H1 : Hp}
def putD (f : Str) (d : D) : List (Str × D) → List (Str × D)
  | [] => [(f, d)]
  | (g, x) :: r => if g = f then (g, d) :: r else (g, x) :: putD f d r
/-- a field: of an object, of an instance in the heap -/
def attrD (c f : Str) (d : D) (h : AH) : R D := match d with
  | .obj c' ns ds => if c' = c then (match (ns.zip ds).lookup f with
    | some v => .ok v h
    | none => .bad) else .bad
  | .loc n => (match h[n]? with
    | some (.ins c' fs) => if c' = c then (match fs.lookup f with
      | some v => .ok v h
      | none => .bad) else .bad
    | _ => .bad)
  | _ => .bad
variable {X : Cx} {a : Expr} {ta : TE} {ma : M D} {pos : Pos} {f c : Str}
/-- e.f as a target -/
def gFld (K : PySem.W.Frag) (to : TE) (f : Str) : TG := fun v σ H Q => to σ H fun x H1 => ∃ a C dx fs, x = .ref a ∧ H1 a = some (.ins C dx fs) ∧ Cls K C ∧ NoAttr K C f ∧ fs.length < 1000 ∧ Q σ (upd H1 a (.ins C dx (putF f v fs)))
def mgFld (c f : Str) (mo : M D) : MG := fun d env h => (mo env h).bind fun o h1 => match o with
  | .loc n => (match h1[n]? with
    | some (.ins c' fs) => if c' = c ∧ fs.length < 1000 then .ok env (h1.set n (.ins c' (putD f d fs))) else .bad
    | _ => .bad)
  | _ => .bad
end
/-! ### a def by its positional promise, no repr under way around -/
def FnQ (P : Program) (w : World) (K : PySem.W.Frag) (mg : Str → Option Value) (base : Heap) (CX : CXT) (k : Nat) (f : Addr) (sp : Sp) : Prop :=
  ∀ (A : Around) (outer : List PySem.Env) (s : Shared) (H : Hp) (us : List Value) (vs : List V) (Q : VK) (E : XK), Room k A → A.guards = some [] → Env0 P w K mg base A outer s H → Vals vs us → sp vs H Q E →
    codeAny (model P w) A (.call (.ref f) ⟨us, []⟩) (CR CX outer P w H s Q E) s
theorem FnQ.up {CX : CXT} {P : Program} {w : World} {K : PySem.W.Frag} {mg : Str → Option Value} {base : Heap} {k : Nat} {f : Addr} {sp : Sp} (F : FnQ P w K mg base CX0 k f sp) : FnQ P w K mg base CX k f sp :=
  fun A o s H us vs Q E hr hg e0 r h => codeAny_mono (F A o s H us vs Q E hr hg e0 r h) fun _ _ z => cr_up z
/-- def f(a, .., *v) -/
def spStar (K : PySem.W.Frag) (n : Nat) (F : Fn) : Sp := fun vs H Q E => ∃ ws rest, vs = ws ++ rest ∧ ws.length = n ∧ rest.length ≤ sizeLine ∧ ∀ p, H p = none → spD K (n + 1) F (ws ++ [V.ref p]) (upd H p (.tup rest)) Q E
section
variable {P : Program} {w : World} {K : PySem.W.Frag} {mg : Str → Option Value} {base : Heap} {x qual : Str} {params : Arguments} {body : List Stmt} {scope : Scope} {f : Addr} {fd : FuncData} {N ps : List Str} {pv : Str} {k : Nat} {m : MS}
theorem FnG.q {CX : CXT} {sp : Sp} (F : FnG P w K mg base CX k f fd ps sp) (hb : Binds K fd ps []) : FnQ P w K mg base CX k f sp := fun A outer s H us vs Q E hr hg e0 r hsp => by
  have hl : us.length = ps.length := by rw [← r.length]; exact F.len _ _ _ _ hsp
  have KX : K.In s.heap := e0.mod.kin.keeps fun b o e => (e0.bs b o e).1
  have hb1 := hb s us KX (by rw [List.append_nil]; exact hl)
  rw [List.append_nil] at hb1
  exact F.go A outer s H ⟨us, []⟩ us vs Q E ⟨hr, hg⟩ e0 hb1 r hsp
theorem FnQ.mono {CX : CXT} {sp : Sp} {j : Nat} (F : FnQ P w K mg base CX j f sp) (h : j ≤ k) : FnQ P w K mg base CX k f sp := fun A outer s H us vs Q E hr => F A outer s H us vs Q E (hr.mono h)
end
/-! ### an instance is made -/
/-- what C(..) computes: its __init__ over the new instance alone; the instance does not change any more -/
def makeP (c : Str) (F : Fn) (ds : List D) (h : AH) : R D := if belowL 0 ds = true then (match F [.loc 0, .tup ds] [.ins c []] with
  | .ok .non [.ins c' fs] => if c' = c ∧ belowL 0 (fs.map (·.2)) = true then .ok (.obj c (fs.map (·.1)) (fs.map (·.2))) h else .bad
  | .exc x fs _ => if belowL 0 (fs.map (·.2)) = true then .exc x fs h else .bad
  | _ => .bad) else .bad
section
variable {K : PySem.W.Frag} {E : XK} {ρ ρ' ρ1 : Ro} {P H P' H' P1 H1 : Hp}
end
/-- what the printer knows of a class with __init__(self, *rows) -/
structure MkS (P : Program) (w : World) (K : PySem.W.Frag) (mg : Str → Option Value) (base : Heap) (k : Nat) (c : Str) (F : Fn) : Prop where
  ex : ∃ g, Mk K (He.ga K c) g ∧ FnQ P w K mg base (L2.CX P w) k g (spStar K 1 F) ∧ mg c = some (.ref (He.ga K c))
section
variable {X : Cx} {K : PySem.W.Frag} {E : XK} {k : Nat} {c : Str} {F : Fn} {e : Expr} {es : List Expr} {t : TA} {te : TE} {m : M (List D)} {me : M D} {p sp_ pos : Pos}
def mMake (c : Str) (F : Fn) (m : M (List D)) : M D := fun env h => (m env h).bind fun ds h1 => if ds.length ≤ sizeLine then makeP c F ds h1 else .bad
/-- C(*xs) -/
def mMakeS (c : Str) (F : Fn) (me : M D) : M D := fun env h => (me env h).bind fun d h1 => match spreadD d h1 with
  | some ds => if ds.length ≤ sizeLine then makeP c F ds h1 else .bad
  | none => .bad
def tMakeS (K : PySem.W.Frag) (C : Addr) (sp : Sp) (E : XK) (te : TE) : TE := fun σ H Q => te σ H fun y H1 => ∃ a vs, y = V.ref a ∧ (SqT K H1 a vs ∨ SqL K H1 a vs) ∧ ∀ x dx, H1 x = Option.none → H1 dx = Option.none → dx ≠ x →
  sp (V.ref x :: vs) (upd (upd H1 dx (.own x)) x (.ins C dx [])) (fun v H2 => v = .non ∧ Q (.ref x) H2) E
end
end Ab

/-! Properties, classmethods, methods of objects that never change. -/
namespace Ab
open PySem PySem.Spec L2 PyProof.Rows
section
variable {X : Cx} {pins : List (Addr × Obj)} {σ : L2.St} {H : Hp} {s : Shared} {K : PySem.W.Frag} {E : XK} {k : Nat} {c m x : Str} {F : Fn} {e o : Expr} {es : List Expr} {t ts : TA} {ta te : TE} {ma : M D} {md : M (List D)} {p pos apos : Pos} {sp : Sp}
/-! properties -/
def noExc (r : R D) : R D := match r with
  | .ok d h => .ok d h
  | _ => .bad
structure PrC (P : Program) (w : World) (K : PySem.W.Frag) (mg : Str → Option Value) (base : Heap) (k : Nat) (c m : Str) (F : Fn) : Prop where
  ex : ∃ p g, Cls K (He.ga K c) ∧ PropOf K (He.ga K c) m p g ∧ FnQ P w K mg base (L2.CX P w) k g (spD K 1 F)
def mProp (c : Str) (F : Fn) (ma : M D) : M D := fun env h => (ma env h).bind fun d h1 => match d with
  | .obj c' ns ds => if c' = c then noExc (callP 1 F [.obj c' ns ds] h1) else .bad
  | _ => .bad
/-! classmethods, called on the class -/
structure CmC (P : Program) (w : World) (K : PySem.W.Frag) (mg : Str → Option Value) (base : Heap) (k : Nat) (c m : Str) (n : Nat) (F : Fn) : Prop where
  ex : ∃ p g, ClX.CRead K (He.ga K c) (.type "type") ∧ ClX.CMet K (He.ga K c) (.type "type") m p g ∧ FnQ P w K mg base (L2.CX P w) k g (spD K (n + 1) F) ∧ mg c = some (.ref (He.ga K c))
def mCm2 (c : Str) (n : Nat) (F : Fn) (md : M (List D)) : M D := fun env h => (md env h).bind fun ds h1 => callP (n + 1) F (.glo c :: ds) h1
/-! a class as a value -/
/-! methods of objects that never change -/
structure MtC (P : Program) (w : World) (K : PySem.W.Frag) (mg : Str → Option Value) (base : Heap) (k : Nat) (c m : Str) (n : Nat) (F : Fn) : Prop where
  ex : ∃ g, Cls K (He.ga K c) ∧ Meth K (He.ga K c) m g ∧ FnQ P w K mg base (L2.CX P w) k g (spD K (n + 1) F)
end
/-! ### the head's facts, of any kind -/
namespace Hd
open PySem.W
abbrev Fb := Frag → Bool
def propB (c m : Str) : Fb := fun K => decide (findIn K (.ref (He.ga K c)) m = some (some (.ref (He.ma K (He.ga K c) m)))) && (decide (specialIn K (.ref (He.ma K (He.ga K c) m)) "__get__" = some (some (.builtin "property.__get__"))) &&
  (decide (takesIn K (.ref (He.ma K (He.ga K c) m)) = some true) && (match recIn K (He.ma K (He.ga K c) m) "property" with
    | some (.ref _ :: _) => true
    | _ => false)))
def creadB (c : Str) : Fb := fun K => readsIn K (He.ga K c) (.type "type") && decide (specialIn K (.ref (He.ga K c)) "__getattribute__" = some (some (.builtin "type.__getattribute__")))
def cmetB (c m : Str) : Fb := fun K => He5.wrapB K (He.ga K c) "classmethod" "classmethod.__get__" m && fnIn K (He5.wf K (He.ga K c) "classmethod" m)
/-- where defs stand -/
abbrev AtF := Frag → Addr
def atG (x : Str) : AtF := fun K => He.ga K x
def atM (c m : Str) : AtF := fun K => He.ma K (He.ga K c) m
def atP (c m : Str) : AtF := fun K => He5.wf K (He.ga K c) "property" m
def atC (c m : Str) : AtF := fun K => He5.wf K (He.ga K c) "classmethod" m
def obsB (fb : List Fb) (fn : List He5.DefA) (K : Frag) : He.AlD := ((fb.all fun f => f K) && fn.all fun d => d.ok K, fn.map fun d => He5.fnA K (d.at_ K))
def SaysB (fb : List Fb) (fn : List He5.DefA) (K : Frag) : Prop := obsB fb fn K = He5.valA fn
def obsBG (n : Nat) (fb : List Fb) (fn : List He5.DefA) (g : Addr → Option Obj) : He.AlD := obsB fb fn (He.frG g (He5.asA g n))
def hookB (n : Nat) (fb : List Fb) (fn : List He5.DefA) : PySem.W.Hook where
  α := He.AlD
  obs := fun s => obsBG n fb fn s.heap.get?
  val := fun _ => He5.valA fn
  says := fun _ h => ∃ K : Frag, K.In h ∧ SaysB fb fn K
  of := fun _ _ e => ⟨_, He.frG_in, e⟩
  keeps := fun _ _ _ ⟨K, hK, c⟩ k => ⟨K, Frag.In.keeps hK k, c⟩
theorem SaysB.fact {fb : List Fb} {fn : List He5.DefA} {K : Frag} (c : SaysB fb fn K) (i : Nat) {f : Fb} (h : fb[i]? = some f := by rfl) : f K = true := by
  have c1 := (He.ba (show ((fb.all fun f => f K) && fn.all fun d => d.ok K) = true from congrArg (fun z : He.AlD => z.1) c)).1
  exact List.all_eq_true.mp c1 f (List.mem_of_getElem? h)
theorem SaysB.def_ {fb : List Fb} {fn : List He5.DefA} {K : Frag} (c : SaysB fb fn K) (i : Nat) {d : He5.DefA} (h : fn[i]? = some d := by rfl) : ∃ fd, FunD K d.name d.qual d.params d.body d.scope (d.dvs K) (d.kws K) (d.at_ K) fd := by
  have c2 := (He.ba (show ((fb.all fun f => f K) && fn.all fun d => d.ok K) = true from congrArg (fun z : He.AlD => z.1) c)).2
  have e : fn.map (fun d => He5.fnA K (d.at_ K)) = fn.map He5.DefA.val := congrArg (fun z : He.AlD => z.2) c
  have e2 : (fn.map fun d => He5.fnA K (d.at_ K))[i]? = (fn.map He5.DefA.val)[i]? := by rw [e]
  rw [List.getElem?_map, List.getElem?_map, h] at e2
  exact He5.DefA.funD (Option.some.inj e2) (List.all_eq_true.mp c2 d (List.mem_of_getElem? h))
end Hd
end Ab

/-! One rule for lists, tuples, texts and dicts: x[i], x in y, x[i] = v, for, list(x), len(x), sorted(x). -/
namespace Ab
open PySem PySem.Spec L2 PyProof.Rows
section
variable {K : PySem.W.Frag} {E : XK} {ρ ρ' ρ1 : Ro} {P H P' H' P1 H1 : Hp} {X : Cx} {a b e : Expr} {ta tb : TE} {ma mb : M D} {pos : Pos} {k : Nat}
/-! x[i] -/
theorem ix_dict (hu : X.A.units + 1 < cLine) : IxR X (fun x y H Q => ∃ a v, x = .ref a ∧ DGet H a y (some v) ∧ Q v H) := by
  intro value slice pins s σ H x y v u Q I rx ry h hs
  obtain ⟨a, w, rfl, g, q⟩ := h
  cases rx
  exact tail_any (dict_typeIs I g) PySem.F.slot_dict_getitem.lookup (d_getItem hu I g ry fun w' s3 I3 rw' => ⟨w, H, I3, rw', q⟩) hs
def ixUD (a b : D) (h : AH) : R D := match dctD a h with
  | some kvs => (match keyT b with
    | some k => (match fGet kvs k with
      | some v => .ok v h
      | none => .bad)
    | none => .bad)
  | none => ixD a b h
abbrev rIxU (K : PySem.W.Frag) : R2 := fun x y H Q => rIx K x y H Q ∨ ∃ a v, x = .ref a ∧ DGet H a y (some v) ∧ Q v H
theorem os_ixU : OpS K E (rIxU K) ixUD := fun ρ P H h x y dx dy s wx wy Q p => by
  unfold ixUD at p
  cases ed : dctD dx h with
  | none => simp only [ed] at p; exact .inl (os_ix ρ P H h x y dx dy s wx wy Q p)
  | some kvs =>
    simp only [ed] at p
    cases ek : keyT dy with
    | none => simp only [ek] at p; exact p.elim
    | some ks =>
      simp only [ek] at p
      obtain ⟨q, eq, hq⟩ := keyT_ok s wy ek
      obtain ⟨d, kws, eu, hd, e4, r⟩ := dctD_ok s wx ed
      subst eq eu
      cases ey : fGet kvs ks with
      | none => simp only [ey] at p; exact p.elim
      | some z =>
        simp only [ey] at p
        rcases get_rel (k := ks) e4 r with ⟨h1, _⟩ | ⟨d', v', h1, h2, h3⟩
        · rw [h1] at ey; cases ey
        · rw [h1] at ey
          cases ey
          have g := dget_rd hd hq
          rw [h2] at g
          exact .inr ⟨d, v', rfl, g, Post.here p s h3⟩
theorem je_ixU (hr : Room k X.A) (ha : JE K E X a ta ma) (hb : JE K E X b tb mb) (hs : PlainIx b := by exact fun _ _ => rfl) : JE K E X (.Subscript a b pos) (tOp (rIxU K) ta tb) (mBin ixUD ma mb) := by
  obtain ⟨hK, hp, hq⟩ := ha
  subst hK
  exact ⟨rfl, pe_ix (ix_seq.or (ix_dict (hu_of hr))) hp hb.p hs, sd_op hq hb.s os_ixU⟩
/-! x in y -/
def rDin (neg : Bool) : R2 := fun y x H Q => ∃ a o, x = .ref a ∧ DGet H a y o ∧ Q (.bl (if neg then !o.isSome else o.isSome)) H
theorem op_dNotIn (hu : X.A.units + 1 < cLine) : OpR X (compareOp .NotIn) (rDin true) := by
  intro pins s σ H y x u v Q I ry rx h
  obtain ⟨a, o, rfl, g, q⟩ := h
  cases rx
  exact d_notIn hu I g ry fun s3 I3 => ⟨.bl (!o.isSome), H, I3, rfl, q⟩
def inUD (neg : Bool) (a b : D) (h : AH) : R D := match dctD b h with
  | some kvs => (match keyT a with
    | some k => .ok (.bl (if neg then !(fGet kvs k).isSome else (fGet kvs k).isSome)) h
    | none => .bad)
  | none => inD neg a b h
theorem os_inUU {neg : Bool} : OpS K E (fun x y H Q => rInU K neg x y H Q ∨ rDin neg x y H Q) (inUD neg) := fun ρ P H h x y dx dy s wx wy Q p => by
  unfold inUD at p
  cases ed : dctD dy h with
  | none => simp only [ed] at p; exact .inl (os_in ρ P H h x y dx dy s wx wy Q p)
  | some kvs =>
    simp only [ed] at p
    cases ek : keyT dx with
    | none => simp only [ek] at p; exact p.elim
    | some ks =>
      simp only [ek] at p
      obtain ⟨q, eq, hq⟩ := keyT_ok s wx ek
      obtain ⟨d, kws, eu, hd, e4, r⟩ := dctD_ok s wy ed
      subst eq eu
      refine .inr ⟨d, valV kws ks, rfl, dget_rd hd hq, ?_⟩
      have : (valV kws ks).isSome = (fGet kvs ks).isSome := by
        rcases get_rel (k := ks) e4 r with ⟨h1, h2⟩ | ⟨d, v, h1, h2, _⟩ <;> rw [h1, h2] <;> rfl
      rw [this]
      exact Post.here p s (.bl _)
theorem jc_notInU (hr : Room k X.A) (hK : X.K = K := by rfl) : JC K E X .NotIn (fun x y H Q => rInU K true x y H Q ∨ rDin true x y H Q) (inUD true) := by
  subst hK
  exact ⟨(op_notInU (by have := hr.un; omega)).or (op_dNotIn (hu_of hr)), os_inUU⟩
/-! x[i] = v -/
def rSetD : TSet := fun o i v H Q => ∃ a H4, o = .ref a ∧ DPut H a i v H4 ∧ Q H4
theorem set_dict (hu : X.A.units + 1 < cLine) : PSet X rSetD := by
  intro pins s σ H o i v ov iv u Q I ro ri rv h
  obtain ⟨a, H4, rfl, g, q⟩ := h
  cases ro
  exact d_setItem hu I g ri rv fun s4 I4 => ⟨H4, I4, q⟩
theorem PSet.or {t u : TSet} (h : PSet X t) (g : PSet X u) : PSet X (fun o i v H Q => t o i v H Q ∨ u o i v H Q) := by
  intro pins s σ H o i v ov iv w Q I ro ri rv q
  rcases q with q | q
  · exact h pins s σ H o i v ov iv w Q I ro ri rv q
  · exact g pins s σ H o i v ov iv w Q I ro ri rv q
def mgSubU (mo mi : M D) : MG := fun d env h => (mo env h).bind fun o h1 => (mi env h1).bind fun i h2 => match o with
  | .loc n => (match h2[n]? with
    | some (.lst ds) => (match i with
      | .int k => (match ixN ds.length k with
        | some j => .ok env (h2.set n (.lst (ds.set j d)))
        | none => .bad)
      | _ => .bad)
    | some (.dct kvs) => (match keyT i with
      | some k => if kvs.length < sizeLine then .ok env (h2.set n (.dct (fPut kvs k d))) else .bad
      | none => .bad)
    | _ => .bad)
  | _ => .bad
theorem sg_subU {to ti : TE} {mo mi : M D} (ho : Sd K (RV K) E to mo) (hi : Sd K (RV K) E ti mi) : SdG K E (gSub to ti (fun o i v H Q => rSetL o i v H Q ∨ rSetD o i v H Q)) (mgSubU mo mi) := fun ρ P σ H env h d v s re w Q p =>
  ho ρ P σ H env h s re _ (Post.bind p fun a h1 ρ1 P1 H1 x t1 s1 w1 p1 => hi _ _ _ _ _ _ s1 (re.step t1) _ (Post.bind p1 fun b h2 ρ2 P2 H2 y t2 s2 w2 p2 => by
    have w1 := w1.step t2
    have re2 := (re.step t1).step t2
    have w := (w.step t1).step t2
    cases w1 with
    | loc e =>
      rename_i n q
      obtain ⟨o, eo, r⟩ := s2.here e
      simp only [eo] at p2
      cases o with
      | lst ds =>
        obtain ⟨us, ev, rv⟩ := r
        cases w2 with
        | int k =>
          dsimp only at p2
          cases ej : ixN ds.length k with
          | none => simp only [ej] at p2; exact p2.elim
          | some j =>
            simp only [ej] at p2
            refine .inl ⟨q, us, k, j, rfl, rfl, ev, by rw [rv.length]; exact ej, ?_⟩
            obtain ⟨s3, t3⟩ := s2.put (u := .lst (us.set j v)) (o := .lst (ds.set j d)) e ⟨_, upd_same, rv.set w j⟩
            exact p2 _ _ _ _ t3 s3 (re2.step t3)
        | _ => exact p2.elim
      | dct kvs =>
        dsimp only at p2
        cases ek : keyT b with
        | none => simp only [ek] at p2; exact p2.elim
        | some ks =>
          simp only [ek] at p2
          by_cases hl : kvs.length < sizeLine
          · rw [if_pos hl] at p2
            obtain ⟨qb, eq, hq⟩ := keyT_ok s2 w2 ek
            obtain ⟨kws, e3, e4, r⟩ := r
            subst eq
            have hl2 : kws.length < sizeLine := by
              have := congrArg List.length e4
              simp only [List.length_map] at this
              omega
            obtain ⟨r1, r2⟩ := put_rel (k := ks) w e4 r
            obtain ⟨s4, t4⟩ := s2.put (u := .dT (putK kws ks v)) (o := .dct (fPut kvs ks d)) e ⟨_, upd_same, r1, r2⟩
            exact .inr ⟨q, _, rfl, DPut.t e3 hq hl2, p2 _ _ _ _ t4 s4 (re2.step t4)⟩
          · rw [if_neg hl] at p2; exact p2.elim
      | ins c fs => exact p2.elim
      | ndt kvs => exact p2.elim
    | _ => exact p2.elim))
theorem jg_subU (hr : Room k X.A) (ha : JE K E X a ta ma) (hb : JE K E X b tb mb) (has : ∀ v, assign (.Subscript a b pos) X.env v = (do
      let ov ← holding [v] (eval a X.env)
      let iv ← holding [v, ov] (eval b X.env)
      standAt pos
      holding [v, ov, iv] (setItem ov iv v)
      release [v, ov, iv] []) := by intro _; rfl) : JG K E X (.Subscript a b pos) (gSub ta tb (fun o i v H Q => rSetL o i v H Q ∨ rSetD o i v H Q)) (mgSubU ma mb) := ⟨ha.k, pg_sub ha.p hb.p (Ab.PSet.or set_list (set_dict (hu_of hr))) has, sg_subU ha.s hb.s⟩
/-! for -/
def iU (K : PySem.W.Frag) (ta : TE) : TI := fun σ H W => ta σ H fun x H1 => ((∃ a, x = .ref a ∧ (((∃ xs, SqL K H1 a xs) ∧ W (Itl K a) H1) ∨ ((∃ xs, SqT K H1 a xs) ∧ W (Itt K a) H1))) ∨ ∃ z, x = .str z ∧ W (Its z) H1) ∨
  ∃ d kvs, x = .ref d ∧ ((∃ o, H1 d = some (.frz o (.dT kvs)) ∧ W (Itkt d o kvs) H1) ∨ (H1 d = some (.dT kvs) ∧ ∀ o, W (Itkt d o kvs) (upd H1 d (.frz o (.dT kvs)))))
theorem pi_U {tg : Expr} (ha : PE X a ta) : PI X tg a (iU X.K ta) := by
  refine ⟨fun pins s σ H W I h => thn (ha.run pins s σ H _ I h) fun v s1 z => ?_⟩
  obtain ⟨y, H1, I1, r1, dd⟩ := z
  rcases dd with (⟨q, rfl, d⟩ | ⟨z, rfl, go⟩) | ⟨d, kvs, rfl, q⟩
  · obtain rfl : v = Value.ref q := r1
    rcases d with ⟨⟨xs, hq⟩, go⟩ | ⟨⟨xs, hq⟩, go⟩
    · obtain ⟨its, _, pl, _⟩ := I1.list hq
      refine wpAny_pyIter_list pl.isList ⟨_, [_], _, _, H1, rfl, I1.kept (t' := s1.toks) fun b o e => Heap.get?_push_of_some _ e, turn_list q _, ⟨_, Heap.get?_push_size _ rfl, rfl, rfl⟩, fun b hb => ?_, go⟩
      cases (List.mem_singleton.mp hb)
      exact I1.fpOk (Nat.le_refl _) I1.fresh
    · obtain ⟨its, _, pl, _⟩ := I1.tuple hq
      refine wpAny_pyIter_tuple (show s1.heap.IsTuple q its.toArray from pl) ⟨_, [_], _, _, H1, rfl, I1.kept (t' := s1.toks) fun b o e => Heap.get?_push_of_some _ e, turn_tuple q _, ⟨_, Heap.get?_push_size _ rfl, rfl, rfl⟩, fun b hb => ?_, go⟩
      cases (List.mem_singleton.mp hb)
      exact I1.fpOk (Nat.le_refl _) I1.fresh
  · obtain ⟨t, rfl⟩ := r1
    cases hz : z.cps.all (· < 128)
    · exact wpAny_pyIter_wide hz (pi_one (tk := s1.toks) I1 _ (turn_str _ z t "str_iterator" (.inr rfl)) ⟨_, Heap.get?_push_size _ rfl, rfl, rfl⟩ go)
    · exact wpAny_pyIter_ascii hz (pi_one (tk := s1.toks) I1 _ (turn_str _ z t "str_ascii_iterator" (.inl rfl)) ⟨_, Heap.get?_push_size _ rfl, rfl, rfl⟩ go)
  · obtain rfl : v = Value.ref d := r1
    have go : ∀ {H2 : Hp} {o : Obj}, Inv X pins σ H2 s1 → H2 d = some (.frz o (.dT kvs)) → W (Itkt d o kvs) H2 → wpAny (model X.prog X.w) X.A (pyIter (.ref d)) (PIE X pins σ tg W) X.xe s1 := fun {H2 o} I2 hd q => by
      obtain ⟨hs, hgd, hx, es, ep, hdt, hsz, ent⟩ := I2.frzT hd
      refine iter_keys hs hgd hx hdt (pi_one (tk := s1.toks) I2 _ (turn_keysT _ hdt) ⟨_, Heap.get?_push_size _ rfl, rfl, ?_⟩ q)
      rw [hsz] <;> rfl
    rcases q with ⟨o, hd, q⟩ | ⟨hd, q⟩
    · exact go I1 hd q
    · obtain ⟨od, I2⟩ := I1.lock hd True.intro
      exact go I2 upd_same (q od)
def miU (m : M D) : MI := fun env h => (m env h).bind fun d h1 => match d with
  | .str z => .ok (.items (signsD z)) h1
  | .lst ds => .ok (.items ds) h1
  | .scr ds => .ok (.items ds) h1
  | .tup ds => .ok (.items ds) h1
  | .dic ks ds => if ks.length = ds.length then .ok (.items (ks.map keyTD)) h1 else .bad
  | .loc n => (match h1[n]? with
    | some (.lst _) => .ok (.at_ n) h1
    | _ => .bad)
  | _ => .bad
theorem si_U (ha : Sd K (RV K) E ta ma) : SdI K E (iU K ta) (miU ma) := fun ρ P σ H env h s re Q p =>
  ha ρ P σ H env h s re _ (Post.bindI p fun a h1 ρ1 P1 H1 v t1 s1 w1 p1 => by
    cases w1 with
    | str z => exact .inl (.inr ⟨z, rfl, p1 ρ1 P1 H1 _ (Step.refl ..) s1 itOk_S⟩)
    | lst q r => exact .inl (.inl ⟨_, rfl, .inl ⟨⟨_, .of (s1.sub _ _ q rfl)⟩, p1 ρ1 P1 H1 _ (Step.refl ..) s1 (itOk_L (h := h1) (.of q) r)⟩⟩)
    | scr q r => exact .inl (.inl ⟨_, rfl, .inl ⟨⟨_, sqL_s s1.sub q⟩, p1 ρ1 P1 H1 _ (Step.refl ..) s1 (itOk_L (h := h1) q r)⟩⟩)
    | tup q r => exact .inl (.inl ⟨_, rfl, .inr ⟨⟨_, sqT_tk s1.sub q⟩, p1 ρ1 P1 H1 _ (Step.refl ..) s1 (itOk_T (h := h1) (.of q) r)⟩⟩)
    | loc e =>
      obtain ⟨o, eo, r⟩ := s1.here e
      cases o with
      | lst ds =>
        obtain ⟨vs, ev, rv⟩ := r
        simp only [eo] at p1
        exact .inl (.inl ⟨_, rfl, .inl ⟨⟨_, .of ev⟩, p1 ρ1 P1 H1 _ (Step.refl ..) s1 ⟨_, e, rfl⟩⟩⟩)
      | dct kvs =>
        simp only [eo] at p1
      | ins c fs =>
        simp only [eo] at p1
      | ndt kvs =>
        simp only [eo] at p1
    | dic q ez l r =>
      rename_i a ks ds kws vs
      by_cases hl : ks.length = ds.length
      · simp only [if_pos hl] at p1
        have ek : kws.map (·.1) = ks := by rw [ez, List.map_fst_zip (by omega)]
        refine .inr ⟨a, kws, rfl, ?_⟩
        rcases s1.subD _ _ q with hd | ⟨o, hd⟩
        · refine .inr ⟨hd, fun o => ?_⟩
          obtain ⟨s2, t2⟩ := s1.lock q hd o
          have j := itOk_K (K := K) (ρ := ρ1) (P := P1) (h := h1) (upd_same (H := H1) (a := a) (o := .frz o (.dT kws)))
          rw [ek] at j
          exact p1 ρ1 P1 _ _ t2 s2 j
        · refine .inl ⟨o, hd, ?_⟩
          have j := itOk_K (K := K) (ρ := ρ1) (P := P1) (h := h1) hd
          rw [ek] at j
          exact p1 ρ1 P1 H1 _ (Step.refl ..) s1 j
      · simp only [if_neg hl] at p1
    | _ => exact p1.elim)
theorem ji_U {tg : Expr} (ha : JE K E X a ta ma) : JI K E X tg a (iU K ta) (miU ma) := by
  obtain ⟨hK, hp, hq⟩ := ha
  subst hK
  exact ⟨rfl, pi_U hp, si_U hq⟩
/-! list(x), len(x), sorted(x) -/
theorem CallR.or {f : Value} {r r' : List V → Hp → VK → Prop} (h : CallR X f r) (g : CallR X f r') : CallR X f (fun xs H Q => r xs H Q ∨ r' xs H Q) := by
  intro pins s σ H xs us Q I rr q
  rcases q with q | q
  · exact h pins s σ H xs us Q I rr q
  · exact g pins s σ H xs us Q I rr q
def isDct (ds : List D) (h : AH) : Bool := match ds with
  | [d] => (dctD d h).isSome
  | _ => false
def listUD (ds : List D) (h : AH) : R (List D) := if isDct ds h = true then listDD ds h else listD ds h
def lenUD (ds : List D) (h : AH) : R D := if isDct ds h = true then lenDD ds h else lenD ds h
theorem jb_lenU (hK : X.K = K := by rfl) : JBf K E X (.builtin "len") (fun xs H Q => (∃ x n, xs = [x] ∧ LenV K x H n ∧ Q (.int n) H) ∨ ∃ (p : Addr) (kvs : List (List Key × V)), xs = [.ref p] ∧ Rd H p (.dT kvs) ∧ Q (.int ((kvs.length : Nat) : Int)) H) lenUD := by
  subst hK
  refine ⟨CallR.or call_len call_len_rd, fun ρ P H h vs ds s w Q p => ?_⟩
  unfold lenUD at p
  split at p
  · exact .inr (cb_lenD ρ P H h vs ds s w Q p)
  · exact .inl (cb_len ρ P H h vs ds s w Q p)
def isRows (ds : List D) (h : AH) : Bool := match ds with
  | [d] => (rowsD d h).isSome
  | _ => false
def sortedUD (ds : List D) (h : AH) : R (List D) := if isRows ds h = true then sortedTD ds h else sortedD ds h
end
end Ab

/-! isinstance(x, C); min(list of tuples); keyword calls as pure calls. -/
namespace Ab
open PySem PySem.Spec L2 PyProof.Rows
section
variable {K : PySem.W.Frag} {E : XK} {ρ ρ' ρ1 : Ro} {P H P' H' P1 H1 : Hp} {X : Cx} {k : Nat} {c : Str}
/-- an own class, asked for by isinstance -/
structure IsiC (K : PySem.W.Frag) (c : Str) : Prop where
  cl : Cls K (He.ga K c)
  ha : PySem.W.findIn K (.ref (He.ga K c)) "__class__" = some (some (.builtin "object.__class__"))
  hn : PySem.W.specialIn K (.builtin "object.__class__") "__get__" = some (some (.builtin "getset_descriptor.__get__"))
  htk : PySem.W.takesIn K (.builtin "object.__class__") = some true
  hm : PySem.W.mroIn K (He.ga K c) (.type "object") = some true
  no : ∀ t ∈ ["NoneType", "bool", "int", "str", "list", "tuple", "dict"], PySem.W.kitOne K (.type t) (.ref (He.ga K c)) = some false
def Hd.isiB (c : Str) : Hd.Fb := fun K => (He.Fa.cls c).ok K && (He.eqO (PySem.W.findIn K (.ref (He.ga K c)) "__class__") (some (some (.builtin "object.__class__"))) && (He.eqO (PySem.W.specialIn K (.builtin "object.__class__") "__get__") (some (some (.builtin "getset_descriptor.__get__"))) &&
  (decide (PySem.W.takesIn K (.builtin "object.__class__") = some true) && (decide (PySem.W.mroIn K (He.ga K c) (.type "object") = some true) && ["NoneType", "bool", "int", "str", "list", "tuple", "dict"].all fun t => decide (PySem.W.kitOne K (.type t) (.ref (He.ga K c)) = some false)))))
def isiCD (c : Str) : List D → AH → R D
  | [.obj c' ns ds, .glo x], h => if c' = c ∧ x = c then .ok (.bl true) h else .bad
  | [.non, .glo x], h => if x = c then .ok (.bl false) h else .bad
  | [.bl _, .glo x], h => if x = c then .ok (.bl false) h else .bad
  | [.int _, .glo x], h => if x = c then .ok (.bl false) h else .bad
  | [.str _, .glo x], h => if x = c then .ok (.bl false) h else .bad
  | [.tup _, .glo x], h => if x = c then .ok (.bl false) h else .bad
  | [.lst _, .glo x], h => if x = c then .ok (.bl false) h else .bad
  | [.dk _, .glo x], h => if x = c then .ok (.bl false) h else .bad
  | _, _ => .bad
end
/-! min of a list of tuples of whole numbers -/
section
open PySem.W PySem.SeqAt
def tupP (ns : List Int) : PyData := .tuple (ns.map PyData.int)
theorem depth_ints : ∀ ns : List Int, PyData.depthAll (ns.map PyData.int) ≤ 1
  | [] => by simp [PyData.depthAll]
  | n :: ns => by
    have := depth_ints ns
    simp only [List.map_cons, PyData.depthAll, PyData.depth]
    omega
end
section
open PySem.W (AlikeAll iter_listW cmpIn_lt moved_old)
variable {X : Cx}
abbrev minAt (ks : List (List Int)) : Nat := argBest (fun i j => lexI (ks.getD i []) (ks.getD j [])) (ks.length - 1)
def rMinT (K : PySem.W.Frag) : List V → Hp → VK → Prop := fun vs H Q => ∃ (a : Addr) (bs : List Addr) (k : Addr → List Int), vs = [V.ref a] ∧ SqL K H a (bs.map V.ref) ∧ bs ≠ [] ∧ (∀ b ∈ bs, H b = some (.tup ((k b).map V.int))) ∧
  ∀ b, bs[minAt (bs.map k)]? = some b → Q (.ref b) H
variable {K : PySem.W.Frag} {E : XK} {ρ ρ' ρ1 : Ro} {P H P' H' P1 H1 : Hp} {k : Nat}
def minTD (ds : List D) (h : AH) : R D := match ds with
  | [d] => (match seqD d h with
    | some es => (match intsTs es with
      | some ks => (match es[minAt ks]? with
        | some e => .ok e h
        | none => .bad)
      | none => .bad)
    | none => .bad)
  | _ => .bad
end
section
variable {X : Cx} {K : PySem.W.Frag} {E : XK} {k : Nat} {ps : List Str} {F : Fn} {st : Stmt} {x : Str} {pn pos : Pos} {e : Expr} {es : List Expr} {kws : List Keyword} {t tk : TA} {m mk : M (List D)}
end
end Ab

/-! (a, b, ..) = a list. -/
namespace Ab
open PySem PySem.Spec L2 PyProof.Rows
section
variable {prog : Program} {w : World} {A : Around} {E : Value → Shared → Prop} {I : Addr} {fp wr : List Addr} {n : Nat} {P : Nat → Value → Prop} {St : Nat → Heap → Prop}
theorem draw_walk (W : Walks prog w A I fp wr n P St) : ∀ (k i : Nat) (s : Shared) (Q : List Value → Shared → Prop), St i s.heap → i + k ≤ n →
    (∀ us h' tk, us.length = k → (∀ j u, us[j]? = some u → P (i + j) u) → St (i + k) h' → (∀ b o, b ∉ wr → s.heap.get? b = some o → h'.get? b = some o) → Q us { s with heap := h', toks := tk }) → wpAny (model prog w) A (draw (.ref I) k) Q E s
  | 0, i, s, Q, st, _, hQ => by
    show wpAny _ _ (pure []) Q E s
    exact wpAny_pure (hQ [] s.heap s.toks rfl (fun j u e => by cases e) st fun b o _ e => e)
  | k + 1, i, s, Q, st, hle, hQ => by
    show wpAny _ _ (pyNext (.ref I) >>= _) Q E s
    refine wpAny_bind (W.item i s _ _ (by omega) st fun v h₁ tk hP st₁ hk₁ => ?_)
    refine wpAny_bind (wpAny_holding (draw_walk W k (i + 1) _ _ st₁ (by omega) fun us h₂ tk₂ hl hp st₂ hk₂ => wpAny_pure ?_))
    refine hQ (v :: us) h₂ tk₂ (by simp [hl]) (fun j u e => ?_) (by rw [show i + (k + 1) = i + 1 + k by omega]; exact st₂) fun b o hb e => hk₂ b o hb (hk₁ b o hb e)
    cases j with
    | zero => cases e; exact hP
    | succ j => rw [show i + (j + 1) = i + 1 + j by omega]; exact hp j u e
theorem unpackItems_list {s : Shared} {l : Addr} {items : Array Value} {Q : List Value → Shared → Prop} (hh : A.handled = none) (hl : s.heap.IsList l items)
    (hQ : ∀ h' tk, (∀ b o, s.heap.get? b = some o → h'.get? b = some o) → Q items.toList { s with heap := h', toks := tk }) : wpAny (model prog w) A (unpackItems (.ref l) items.size none) Q E s := by
  have hlt : l ≠ s.heap.objs.size := by obtain ⟨o, ho, _⟩ := hl; exact Nat.ne_of_lt (Heap.lt_size ho)
  have W := Walks.list (prog := prog) (w := w) (A := A) hh s.heap.objs.size l hlt items
  unfold unpackItems
  refine wpAny_bind ?_
  · unfold notIterableAtAll
    refine wpAny_bind (wpAny_specialOf hl.typeIs PySem.F.slot_list_iter.lookup ?_)
    refine wpAny_pure ?_
    simp only [Bool.false_eq_true, if_false]
    refine wpAny_bind (wpAny_holding (wpAny_pyIter_list hl ?_))
    refine wpAny_bind (wpAny_holding (draw_walk W items.size 0 _ _ ⟨⟨_, Heap.get?_push_size _ rfl, rfl, rfl⟩, hl.push _⟩ (by omega) fun us h₁ tk₁ hlen hp st₁ hk₁ => ?_))
    have eu : us = items.toList := by
      apply List.ext_getElem?
      intro j
      cases e : us[j]? with
      | none =>
        have := List.getElem?_eq_none_iff.mp e
        rw [List.getElem?_eq_none (by rw [Array.length_toList]; omega)]
      | some u =>
        have := hp j u e
        rw [Nat.zero_add] at this
        rw [Array.getElem?_toList]; exact this.symm
    subst eu
    rw [if_neg (by simp)]
    rw [Nat.zero_add] at st₁
    refine wpAny_bind (wpAny_holding (W.done _ _ _ st₁ fun h₂ tk₂ hk₂ => ?_))
    simp only [Option.isSome_none, Bool.false_eq_true, if_false]
    refine wpAny_pure (hQ h₂ tk₂ fun b o e => ?_)
    have hb : b ∉ [s.heap.objs.size] := fun z => by
      have := Heap.lt_size e
      rw [List.mem_singleton.mp z] at this
      exact Nat.lt_irrefl _ this
    exact hk₂ b o hb (hk₁ b o hb (Heap.get?_push_of_some _ e))
theorem assign_Tuple_list {env : PySem.Env} {elts : List Expr} {x1} {pos : Pos} {s : Shared} {l : Addr} {items : Array Value} {Q : Unit → Shared → Prop} (hh : A.handled = none) (hl : s.heap.IsList l items)
    (hn : (assignEach elts env).length = items.size) (hstar : (assignEach elts env).findIdx? (·.1) = none)
    (h : ∀ h' tk, (∀ b o, s.heap.get? b = some o → h'.get? b = some o) → wpAny (model prog w) A (assignInOrder ((assignEach elts env).map (·.2)) items.toList) Q E { s with heap := h', toks := tk }) :
    wpAny (model prog w) A (assign (.Tuple elts x1 pos) env (.ref l)) Q E s := by
  rw [assign_Tuple]
  refine wpAny_bind (wpAny_standAt ?_)
  unfold unpack
  rw [hn, hstar]
  exact wpAny_bind (wpAny_holding (unpackItems_list hh hl h))
end
section
variable {K : PySem.W.Frag} {E : XK} {X : Cx} {pos : Pos} {es : List Expr} {gs : TGs} {mgs : List D → En → AH → R En}
/-- (a, b, ..) = a tuple or a list of that length -/
def gSeqT (K : PySem.W.Frag) (n : Nat) (t : TGs) : TG := fun v σ H Q => ∃ a xs, v = .ref a ∧ (SqL K H a xs ∨ SqT K H a xs) ∧ xs.length = n ∧ t xs σ H Q
theorem pg_seqT {k : Nat} {t : TGs} {n : Nat} (hc : X.calm = true) (h : PGs X es t)
    (hn : (assignEach es X.env).length = n := by rfl) (hst : (assignEach es X.env).findIdx? (·.1) = none := by rfl) : PG X (.Tuple es k pos) (gSeqT X.K n t) := by
  refine ⟨fun pins s σ H v u Q I r hw => ?_⟩
  obtain ⟨a, xs, e1, hq, hl, hw⟩ := hw
  rcases hq with hq | hq
  · subst e1
    cases r
    obtain ⟨its, rv, ht, hz⟩ := I.list hq
    refine assign_Tuple_list (I.ok.hd hc) ht.isList (by simp [hn, ← hl, rv.length]) hst fun h' tk hx => ?_
    have I1 : Inv X pins σ H { s with heap := h', toks := tk } := I.kept (t' := tk) hx
    exact h.run pins _ σ H xs _ Q I1 (by simpa using rv) hw
  · exact (pg_tup hc h hn hst).run pins s σ H v u Q I r ⟨a, xs, e1, hq, hl, hw⟩
def mgSeq (n : Nat) (m : List D → En → AH → R En) : MG := fun d env h => match spreadD d h with
  | some ds => if ds.length = n then m ds env h else .bad
  | none => .bad
theorem sg_seqT {n : Nat} (ha : SdGs K E gs mgs) : SdG K E (gSeqT K n gs) (mgSeq n mgs) := fun ρ P σ H env h d v s re w Q p => by
  unfold mgSeq at p
  split at p
  · rename_i ds e
    split at p
    · rename_i hl
      obtain ⟨a, vs, rfl, hsq, r⟩ := spreadD_ok s w e
      exact ⟨_, _, rfl, hsq, by rw [r.length]; exact hl, ha _ _ _ _ _ _ _ _ s re r Q p⟩
    · exact p.elim
  · exact p.elim
theorem jg_seqT {kk : Nat} {n : Nat} (h : JGs K E X es gs mgs) (hc : X.calm = true := by rfl) (hn : (assignEach es X.env).length = n := by rfl) (hst : (assignEach es X.env).findIdx? (·.1) = none := by rfl) : JG K E X (.Tuple es kk pos) (gSeqT K n gs) (mgSeq n mgs) := by
  obtain ⟨hK, hp, hq⟩ := h
  subst hK
  exact ⟨rfl, pg_seqT hc hp hn hst, sg_seqT hq⟩
end
end Ab

/-! One rule for texts and numbers, lists and tuples: int(x), x[a:b], x + y; a tuple once. -/
namespace Ab
open PySem PySem.Spec L2 PyProof.Rows
theorem tuple_mul1 (l : Addr) (items : Array Value) (n : Nat) (dd : Option Addr) (sl : Array (Option Value)) (u : Tok) :
    Meets (Builtin.«tuple.__mul__» ⟨[.ref l, .int 1 u], []⟩) (fun _ R s => s.heap.get? l = some { cls := .type "tuple", dict := dd, data := .seq items n, slots := sl } ∧
      R (.ok (.ret (Value.ref l))) s) :=
  .of_wp fun prog w A R s h => by
    obtain ⟨hp, g, d, tk, os⟩ := s
    obtain ⟨hl, h⟩ := h
    have f1 := AutoSeq1.idx_int
    wp_walk using wpAny_loadPart' hl
    repeat (first
      | (refine wpAny_ite_false (by decide) ?_; wp_walk using wpAny_loadPart' hl)
      | (refine wpAny_ite_true (by simp) ?_; wp_walk using wpAny_loadPart' hl))
    exact ⟨_, rfl, h⟩
section
variable {K : PySem.W.Frag} {E : XK} {ρ ρ' ρ1 : Ro} {P H P' H' P1 H1 : Hp} {X : Cx} {k : Nat}
/-- tuple * 1 -/
def rRep1 (K : PySem.W.Frag) : R2 := fun x y H Q => ∃ l xs, x = .ref l ∧ y = .int 1 ∧ SqT K H l xs ∧ xs.length ≤ 1000 ∧ Q (.ref l) H
theorem op_rep1 : OpR X (binaryOp .Mult) (rRep1 X.K) := by
  intro pins s σ H x y v u Q I rx ry h
  obtain ⟨l, xs, rfl, rfl, hT, hz, q⟩ := h
  cases rx
  obtain ⟨t, rfl⟩ := ry
  obtain ⟨its, r, ⟨⟨cls, dd, data, sl⟩, ho, hc, n, hd⟩, hs⟩ := I.tuple hT
  simp only at hc hd
  subst hc hd
  refine wpAny_binaryOp_repeat_ref (T := "tuple") (U := "int") (by decide) ⟨_, ho, rfl⟩ (fun s' => typeIs_int s' 1 t) noFill_tuple_mul F.fills_int_mul F.slot_int_rmul repeat_tuple F.slot_int_index.lookup
    (call_meets F.slot_int_rmul (typeIs_int s 1 t) F.entry_int_rmul (F.args_int_rmul_2 _ _) (int_rmul_tuple 1 t l its.toArray n dd sl)
      ⟨ho, rfl, ⟨_, ho, rfl⟩, call_meets F.slot_tuple_mul ⟨_, ho, rfl⟩ F.entry_tuple_mul (F.args_tuple_mul_2 _ _) (tuple_mul1 l its.toArray n dd sl t) ⟨ho, ?_⟩⟩)
  exact ⟨.ref l, H, I, rfl, q⟩
def mulUD : D → D → AH → R D
  | .tup xs, .int 1, h => if xs.length ≤ 1000 then .ok (.tup xs) h else .bad
  | a, b, h => mulD a b h
theorem os_mulU : OpS K E (fun x y H Q => rMulU K x y H Q ∨ rRep1 K x y H Q) mulUD := fun ρ P H h x y dx dy s wx wy Q p => by
  unfold mulUD at p
  split at p
  · split at p
    · rename_i hl
      cases wx with
      | tup q r =>
        cases wy
        exact .inr ⟨_, _, rfl, rfl, sqT_tk s.sub q, by rw [r.length]; exact hl, Post.here p s (.tup q r)⟩
    · exact p.elim
  · exact .inl (os_mul ρ P H h x y _ _ s wx wy Q p)
variable {a b e : Expr} {ta tb te : TE} {ma mb : M D} {pos p2 : Pos} {lo hi : Option Expr} {tl th : TO} {ml mh : M (Option Int)}
theorem je_mulU (ha : JE K E X a ta ma) (hb : JE K E X b tb mb) : JE K E X (.BinOp a .Mult b pos) (tOp (fun x y H Q => rMulU K x y H Q ∨ rRep1 K x y H Q) ta tb) (mBin mulUD ma mb) := je_bin (by have := ha.k; subst this; exact op_mulU.or op_rep1) os_mulU ha hb
/-! int(x) -/
def intUD : List D → AH → R D
  | [.str x], h => intSD [.str x] h
  | ds, h => intD ds h
theorem jb_intU : JBf K E X (.type "int") (fun xs H Q => (∃ a n, xs = [.str a] ∧ PySem.intText? a = some n ∧ a.length ≤ 640 ∧ Q (.int n) H) ∨ ((∃ i, xs = [.int i] ∧ Q (.int i) H) ∨ ∃ k, xs = [.bl k] ∧ Q (.int (if k then 1 else 0)) H)) intUD := by
  refine ⟨CallR.or call_int_str call_int1, fun ρ P H h vs ds s w Q p => ?_⟩
  unfold intUD at p
  split at p
  · exact .inl (cb_intS ρ P H h vs _ s w Q p)
  · exact .inr (cb_int ρ P H h vs _ s w Q p)
/-! x[a:b] -/
theorem Post.newLst {h : AH} {ds : List D} {vs : List V} {Q : VK} (p : Post K (RV K) E ρ P H Q (.ok (.lst ds) h)) (s : SR K ρ P H h) (w : RepL K ρ P ds vs) : ∀ q, H q = none → Q (.ref q) (upd H q (.lst vs)) := fun q hq => by
  obtain ⟨s', t⟩ := s.pure hq (.lst vs)
  exact p _ _ _ _ t s' (.lst upd_same (w.step t))
def mSlU (m : M D) (lo hi : M (Option Int)) : M D := fun env h => (m env h).bind fun d h1 => (lo env h1).bind fun l h2 => (hi env h2).bind fun u h3 => match d with
  | .tup ds => .ok (.tup (cutL ds l u)) h3
  | d => (match seqD d h3 with
    | some ds => .ok (.lst (cutL ds l u)) h3
    | none => .bad)
theorem sd_slU (ha : Sd K (RV K) E te ma) (hl : Sd K (RQ (Option Int)) E tl ml) (hh : Sd K (RQ (Option Int)) E th mh) : Sd K (RV K) E (tSl (fun x lo hi H Q => rSlL K x lo hi H Q ∨ rSlA K x lo hi H Q) te tl th) (mSlU ma ml mh) := fun ρ P σ H env h s re Q p =>
  ha ρ P σ H env h s re _ (Post.bind p fun a h1 ρ1 P1 H1 v t1 s1 w1 p1 => hl _ _ _ _ _ _ s1 (re.step t1) _ (Post.bind p1 fun b h2 ρ2 P2 H2 u t2 s2 w2 p2 =>
    hh _ _ _ _ _ _ s2 ((re.step t1).step t2) _ (Post.bind p2 fun c h3 ρ3 P3 H3 x t3 s3 w3 p3 => by
      cases w2; cases w3
      have w4 := (w1.step t2).step t3
      have go : ∀ (p3 : Post K (RV K) E ρ3 P3 H3 Q (match seqD a h3 with
          | some ds => .ok (.lst (cutL ds b c)) h3
          | none => .bad)), rSlL K v b c H3 Q := fun p3 => by
        cases e : seqD a h3 with
        | none => rw [e] at p3; exact p3.elim
        | some ds =>
          rw [e] at p3
          obtain ⟨q, us, rfl, sq, r⟩ := seqD_sq s3 w4 e
          exact ⟨q, us, rfl, sq, Post.newLst p3 s3 (r.cutL _ _)⟩
      cases w4 with
      | tup q r =>
        refine .inr ⟨_, _, rfl, sqT_tk s3.sub q, fun e => ?_, fun _ => Post.newT p3 s3 (r.cutL _ _)⟩
        rw [r.length] at e
        have p3 : Post K (RV K) E ρ3 P3 H3 Q (.ok (.tup (cutL _ _ _)) h3) := p3
        rw [cutL_whole e] at p3
        exact Post.here p3 s3 (.tup q r)
      | _ => exact .inl (go p3))))
theorem je_slU (ha : JE K E X a ta ma) (hl : JO K E X lo tl ml) (hh : JO K E X hi th mh) : JE K E X (.Subscript a (.Slice lo hi none p2) pos) (tSl (fun x lo hi H Q => rSlL K x lo hi H Q ∨ rSlA K x lo hi H Q) ta tl th) (mSlU ma ml mh) := by
  obtain ⟨hK, hp, hq⟩ := ha
  subst hK
  exact ⟨rfl, pe_slice (sl_list.or sl_tupA) hp hl.p hh.p, sd_slU hq hl.s hh.s⟩
/-! x + y -/
def addUD (a b : D) (h : AH) : R D := match lstD a h, lstD b h with
  | some xs, some ys => if xs.length + ys.length ≤ sizeLine then .ok (.lst (xs ++ ys)) h else .bad
  | _, _ => addD a b h
theorem os_addU : OpS K E (fun x y H Q => rAddU K x y H Q ∨ rCat x y H Q) addUD := fun ρ P H h x y dx dy s wx wy Q p => by
  unfold addUD at p
  split at p
  · rename_i xs ys ea eb
    split at p
    · rename_i hl
      obtain ⟨a1, vs, rfl, q1, r1⟩ := lstD_ok s wx ea
      obtain ⟨b1, us, rfl, q2, r2⟩ := lstD_ok s wy eb
      exact .inr ⟨a1, b1, vs, us, rfl, rfl, q1, q2, by rw [r1.length, r2.length]; exact hl, Post.newLst p s (r1.append r2)⟩
    · exact p.elim
  · exact .inl (os_add ρ P H h x y _ _ s wx wy Q p)
theorem je_addU (ha : JE K E X a ta ma) (hb : JE K E X b tb mb) : JE K E X (.BinOp a .Add b pos) (tOp (fun x y H Q => rAddU K x y H Q ∨ rCat x y H Q) ta tb) (mBin addUD ma mb) := je_bin (by have := ha.k; subst this; exact op_addU.or op_cat) os_addU ha hb
end
end Ab

/-! xs.count(x), xs.index(x) of data. -/
namespace Ab
open PySem PySem.Spec L2 PyProof.Rows
section
variable {X : Cx}
/-- l.count(x) -/
def rCountD (K : PySem.W.Frag) : V → List V → Hp → VK → Prop := fun x xs H Q => ∃ (a : Addr) (y : V) (d : PyData) (ds : List PyData), x = V.ref a ∧ xs = [y] ∧ Dp K H (V.ref a) (.list ds) ∧ Dp K H y d ∧
  SeqAt.shaped (.list ds) = true ∧ SeqAt.shaped d = true ∧ Q (.int ((ds.countP fun z => PyData.eqv z d : Nat) : Int)) H
end
section
variable {K : PySem.W.Frag} {E : XK} {ρ : Ro} {P H : Hp} {X : Cx} {k : Nat}
def isLst (d : D) (h : AH) : Bool := match d with
  | .lst _ => true
  | .scr _ => true
  | .loc n => (match h[n]? with
    | some (.lst _) => true
    | _ => false)
  | _ => false
def pyOk (d : D) (h : AH) : Option PyData := match toPy h d with
  | some p => if SeqAt.shaped p = true then some p else none
  | none => none
def countD : D → List D → AH → R D := fun o ds h => match ds with
  | [d] => (match pyOk o h, pyOk d h with
    | some (.list ps), some p => .ok (.int ((ps.countP fun z => PyData.eqv z p : Nat) : Int)) h
    | _, _ => .bad)
  | _ => .bad
def firstAt (q : PyData) : Nat → List PyData → Option Nat
  | _, [] => none
  | i, z :: ps => if PyData.eqv z q = true then some i else firstAt q (i + 1) ps
def indexD : D → List D → AH → R D := fun o ds h => match ds with
  | [d] => (match pyOk o h, pyOk d h with
    | some (.list ps), some p => (match firstAt p 0 ps with
      | some j => .ok (.int (j : Nat)) h
      | none => .bad)
    | _, _ => .bad)
  | _ => .bad
end
end Ab

/-! x < y of whole numbers and of tuples of them. -/
namespace Ab
open PySem PySem.Spec L2
section
variable {K : PySem.W.Frag} {E : XK} {ρ : Ro} {P H : Hp} {X : Cx} {k : Nat}
def ltUD : D → D → AH → R D := fun a b h => match intsT a, intsT b with
  | some ns, some ms => .ok (.bl (lexI ns ms)) h
  | _, _ => cmpD (fun i j => decide (i < j)) a b h
end
end Ab

/-! dict(d): a copy of a dict whose keys are tuples (their hashes all unlike). -/
namespace PySem
section
variable {prog : Program} {w : World} {K : Type} [DecidableEq K] {knd : HeapKind prog w K} {A : Around} {E : Value → Shared → Prop} {s : Shared}
end
end PySem
namespace Ab
open PySem PySem.Spec L2 PyProof.Rows
section
variable {X : Cx}
/-- the hash of a tuple of whole numbers -/
def hashI (ns : List Int) : Int := reduceHash (Builtin.Tuple.tupleHashOf (ns.map hashInt))
def rDictT : List V → Hp → VK → Prop := fun xs H Q => ∃ (a : Addr) (kvs : List (List Key × V)) (ks : List (List Int)), xs = [.ref a] ∧ Rd H a (.dT kvs) ∧ kvs.map (·.1) = ks.map (fun ns => ns.map Sum.inl) ∧ (ks.map hashI).Nodup ∧ ∀ p, H p = none → Q (.ref p) (upd H p (.dT kvs))
end
section
variable {K : PySem.W.Frag} {E : XK} {ρ : Ro} {P H : Hp} {X : Cx} {k : Nat}
/-- keys of whole numbers -/
def keyZ : List Key → Option (List Int)
  | [] => some []
  | .inl i :: r => (keyZ r).map (i :: ·)
  | .inr _ :: _ => none
def keysZ : List (List Key) → Option (List (List Int))
  | [] => some []
  | k :: r => match keyZ k, keysZ r with
    | some a, some b => some (a :: b)
    | _, _ => none
def nodI : List Int → Bool
  | [] => true
  | x :: l => (l.all fun y => !decide (y = x)) && nodI l
/-- dict(d) of tuples of whole numbers, all of other hashes -/
def dictD : List D → AH → R D := fun ds h => match ds with
  | [d] => (match dctD d h with
    | some kvs => (match keysZ (kvs.map (·.1)) with
      | some ks => if nodI (ks.map hashI) = true then .ok (.loc h.length) (h ++ [.dct kvs]) else .bad
      | none => .bad)
    | none => .bad)
  | _ => .bad
end
end Ab

/-! The head's facts, looked at in a part of the heap whose addresses are told. -/
namespace Ab
namespace Hd
open PySem PySem.W
def obsL (as : List Addr) (fb : List Fb) (fn : List He5.DefA) (g : Addr → Option Obj) : He.AlD := obsB fb fn (He.frG g as)
def hookL (as : List Addr) (fb : List Fb) (fn : List He5.DefA) : PySem.W.Hook where
  α := He.AlD
  obs := fun s => obsL as fb fn s.heap.get?
  val := fun _ => He5.valA fn
  says := fun _ h => ∃ K : Frag, K.In h ∧ SaysB fb fn K
  of := fun _ _ e => ⟨_, He.frG_in, e⟩
  keeps := fun _ _ _ ⟨K, hK, c⟩ k => ⟨K, Frag.In.keeps hK k, c⟩
theorem obsL_eq {as : List Addr} {fb : List Fb} {fn : List He5.DefA} {g : Addr → Option Obj} {s : Shared} (h : ∀ a, g a = s.heap.get? a) : obsL as fb fn g = (hookL as fb fn).obs s := by
  have e : g = s.heap.get? := funext h
  rw [e]
  rfl
end Hd
end Ab

/-! {**a, **b}: dicts put together. -/
namespace PySem
section
variable {prog : Program} {w : World} {K : Type} [DecidableEq K] {knd : HeapKind prog w K} {A : Around} {E : Value → Shared → Prop} {s : Shared}
end
end PySem

/-! {**a, **b}: the layer. -/
namespace Ab
open PySem PySem.Spec L2 PyProof.Rows HT
section
variable {K : PySem.W.Frag} {E : XK} {ρ ρ' ρ1 : Ro} {P H P' H' P1 H1 : Hp} {X : Cx} {ax bx e : Expr} {pos : Pos} {ta tb te : TE} {ma mb me : M D} {k : Nat}
def tMrg (ta tb : TE) : TE := fun σ H Q => ∀ p, H p = none → ta σ (upd H p (.dT [])) fun x H1 => ∃ (a : Addr) (kvs : List (List Key × V)) (ks : List (List Int)), x = .ref a ∧ a ≠ p ∧ Rd H1 a (.dT kvs) ∧ kvs.map (·.1) = ks.map (fun ns => ns.map Sum.inl) ∧ (ks.map hashI).Nodup ∧ kvs ≠ [] ∧ H1 p = some (.dT []) ∧
  tb σ (upd H1 p (.dT kvs)) fun y H2 => ∃ (b : Addr) (kws : List (List Key × V)), y = .ref b ∧ b ≠ p ∧ Rd H2 b (.dT kws) ∧ ((kvs ++ kws).map (·.1)).Nodup ∧ kvs.length + kws.length ≤ sizeLine ∧ H2 p = some (.dT kvs) ∧ Q (.ref p) (upd H2 p (.dT (kvs ++ kws)))
/-- {**a, **b} of dicts whose keys are unlike; nobody changes it -/
def mMrgF (ma mb : M D) : M D := fun env h => (ma env h).bind fun d h1 => match dctD d h1 with
  | some kvs => (match keysZ (kvs.map (·.1)) with
    | some ks => if kvs ≠ [] ∧ nodI (ks.map hashI) = true then (mb env h1).bind fun e h2 => (match dctD e h2 with
      | some kws => if ((kvs ++ kws).map (·.1)).Nodup ∧ kvs.length + kws.length ≤ sizeLine then .ok (.dic ((kvs ++ kws).map (·.1)) ((kvs ++ kws).map (·.2))) h2 else .bad
      | none => .bad) else .bad
    | none => .bad)
  | none => .bad
end
end Ab

/-! len(x) of an object whose class has __len__. -/
namespace Ab
open PySem PySem.Spec L2 PyProof.Rows PySem.Calls
section
variable {X : Cx} {c : Str} {k : Nat} {F : Fn}
def rLenO (C : Addr) (sp : Sp) : List V → Hp → VK → Prop := fun xs H Q => ∃ a dx fs, xs = [.ref a] ∧ H a = some (.ins C dx fs) ∧ sp [.ref a] H (fun v H' => ∃ i : Int, v = .int i ∧ 0 ≤ i ∧ i < 2 ^ 63 ∧ Q (.int i) H') E0
end
section
variable {K : PySem.W.Frag} {E : XK} {X : Cx} {c : Str} {k : Nat} {F : Fn}
def lenOD (c : Str) (F : Fn) : List D → AH → R D := fun ds h => match ds with
  | [.obj c' ns fs] => if c' = c then (match callP 1 F [.obj c' ns fs] h with
    | .ok (.int i) h1 => if 0 ≤ i ∧ i < 2 ^ 63 then .ok (.int i) h1 else .bad
    | _ => .bad) else .bad
  | _ => .bad
end
end Ab

/-! `[x for x in d]` over a dict that may change later: it is locked meanwhile. -/
namespace Ab
open PySem PySem.Spec L2 PyProof.Rows PySem.Calls
section
variable {K : PySem.W.Frag} {E : XK} {X : Cx}
/-- the keys of an owned dict -/
def mKeysV (i j : Nat) : M (List D) := fun env h => match env[i]? with
  | some (some (.loc n)) => (match h[n]? with
    | some (.dct kvs) => if kvs.length ≤ sizeLine ∧ j < env.length then .ok ((kvs.map (·.1)).map keyTD) h else .bad
    | _ => .bad)
  | _ => .bad
abbrev tKy (K : PySem.W.Frag) (i j : Nat) : TE := tLc (iU K (tVar i)) (gName j) tYes (tVar j) [j]
end
end Ab

/-! `range(i, j, -1)`. -/
namespace Ab
open PySem PySem.Spec L2 PyProof.Rows PySem.Calls
section
variable {K : PySem.W.Frag} {E : XK} {X : Cx} {ρ : Ro} {P H : Hp}
def dwnD (i j : Int) : List D := (List.range (i - j).toNat).map fun q => D.int (i + (q : Nat) * (-1))
def kR3 (ds : List D) (h : AH) : R AI := match ds with
  | [.int i, .int j, .int c] => if (InW i ∧ InW j) ∧ c = -1 then .ok (.items (dwnD i j)) h else .bad
  | _ => .bad
def miRng3 (m : M (List D)) : MI := fun env h => (m env h).bind kR3
end
end Ab

/-! A tuple and a list side by side. -/
namespace Ab
open PySem PySem.Spec L2 PyProof.Rows PySem.Calls
/-- the tuple at a with n1 items, the list at b with n2 -/
def ItzM (K : PySem.W.Frag) (a b : Addr) (n1 n2 : Nat) : It where
  go := fun i H => ∃ (xs ys : List V) (x y : V), (SqT K H a xs ∧ xs.length = n1 ∧ xs[i]? = some x) ∧ SqL K H b ys ∧ ys.length = n2 ∧ ys[i]? = some y
  yld := fun i H v H' => ∃ T x y, (v = .ref T ∧ H T = none ∧ H' = upd H T (.tup [x, y])) ∧ (∀ xs, SqT K H a xs → xs[i]? = some x) ∧ ∀ ys, SqL K H b ys → ys[i]? = some y
  stop := fun i H => (∃ xs : List V, SqT K H a xs ∧ xs.length = n1) ∧ (∃ ys : List V, SqL K H b ys ∧ ys.length = n2) ∧ (n1 ≤ i ∨ n2 ≤ i)
def iZipM (K : PySem.W.Frag) (ta : TA) : TI := fun σ H R => ta σ H fun vs H1 => ∃ a b xs ys, (vs = [.ref a, .ref b] ∧ SqT K H1 a xs ∧ SqL K H1 b ys) ∧ R (ItzM K a b xs.length ys.length) H1
section
variable {K : PySem.W.Frag} {E : XK} {ρ ρ' ρ1 : Ro} {P H P' H' P1 H1 : Hp}
def zipMA : List D → Option (List D)
  | [.tup xs, .lst ys] => some (zipD xs ys)
  | _ => none
def kZipM (ds : List D) (h : AH) : R AI := match zipMA ds with
  | some l => .ok (.items l) h
  | none => .bad
def miZipM (m : M (List D)) : MI := fun env h => (m env h).bind kZipM
variable {X : Cx} {e e2 : Expr} {t : TA} {m : M (List D)} {pos pn tpos : Pos} {elts : List Expr} {kk : Nat}
end
end Ab

/-! A dict of the module with text keys and whole numbers; a try whose body raises nothing. -/
namespace Ab
namespace Hd
open PySem PySem.W
abbrev AlM : Type := He.AlD × List (Option (List (Option (Str × Int))))
def obsM (as : List Addr) (fb : List Fb) (fn : List He5.DefA) (ts : List He.Tab) (g : Addr → Option Obj) : AlM := (obsB fb fn (He.frG g as), ts.map fun t : He.Tab => He.dicW (He.frG g as) (t.1 (He.frG g as)))
def SaysM (fb : List Fb) (fn : List He5.DefA) (ts : List He.Tab) (w : World) (K : Frag) : Prop := SaysB fb fn K ∧ (ts.map fun t : He.Tab => He.dicW K (t.1 K)) = ts.map fun t : He.Tab => some (He.keysIn w.params t.2)
def valM (fn : List He5.DefA) (ts : List He.Tab) (w : World) : AlM := (He5.valA fn, ts.map fun t : He.Tab => some (He.keysIn w.params t.2))
def hookM (as : List Addr) (fb : List Fb) (fn : List He5.DefA) (ts : List He.Tab) : PySem.W.Hook where
  α := AlM
  obs := fun s => obsM as fb fn ts s.heap.get?
  val := fun w => valM fn ts w
  says := fun w h => ∃ K : Frag, K.In h ∧ SaysM fb fn ts w K
  of := fun w s e => ⟨He.frG s.heap.get? as, He.frG_in, (congrArg Prod.fst e : _), (congrArg Prod.snd e : _)⟩
  keeps := fun _ _ _ ⟨K, hK, c⟩ k => ⟨K, Frag.In.keeps hK k, c⟩
def tabB (c : Str) (kv : List (Str × Int)) : Fb := fun K => kv.all fun p => match nsIn K (He.ga K c) p.1 with
  | some (some (.int i _)) => decide (i = p.2)
  | _ => false
end Hd
open PySem PySem.Spec L2 PyProof.Rows PySem.Calls
/-- the module's table c has these keys and numbers (some of them) -/
structure Kd (K : PySem.W.Frag) (w : World) (c : Str) (kv : List (Str × Int)) : Prop where
  d : ∃ es n, KDict K w (He.ga K c) es n
  v : ∀ p ∈ kv, ∃ t, PySem.W.nsIn K (He.ga K c) p.1 = some (some (.int p.2 t))
section
variable {K : PySem.W.Frag} {E : XK} {X : Cx} {c : Str} {kv : List (Str × Int)}
def getS (kv : List (Str × Int)) (z : Str) : Option Int := (kv.find? fun p => decide (p.1 = z)).map (·.2)
def inGD (neg : Bool) (c : Str) (kv : List (Str × Int)) : D → D → AH → R D
  | .str z, .glo g, h => if g = c ∧ (getS kv z).isSome = true then .ok (.bl (!neg)) h else .bad
  | _, _, _ => .bad
def ixGD (c : Str) (kv : List (Str × Int)) : D → D → AH → R D
  | .glo g, .str z, h => if g = c then (match getS kv z with
    | some i => .ok (.int i) h
    | none => .bad) else .bad
  | _, _, _ => .bad
abbrev rIxG (K : PySem.W.Frag) (c : Str) : R2 := fun x y H Q => ∃ (z : Str) (u0 : Value) (v0 : V), x = .ref (He.ga K c) ∧ y = .str z ∧ PySem.W.nsIn K (He.ga K c) z = some (some u0) ∧ RelV v0 u0 ∧ Q v0 H
/-! a try whose body raises nothing -/
def mTry (m : MS) : MS := fun env h => match m env h with
  | .exc _ _ _ => .bad
  | r => r
end
end Ab

/-! len(set(t)) of a tuple of whole numbers. -/
namespace Ab
open PySem PySem.Spec L2 PyProof.Rows PySem.Calls
section
variable {K : PySem.W.Frag} {E : XK} {X : Cx}
/-- each once -/
def onceI (ns : List Int) : List Int := ns.foldl (fun a x => if x ∈ a then a else a ++ [x]) []
def tLenSetT (K : PySem.W.Frag) (ta : TE) : TE := fun σ H Q => ta σ H fun x H1 => ∃ (l : Addr) (ns : List Int), (x = .ref l ∧ ns.length ≤ 1000) ∧ SqT K H1 l (ns.map V.int) ∧ Q (.int ((onceI ns).length : Nat)) H1
def kLenSet (d : D) (h : AH) : R D := match d with
  | .tup ds => (match intsD ds with
    | some ns => if ns.length ≤ 1000 then .ok (.int ((onceI ns).length : Nat)) h else .bad
    | none => .bad)
  | _ => .bad
def mLenSet (m : M D) : M D := fun env h => (m env h).bind kLenSet
end
end Ab

/-! `x is True` of truths. -/
namespace Ab
open PySem PySem.Spec L2 PyProof.Rows PySem.Calls
section
variable {K : PySem.W.Frag} {E : XK} {X : Cx}
def isBD (neg : Bool) : D → D → AH → R D
  | .bl a, .bl b, h => .ok (.bl (if neg then !decide (a = b) else decide (a = b))) h
  | _, _, _ => .bad
end
end Ab

/-! `[x for x in d if x != y]` over a dict that may change later. -/
namespace Ab
open PySem PySem.Spec L2 PyProof.Rows PySem.Calls
section
variable {K : PySem.W.Frag} {E : XK} {X : Cx}
def keyPy : Key → PyData
  | .inl i => .int i
  | .inr x => .str x
def keyDy (k : List Key) : PyData := .tuple (k.map keyPy)
abbrev keepK (q : PyData) (kv : List Key × D) : Bool := !PyData.eqv (keyDy kv.1) q
def mKeysNe (i j k : Nat) : M (List D) := fun env h => match env[i]?, env[k]? with
  | some (some (.loc n)), some (some dk) => (match h[n]?, toPy0 dk with
    | some (.dct kvs), some q => if (kvs.length ≤ sizeLine ∧ j < env.length ∧ j ≠ k) ∧ SeqAt.shaped q = true ∧ (kvs.all fun kv => SeqAt.shaped (keyDy kv.1)) = true then .ok (((kvs.filter (keepK q)).map (·.1)).map keyTD) h else .bad
    | _, _ => .bad)
  | _, _ => .bad
abbrev tKyNe (K : PySem.W.Frag) (i j k : Nat) : TE := tLc (iU K (tVar i)) (gName j) (tTest (tOp (rNeU K) (tVar j) (tVar k))) (tVar j) [j]
end
end Ab

/-! Methods of objects that never change; f-strings of a text and a number. -/
namespace Ab
open PySem PySem.Spec L2 PyProof.Rows
section
variable {K : PySem.W.Frag} {E : XK} {ρ ρ' ρ1 : Ro} {P H P' H' P1 H1 : Hp} {X : Cx} {o e : Expr} {es : List Expr} {ta : TE} {t tk : TA} {mo ma : M D} {md mk : M (List D)} {pos apos : Pos} {k : Nat} {c m : Str} {ps : List Str} {F : Fn} {st : Stmt} {kws : List Keyword}
structure MtH (P : Program) (w : World) (K : PySem.W.Frag) (mg : Str → Option Value) (base : Heap) (k : Nat) (c m : Str) (ps : List Str) (F : Fn) (st : Stmt) : Prop where
  ex : ∃ g fd, Cls K (He.ga K c) ∧ Meth K (He.ga K c) m g ∧ FnG P w K mg base (L2.CX P w) k g fd ps (spD K ps.length F) ∧ Binds K fd ps [] ∧ ∃ q q', FunD K q q' (defArgs st) (defBody st) (defScope st) [] [] g fd
def tMethO (C : Addr) (m : Str) (sp : Sp) (E : XK) (ta : TE) (t : TA) : TE := fun σ H Q => ta σ H fun x H1 => ∃ a dx fs, x = .ref a ∧ H1 a = some (.ins C dx fs) ∧ fs.lookup m = none ∧ t σ H1 fun vs H2 => sp (.ref a :: vs) H2 Q E
/-- o.m(k = v, ..) -/
def tMethOK (C : Addr) (m : Str) (sp : Sp) (g : List V → List V → List V) (E : XK) (ta : TE) (tk : TA) : TE := fun σ H Q => ta σ H fun x H1 => ∃ a dx fs, x = .ref a ∧ H1 a = some (.ins C dx fs) ∧ fs.lookup m = none ∧ tk σ H1 fun ws H2 => sp (g [.ref a] ws) H2 Q E
/-! over the abstract layer -/
def methOk (c m : Str) (o : D) : Bool := match o with
  | .obj c' ns _ => decide (c' = c) && !decide (m ∈ ns)
  | _ => false
def mMethO (c m : Str) (n : Nat) (F : Fn) (mo : M D) (md : M (List D)) : M D := fun env h => (mo env h).bind fun o h1 => match methOk c m o with
  | true => (md env h1).bind fun ds h2 => callP n F (o :: ds) h2
  | false => .bad
def mMethOK (c m : Str) (n : Nat) (F : Fn) (g : List D → List D → List D) (mo : M D) (md : M (List D)) : M D := fun env h => (mo env h).bind fun o h1 => match methOk c m o with
  | true => (md env h1).bind fun ds h2 => callP n F (g [o] ds) h2
  | false => .bad
/-! f"text{number}" -/
def fmtD (pre : Str) (d : D) (h : AH) : R D := match d with
  | .int i => if i.natAbs.log2 < 1920 ∧ (Str.empty ++ pre).length ≤ sizeLine ∧ ((Str.empty ++ pre) ++ (toString i : Str)).length ≤ sizeLine then .ok (.str ((Str.empty ++ pre) ++ (toString i : Str))) h else .bad
  | _ => .bad
def mFmt (pre : Str) (m : M D) : M D := fun env h => if (Str.empty ++ pre).length ≤ sizeLine then (m env h).bind (fmtD pre) else .bad
end
end Ab

/-! C(a, ..) with a plain __init__; the instance does not change any more. -/
namespace Ab
open PySem PySem.Spec L2 PyProof.Rows
def instOf (hh : AH) : Option (Str × List (Str × D)) := match hh with
  | [.ins c fs] => some (c, fs)
  | _ => none
def makeQ (c : Str) (F : Fn) (ds : List D) (h : AH) : R D := if belowL 0 ds = true then (match F (.loc 0 :: ds) [.ins c []] with
  | .ok .non hh => (match instOf hh with
    | some cf => if cf.1 = c ∧ belowL 0 (cf.2.map (·.2)) = true then .ok (.obj c (cf.2.map (·.1)) (cf.2.map (·.2))) h else .bad
    | none => .bad)
  | _ => .bad) else .bad
section
variable {K : PySem.W.Frag} {E : XK} {ρ ρ' ρ1 : Ro} {P H P' H' P1 H1 : Hp}
end
structure MkP (P : Program) (w : World) (K : PySem.W.Frag) (mg : Str → Option Value) (base : Heap) (k : Nat) (c : Str) (n : Nat) (F : Fn) : Prop where
  ex : ∃ g, Mk K (He.ga K c) g ∧ FnQ P w K mg base (L2.CX P w) k g (spD K n F) ∧ mg c = some (.ref (He.ga K c))
section
variable {X : Cx} {K : PySem.W.Frag} {E : XK} {k n : Nat} {c : Str} {F : Fn} {e : Expr} {es : List Expr} {t : TA} {m : M (List D)} {p pos : Pos}
def mMakeQ (c : Str) (n : Nat) (F : Fn) (m : M (List D)) : M D := fun env h => (m env h).bind fun ds h1 => if ds.length + 1 = n then makeQ c F ds h1 else .bad
end
end Ab

/-! Instances that change: made, their methods, their properties. -/
namespace Ab
open PySem PySem.Spec L2 PyProof.Rows
/-- C(a, ..): the instance gets a number -/
def makeL (c : Str) (F : Fn) (ds : List D) (h : AH) : R D := match F (.loc h.length :: ds) (h ++ [.ins c []]) with
  | .ok .non h' => .ok (.loc h.length) h'
  | .exc x fs h' => .exc x fs h'
  | _ => .bad
section
variable {K : PySem.W.Frag} {E : XK} {ρ ρ' ρ1 : Ro} {P H P' H' P1 H1 : Hp}
def mMakeL (c : Str) (n : Nat) (F : Fn) (m : M (List D)) : M D := fun env h => (m env h).bind fun ds h1 => if ds.length + 1 = n then makeL c F ds h1 else .bad
variable {X : Cx} {k n : Nat} {c m : Str} {F : Fn} {e o : Expr} {es : List Expr} {t tk : TA} {ta : TE} {mo ma : M D} {md mk : M (List D)} {p pos apos : Pos} {ps : List Str} {st : Stmt} {kws : List Keyword}
/-! methods -/
/-- an instance of c at a number, without m of its own -/
def instL (c m : Str) (o : D) (h : AH) : Bool := match o with
  | .loc q => (match h[q]? with
    | some (.ins c' fs) => decide (c' = c) && !decide (m ∈ fs.map (·.1))
    | _ => false)
  | _ => false
def mMethL (c m : Str) (n : Nat) (F : Fn) (mo : M D) (md : M (List D)) : M D := fun env h => (mo env h).bind fun o h1 => match instL c m o h1 with
  | true => (md env h1).bind fun ds h2 => if (o :: ds).length = n then F (o :: ds) h2 else .bad
  | false => .bad
def mMethLK (c m : Str) (n : Nat) (F : Fn) (g : List D → List D → List D) (mo : M D) (md : M (List D)) : M D := fun env h => (mo env h).bind fun o h1 => match instL c m o h1 with
  | true => (md env h1).bind fun ds h2 => if (g [o] ds).length = n then F (g [o] ds) h2 else .bad
  | false => .bad
/-! properties -/
def propL (c : Str) (F : Fn) (o : D) (h : AH) : R D := match o with
  | .loc q => (match h[q]? with
    | some (.ins c' _) => if c' = c then noExc (F [.loc q] h) else .bad
    | _ => .bad)
  | _ => .bad
def mPropL (c : Str) (F : Fn) (ma : M D) : M D := fun env h => (ma env h).bind (propL c F)
end
end Ab

/-! An own exception's __init__: super().__init__(); self.f = f. -/
namespace Ab
namespace Ex
open PySem PySem.Spec PySem.Calls PyProof.Rows PySem.W
/-- what the written part says of the class C over ValueError and of its __init__ -/
structure Ini (K : PySem.W.Frag) (prog : Program) (C fI : Addr) (f : Str) : Prop where
  cls : ∃ nm q N bs bm sn sub ab col dd k0 k1 k2 k3 k5, K.lookup C = some (excClassObj nm q C N bs bm true sn sub ab col dd k0 k1 k2 k3 k5 "ValueError.__new__") ∧ PySem.HandSPX.refsVE bm = true
  fn : ∃ oc od qual params scope dV kV doc pm an cda ct cc osl p0 p1 p2 p3 p4 p5 p6 p7 p8, K.lookup fI = some ⟨oc, od, .func (ksFn "__init__" qual params [.Expr (.Call (.Attribute (.Call (.Name "super" p0) [] [] p1) "__init__" p2) [] [] p3) p4, .Assign [.Attribute (.Name "self" p5) f p6] (.Name f p7) p8] scope dV kV doc pm an (.ref cda) ct cc), osl⟩ ∧
    codeIn K (.ref cda) qual = true ∧ (∃ ccl cdd vs ccs file tf, K.lookup cda = some ⟨ccl, cdd, .fields vs, ccs⟩ ∧ vs[2]? = some (.str file tf) ∧ ((prog.main.file : Str) == file) = true) ∧ (∃ cl cld csl, K.lookup cc = some ⟨cl, cld, .cell (some (.ref C)), csl⟩) ∧
    (∃ ar, (params.posonlyargs ++ params.args).head? = some ar ∧ ar.arg = ("self" : Str)) ∧ (∀ a b : Value, bindArgs (ksFn "__init__" qual params [.Expr (.Call (.Attribute (.Call (.Name "super" p0) [] [] p1) "__init__" p2) [] [] p3) p4, .Assign [.Attribute (.Name "self" p5) f p6] (.Name f p7) p8] scope dV kV doc pm an (.ref cda) ct cc) ⟨[a, b], []⟩ = pure [(("self" : Str), a), (f, b)]) ∧
    scope.names.lookup ("super" : Str) = some .globalImplicit ∧ scope.names.lookup ("__class__" : Str) = some .free ∧ scope.names.lookup ("self" : Str) = some .local ∧ scope.names.lookup f = some .local ∧ scope.kind = .function ∧ (∀ x ∈ scope.names, x.2 ≠ .cell) ∧ scope.isCoroutine = false ∧ scope.isGenerator = false ∧
    (∀ L : Addr, swapsWith (.Name f p7) (some (.Attribute (.Name "self" p5) f p6)) p8.line (ksEnv qual scope L fI (.ref cda) cc) = pure false) ∧
    (∀ L : Addr, swapsWith (.Call (.Attribute (.Call (.Name "super" p0) [] [] p1) "__init__" p2) [] [] p3) none p4.line (ksEnv qual scope L fI (.ref cda) cc) = pure false) ∧
    ∀ L : Addr, ∃ pl : Sem Bool, eval (.Call (.Attribute (.Call (.Name "super" p0) [] [] p1) "__init__" p2) [] [] p3) (ksEnv qual scope L fI (.ref cda) cc) = (do
      let ov ← attributeBase (.Call (.Name "super" p0) [] [] p1) "__init__" (ksEnv qual scope L fI (.ref cda) cc) (eval (.Call (.Name "super" p0) [] [] p1) (ksEnv qual scope L fI (.ref cda) cc))
      standAt p2.atName
      let (f, first) ← holding [ov] (getMethod ov "__init__" pl)
      callWith p3 f first (backTo p3 (starEach [] (ksEnv qual scope L fI (.ref cda) cc))) [])
  sup : ks_superIn K C C "__init__" = some (some (.builtin "ValueError.__init__"))
  subB : subIn K (.ref C) (.type "ValueError") = some true
  subC : mroIn K C (.ref C) = some true
  opq : nsIn K cStatics "thirdparty.any" = some none
  sa : findIn K (.ref C) "__setattr__" = some (some (.builtin "object.__setattr__"))
  no : findIn K (.ref C) f = some none
  top : (prog.main.scope.names.lookup ("super" : Str)).isSome = false
  fs : f ≠ "self"
  fdb : (f == ("__debug__" : Str)) = false
section
variable {prog : Program} {w : World} {K : PySem.W.Frag} {C fI e t0 : Addr} {f : Str} {A : Around} {R : Result → Shared → Prop} {hp : Heap} {g : Array GenState} {d : Drawn} {t : Nat} {os : OsState} {mg mb : Str → Option Value} {v : Value}
/-- its promise -/
def spInit (C : Addr) (f : Str) : L2.Sp := fun vs H Q _ => ∃ a y, vs = [.ref a, y] ∧ H a = some (L2.exo a C none) ∧ ∀ dx, H dx = none → dx ≠ a → Q .non (L2.upd (L2.upd H dx (L2.exd dx [(f, y)])) a (L2.exo a C (some dx)))
open L2 in
end
end Ex
end Ab

/-! raise C(e), C an own exception class. -/
namespace Ab
open PySem PySem.Spec PySem.Calls PyProof.Rows PySem.W
open L2 (exo exd OexC tMkO)
/-- what the written part says of the own exception class c over ValueError, whose __init__(self, f) keeps f -/
def ExK (P : Program) (K : PySem.W.Frag) (mg : Str → Option Value) (c f : Str) : Prop :=
  ∃ fI, Ex.Ini K P (He.ga K c) fI f ∧ PySem.W.findIn K (.ref (He.ga K c)) "__init__" = some (some (.ref fI)) ∧ PySem.W.typeIn K (.ref fI) = some (.type "function") ∧ OexC K (He.ga K c) ∧ mg c = some (.ref (He.ga K c)) ∧ mg "super" = none
def mRaise (c f : Str) (m : M D) : MS := fun env h => (m env h).then fun d h1 => .exc c [(f, d)] h1
section
variable {X : L2.Cx} {K : PySem.W.Frag} {E : L2.XK} {k : Nat} {c f : Str} {e : Expr} {te : L2.TE} {me : M D} {p pos pos' : Pos}
end
end Ab

/-! try: body / except (A, B, C) as e: suite; the exception is data in the suite. -/
namespace Ab
open PySem PySem.Spec PySem.Calls PyProof.Rows PySem.W
open L2 (Inv Cx Hp XK WX TS TE Ends Takes PSs PS SP Zc Names Sky upd upd_same upd_ne ObjOk HOk)
namespace Ex
section
variable {X : Cx} {pins : List (Addr × Obj)} {σ : L2.St} {H : Hp} {s : Shared}
end
/-- what 'except (A, B, C) as n' wishes of an exception of the body: slot i is n's -/
def wAs3 (K : PySem.W.Frag) (cs : List Value) (N i : Nat) (ts : TS) (Wout : WX) (D : Ends) : WX := fun cls d σ H => σ.length = N →
  ∃ b, PySem.W.exmAny K cls cs = some b ∧ (b = true → ∃ C, cls = .ref C ∧ ∀ a, H a = none → ts { nx := fun σ' H' => D.nx (σ'.set i none) H', rt := D.rt, bk := fun σ' H' => D.bk (σ'.set i none) H', ct := fun σ' H' => D.ct (σ'.set i none) H' } (σ.set i (some (.ref a))) (upd H a (XvO a C d))) ∧
    (b = false → Wout cls d σ H)
section
variable {X : Cx} {n x1 x2 x3 : Str} {c1 c2 c3 : Value} {i : Nat} {body suite : List Stmt} {b₀ : Stmt} {p1 p2 p3 tp pos pos' : Pos} {kk : Nat} {tb : WX → TS} {ts : TS} {Wout : WX}
end
end Ex
/-! the text, its reading, its computation -/
/-- the classes and what is above them -/
abbrev XTb := List (Str × List Str)
/-- what a suite's end lets stand -/
def clrS (i : Nat) : SS → SS
  | .nx env h => .nx (env.set i none) h
  | .rt d h => .rt d h
  | .bk env h => .bk (env.set i none) h
  | .ct env h => .ct (env.set i none) h
  | _ => .bad
def hitS (tb : XTb) (cs : List Str) (c : Str) : Option Bool := (tb.lookup c).map fun l => cs.any fun x => l.contains x
def mTry3 (N i : Nat) (tb : XTb) (cs : List Str) (mb ms : MS) : MS := fun env h => match mb env h with
  | .exc c fs h' => (match hitS tb cs c with
    | some true => clrS i (ms ((List.replicate N none).set i (some (.exv c (fs.map (·.1)) (fs.map (·.2))))) h')
    | some false => .exc c fs h'
    | none => .bad)
  | r => r
/-- K says of the classes what the list says -/
def XSub (K : PySem.W.Frag) (tb : XTb) (cs : List Str) : Prop := ∀ c b, hitS tb cs c = some b → PySem.W.exmAny K (.ref (He.ga K c)) (cs.map fun x => Value.ref (He.ga K x)) = some b
section
variable {K : PySem.W.Frag} {E : XK} {ρ ρ' ρ1 : Ro} {P H P' H' P1 H1 : Hp}
end
section
variable {X : Cx} {K : PySem.W.Frag} {E : XK} {x1 x2 x3 n : Str} {i N : Nat} {body suite : List Stmt} {b₀ : Stmt} {p1 p2 p3 tp pos pos' : Pos} {kk : Nat} {tb : XK → TS} {ts : TS} {mb ms : MS} {T : XTb}
end
end Ab

/-! Defs that are called while an exception is handled; the exception's class and fields. -/
namespace Ab
open PySem PySem.Spec PySem.Calls PyProof.Rows PySem.W
open L2 (Inv Cx Hp XK VK WX TS TE TA Ends PSs PE PA Zc upd upd_same upd_ne ObjOk HOk CR CXT FnScope FunD Env0 Vals Binds RelV E0)
open L2H (RoomH)
theorem RoomH.units {k : Nat} {A : Around} (r : RoomH k A) : A.units + 64 < cLine := by have := r.un; omega
/-- a def's promise, also where an exception is handled: it lets nothing out -/
structure FnV (P : Program) (w : World) (K : PySem.W.Frag) (mg : Str → Option Value) (base : Heap) (k : Nat) (f : Addr) (fd : FuncData) (ps : List Str) (sp : L2.Sp) : Prop where
  len : ∀ vs H Q E, sp vs H Q E → vs.length = ps.length
  go : ∀ (A : Around) (outer : List PySem.Env) (s : Shared) (H : Hp) (args : Args) (us : List Value) (vs : List L2.V) (Q : VK) (E : XK),
    RoomH k A ∧ A.guards = some [] → Env0 P w K mg base A outer s H → BindsTo s fd args (ps.zip us) → Vals vs us → sp vs H Q E →
    codeAny (model P w) A (.call (.ref f) args) (CR L2.CX0 outer P w H s Q E) s
def cxV (P : Program) (w : World) (K : PySem.W.Frag) (mg : Str → Option Value) (base : Heap) (N : List Str) (qual : Str) (scope : Scope) (f : Addr) (cd : Value) (A : Around) (outer : List PySem.Env) (s : Shared) (H : Hp) (E : XK) : Cx :=
  { L2.cxOf L2.CX0 P w K mg base N qual scope f cd A outer s H E with calm := false }
section
variable {P : Program} {w : World} {K : PySem.W.Frag} {mg : Str → Option Value} {base : Heap} {x qual : Str} {params : Arguments} {body : List Stmt} {scope : Scope} {dvs : List L2.V} {kws : List (Str × L2.V)} {f : Addr} {fd : FuncData} {N ps : List Str} {k : Nat} {m : MS}
end
/-! calls of such defs -/
section
variable {X : Cx} {K : PySem.W.Frag} {E : XK} {k n : Nat} {f : Addr} {fd : FuncData} {ps : List Str} {sp : L2.Sp} {x : Str} {F : Fn} {st : Stmt} {e : Expr} {es : List Expr} {t : TA} {m : M (List D)} {p pn pos : Pos}
structure CalV (P : Program) (w : World) (K : PySem.W.Frag) (mg : Str → Option Value) (base : Heap) (k : Nat) (x : Str) (ps : List Str) (F : Fn) (st : Stmt) : Prop where
  ex : ∃ f fd, FnV P w K mg base k f fd ps (spD K ps.length F) ∧ mg x = some (.ref f) ∧ PySem.W.keepIn K (.ref f) = true ∧ Binds K fd ps [] ∧ ∃ q, FunD K q q (L2.defArgs st) (L2.defBody st) (L2.defScope st) [] [] f fd
/-! rules that ask for room alone -/
end
end Ab

/-! Dicts with texts as keys and whole numbers as values that nobody changes, and what repr says of them. -/
namespace Ab
open PySem PySem.Spec L2
open L2H (RoomH)
abbrev dkV (kvs : List (Str × Int)) : List (Key × V) := kvs.map fun p => (Sum.inr p.1, V.int p.2)
def mDk (kvs : List (Str × Int)) : M D := fun _ h => .ok (.dk kvs) h
section
variable {X : L2.Cx} {K : PySem.W.Frag} {E : XK} {ρ ρ' ρ1 : Ro} {P H P' H' P1 H1 : Hp} {k : Nat} {tk tv : TE} {mk mv : M D} {kx vx : Expr} {pos : Pos} {x : Str} {i : Int}
/-! repr -/
def dkPy (kvs : List (Str × Int)) : PyData := .dict (kvs.map fun p => (.str p.1, .int p.2))
def dkOk (kvs : List (Str × Int)) : Bool := (dkPy kvs).showable && (decide ((dkPy kvs).shown.length ≤ sizeLine) && decide ((dkPy kvs).depth ≤ 64))
/-- a tuple of one such dict -/
def dkOk1 (kvs : List (Str × Int)) : Bool := (PyData.tuple [dkPy kvs]).showable && (decide ((PyData.tuple [dkPy kvs]).shown.length ≤ sizeLine) && decide ((PyData.tuple [dkPy kvs]).depth ≤ 64))
def rReprX (K : PySem.W.Frag) : List V → Hp → VK → Prop := fun xs H Q => (∃ a kvs, xs = [.ref a] ∧ H a = some (.dK (dkV kvs)) ∧ dkOk kvs = true ∧ Q (.str (dkPy kvs).shown) H) ∨
  (∃ a b kvs, xs = [.ref a] ∧ SqT K H a [.ref b] ∧ H b = some (.dK (dkV kvs)) ∧ dkOk1 kvs = true ∧ Q (.str (PyData.tuple [dkPy kvs]).shown) H) ∨ rReprU K xs H Q
def reprXD : List D → AH → R D
  | [.dk kvs], h => if dkOk kvs = true then .ok (.str (dkPy kvs).shown) h else .bad
  | [.tup [.dk kvs]], h => if dkOk1 kvs = true then .ok (.str (PyData.tuple [dkPy kvs]).shown) h else .bad
  | ds, h => reprD ds h
end
end Ab

/-! A caught exception: its fields, isinstance. -/
namespace Ab
open PySem PySem.Spec PySem.Calls PyProof.Rows PySem.W
open L2 (Inv Cx Hp XK VK WX TS TE TA Ends PSs PE PA Zc upd upd_same upd_ne ObjOk HOk Vals RelV RelO)
/-! e.f -/
def xatD (cl : List Str) (f : Str) : D → AH → R D := fun d h => match d with
  | .exv c ns ds => if cl.contains c = true then (match (ns.zip ds).lookup f with
    | some v => .ok v h
    | none => .bad) else .bad
  | _ => .bad
/-- the classes whose instances have no such field of the class -/
def XAt (K : PySem.W.Frag) (cl : List Str) (f : Str) : Prop := ∀ c, cl.contains c = true → L2.XfC K (He.ga K c) ∧ PySem.W.findIn K (.ref (He.ga K c)) f = some none
def tXat (K : PySem.W.Frag) (f : Str) (te : TE) : TE := fun σ H Q => te σ H fun x H1 => ∃ a C d fvs v, x = .ref a ∧ H1 a = some (XvO a C d) ∧ XdP H1 d fvs ∧ fvs.lookup f = some v ∧ L2.XfC K C ∧ PySem.W.findIn K (.ref C) f = some none ∧ Q v H1
section
variable {X : Cx} {K : PySem.W.Frag} {E : XK} {e : Expr} {te : TE} {me : M D} {f : Str} {cl : List Str} {pos : Pos}
/-! isinstance(e, C) -/
def isXD (T : XTb) (ts : List Str) (ns : List String) : List D → AH → R D
  | [.exv c _ _, .glo t], h => if ts.contains t = true then (match T.lookup c with
    | some l => .ok (.bl (l.contains t)) h
    | none => .bad) else .bad
  | [.exv c _ _, .ty n], h => if ns.contains n = true then (match T.lookup c with
    | some l => .ok (.bl (l.contains (Str.ofString n))) h
    | none => .bad) else .bad
  | _, _ => .bad
def XIs (K : PySem.W.Frag) (T : XTb) (ts : List Str) (ns : List String) : Prop := ∀ c l, T.lookup c = some l → L2.ExcC K (He.ga K c) ∧ (∀ t, ts.contains t = true → PySem.W.kitOne K (.ref (He.ga K c)) (.ref (He.ga K t)) = some (l.contains t)) ∧
  ∀ n, ns.contains n = true → PySem.W.kitOne K (.ref (He.ga K c)) (.type n) = some (l.contains (Str.ofString n))
def rIsX (K : PySem.W.Frag) : List L2.V → Hp → VK → Prop := fun xs H Q => ∃ (a C : Addr) (d : Option Addr) (fvs : List (Str × L2.V)) (c : L2.V) (cv : Value) (b : Bool), xs = [.ref a, c] ∧ H a = some (XvO a C d) ∧ XdP H d fvs ∧ L2.ExcC K C ∧ (∀ u, RelV c u → u = cv) ∧ PySem.W.kitOne K (.ref C) cv = some b ∧ Q (.bl b) H
end
end Ab

/-! f(lambda: e): a def that calls what it got; the lambda's body is told as a computation. -/
namespace Ab
open PySem PySem.Spec PySem.Calls PyProof.Rows PySem.W L2
open LamX (Tabs ExtN CodeO lamCx lamEnv TabB LamS)
section
variable {K : PySem.W.Frag} {E : XK} {ρ ρ' ρ1 : Ro} {P H P' H' P1 H1 : Hp}
end
section
variable {X : Cx} {pins : List (Addr × Obj)} {σ : L2.St} {H : Hp} {s : Shared}
end
/-! a def that calls what it got, within a try -/
def toldB (N i j : Nat) (T : XTb) (cs : List Str) (ms mr : MS) (act : AH → R D) : AH → SS := fun h => match act h with
  | .ok d h1 => mr ((List.replicate N none).set i (some d)) h1
  | .exc c fs h1 => (match hitS T cs c with
    | some true => (match clrS j (ms ((List.replicate N none).set j (some (.exv c (fs.map (·.1)) (fs.map (·.2))))) h1) with
      | .nx env h2 => mr env h2
      | r => r)
    | _ => .bad)
  | .bad => .bad
def mToldF (N i j : Nat) (T : XTb) (cs : List Str) (ms mr : MS) : (AH → R D) → AH → R D := fun act h => exitR h.length (bodyR0 (toldB N i j T cs ms mr act h))
def mLamCall (F : (AH → R D) → AH → R D) (mb : M D) : M D := fun env h => F (fun h' => mb env h') h
/-- what such a def promises -/
structure ToldD (P : Program) (w : World) (K : PySem.W.Frag) (mg : Str → Option Value) (base : Heap) (k : Nat) (x a : Str) (F : (AH → R D) → AH → R D) : Prop where
  ex : ∃ (g : Addr) (N : List Str) (params : Arguments) (bg : List Stmt) (sg : Scope) (dV kV doc pm cdv ct oc : Value) (an od : Option Addr) (osl : Array (Option Value)),
    K.lookup g = some ⟨oc, od, .func (PySem.W.fnOf x x params bg sg dV kV doc pm an cdv ct), osl⟩ ∧ PySem.W.codeIn K cdv x = true ∧ FnScope N [a] sg ∧ N[0]? = some a ∧ Vis sg a ∧ mg x = some (.ref g) ∧ PySem.W.keepIn K (.ref g) = true ∧ Binds K (PySem.W.fnOf x x params bg sg dV kV doc pm an cdv ct) [a] [] ∧
    ∀ (A : Around) (outer : List PySem.Env) (s : Shared) (H : Hp) (f c' : Addr) (q : Str) (Q : VK) (tl : XK → Hp → VK → Prop) (ρ : Ro) (P' : Hp) (h : AH) (act : AH → R D), Room k (A.deeper (envOfC x sg s.heap.objs.size g cdv)) → A.guards = some [] →
      (∀ (W : WX) (pn : List (Addr × Obj)) (xe : Value → Shared → Prop) (E' : XK) (p1 p2 : Pos), Takes ((cxOf CX0 P w K mg base N x sg g cdv A outer s H E0).tr pn xe) W → (∀ cls d σ' H', E' cls d H' → W cls d σ' H') →
        PE ((cxOf CX0 P w K mg base N x sg g cdv A outer s H E0).tr pn xe) (.Call (.Name a p1) [] [] p2) (fun σZ HZ Q' => σZ[0]? = some (some (.ref f)) ∧ HZ c' = some (CodeO c' q) ∧ tl E' HZ Q')) →
      H c' = some (CodeO c' q) → SR K ρ P' H h → (∀ (E' : XK) (Q' : VK), Post K (RV K) E' ρ P' H Q' (act h) → tl E' H Q') → Post K (RV K) E0 ρ P' H Q (F act h) →
      ∃ t, PSs (cxOf CX0 P w K mg base N x sg g cdv A outer s H E0).nox bg t ∧ t { nx := fun _ H' => Q .non H', rt := Q } (L2.start N [.ref f]) H
section
variable {P : Program} {w : World} {K : PySem.W.Frag} {mg : Str → Option Value} {base : Heap} {x a bk n x1 x2 x3 : Str} {params : Arguments} {rest suite : List Stmt} {b₀ : Stmt} {scope : Scope} {g : Addr} {fd : FuncData} {N : List Str} {k i j Nn : Nat} {ms mr : MS} {T : XTb} {p1 p2 p3 pb q1 q2 q3 tp pos pos' : Pos} {kk : Nat}
end
/-! the call with a lambda -/
/-- X's code object has a table that is told -/
structure LamOk (X : Cx) : Prop where
  ex : ∃ c P, X.env.code = .ref c ∧ TabB X.base X.mg c P ∧ (P, X.env.qual ++ "<lambda>") ∈ tabsOf X.K ∧ ∀ p ∈ tabsOf X.K, p.1 = P → p.2 = X.env.qual ++ "<lambda>"
section
variable {X : Cx} {pins : List (Addr × Obj)} {σ : L2.St} {H HZ : Hp} {s s1 : Shared}
end
def tLam3 (T : List (Addr × Str)) (TT : (XK → Hp → VK → Prop) → Hp → VK → Prop) (t : XK → TE) : TE := fun σ H Q => Tabs T H ∧ ∀ H1, ExtN H H1 → (∀ b, H1 b = none → H b = none) → Tabs T H1 → TT (fun E' H' Q' => t E' σ H' Q') H1 Q
def TTold3 (K : PySem.W.Frag) (F : (AH → R D) → AH → R D) : (XK → Hp → VK → Prop) → Hp → VK → Prop := fun tl H Q =>
  ∃ ρ P h act, SR K ρ P H h ∧ (∀ (E' : XK) (Q' : VK), Post K (RV K) E' ρ P H Q' (act h) → tl E' H Q') ∧ Post K (RV K) E0 ρ P H Q (F act h)
section
variable {X : Cx} {K : PySem.W.Frag} {E : XK} {k : Nat} {x a : Str} {params : Arguments} {body : Expr} {scope : Scope} {t : XK → TE} {mb : M D} {N i j : Nat} {T : XTb} {cs : List Str} {ms mr : MS} {p lpos pos : Pos}
end
end Ab

/-! The head's facts of own exception classes and of tables of code objects. -/
namespace Ab
namespace Hd
open PySem PySem.W PySem.Calls PyProof.Rows
/-- the class object of an own exception class over ValueError -/
def xclB (K : Frag) (C : Addr) : Bool := match K.lookup C with
  | some ⟨.type "type", _, .cls cd, sl⟩ => (match cd.mro, sl.toList with
    | .ref C' :: bm, [_, _, _, _, some (.builtin n), _] => C' == C && (n == "ValueError.__new__" && (!cd.hasDel && (cd.hasDict && HandSPX.refsVE bm)))
    | _, _ => false)
  | _ => false
/-- its __init__ -/
structure ExA where
  c : Str
  f : Str
  qual : Str
  params : Arguments
  body : List Stmt
  scope : Scope
def ExA.at_ (x : ExA) (K : Frag) : Addr := He.ma K (He.ga K x.c) "__init__"
def exW (K : Frag) (a : Addr) : He.FnW := match He5.fnA K a with
  | some (n, q, ps, b, sc, gl, cl, bt) => some (n, q, ps, b, sc, gl, cl.map fun p => (p.1, 0), bt)
  | none => none
def ExA.val (x : ExA) : He.FnW := some ("__init__", x.qual, x.params, .stmts x.body, x.scope, mainGlobals, [("__class__", 0)], builtinsNs)
def xfnB (K : Frag) (C fI : Addr) (qual file : Str) : Bool := match K.lookup fI with
  | some ⟨_, _, .func fd, _⟩ => codeIn K fd.code qual && (decide (fd.defaults = .none) && ((match fd.code with
    | .ref cda => (match K.lookup cda with
      | some ⟨_, _, .fields vs, _⟩ => (match (vs[2]? : Option Value) with
        | some (.str fl _) => file == fl
        | _ => false)
      | _ => false)
    | _ => false) && (match fd.closure with
    | [(_, cc)] => (match K.lookup cc with
      | some ⟨_, _, .cell (some (.ref C')), _⟩ => C' == C
      | _ => false)
    | _ => false)))
  | _ => false
/-- what the text says of such an __init__ -/
structure IniL (qual f : Str) (params : Arguments) (body : List Stmt) (scope : Scope) : Prop where
  ex : ∃ p0 p1 p2 p3 p4 p5 p6 p7 p8, body = [.Expr (.Call (.Attribute (.Call (.Name "super" p0) [] [] p1) "__init__" p2) [] [] p3) p4, .Assign [.Attribute (.Name "self" p5) f p6] (.Name f p7) p8] ∧
    (∃ ar, (params.posonlyargs ++ params.args).head? = some ar ∧ ar.arg = ("self" : Str)) ∧ (∀ (a b kV doc pm : Value) (an : Option Addr) (cda : Addr) (ct : Value) (cc : Addr), bindArgs (ksFn "__init__" qual params body scope .none kV doc pm an (.ref cda) ct cc) ⟨[a, b], []⟩ = pure [(("self" : Str), a), (f, b)]) ∧
    scope.names.lookup ("super" : Str) = some .globalImplicit ∧ scope.names.lookup ("__class__" : Str) = some .free ∧ scope.names.lookup ("self" : Str) = some .local ∧ scope.names.lookup f = some .local ∧ scope.kind = .function ∧ (∀ x ∈ scope.names, x.2 ≠ .cell) ∧ scope.isCoroutine = false ∧ scope.isGenerator = false ∧
    (∀ L fI cda cc : Addr, swapsWith (.Name f p7) (some (.Attribute (.Name "self" p5) f p6)) p8.line (ksEnv qual scope L fI (.ref cda) cc) = pure false) ∧
    (∀ L fI cda cc : Addr, swapsWith (.Call (.Attribute (.Call (.Name "super" p0) [] [] p1) "__init__" p2) [] [] p3) none p4.line (ksEnv qual scope L fI (.ref cda) cc) = pure false) ∧
    ∀ L fI cda cc : Addr, ∃ pl : Sem Bool, eval (.Call (.Attribute (.Call (.Name "super" p0) [] [] p1) "__init__" p2) [] [] p3) (ksEnv qual scope L fI (.ref cda) cc) = (do
      let ov ← attributeBase (.Call (.Name "super" p0) [] [] p1) "__init__" (ksEnv qual scope L fI (.ref cda) cc) (eval (.Call (.Name "super" p0) [] [] p1) (ksEnv qual scope L fI (.ref cda) cc))
      standAt p2.atName
      let (f, first) ← holding [ov] (getMethod ov "__init__" pl)
      callWith p3 f first (backTo p3 (starEach [] (ksEnv qual scope L fI (.ref cda) cc))) [])
/-- all of such a class -/
def exB (c f qual file : Str) : Fb := fun K => xclB K (He.ga K c) && (decide (findIn K (.ref (He.ga K c)) "__init__" = some (some (.ref (He.ma K (He.ga K c) "__init__")))) && (decide (typeIn K (.ref (He.ma K (He.ga K c) "__init__")) = some (.type "function")) &&
  (xfnB K (He.ga K c) (He.ma K (He.ga K c) "__init__") qual file && (decide (ks_superIn K (He.ga K c) (He.ga K c) "__init__" = some (some (.builtin "ValueError.__init__"))) && (decide (subIn K (.ref (He.ga K c)) (.type "ValueError") = some true) && (decide (mroIn K (He.ga K c) (.ref (He.ga K c)) = some true) &&
  (decide (nsIn K cStatics "thirdparty.any" = some none) && (decide (findIn K (.ref (He.ga K c)) "__setattr__" = some (some (.builtin "object.__setattr__"))) && (decide (findIn K (.ref (He.ga K c)) f = some none) && (decide (subIn K (.ref (He.ga K c)) (.type "BaseException") = some true) &&
  (decide (typeIn K (.ref (He.ga K c)) = some (.type "type")) && keepIn K (.ref (He.ga K c)))))))))))))
/-! classes in clauses, isinstance, fields -/
def xsubB (T : XTb) (cs : List Str) : Fb := fun K => T.all fun p => decide (exmAny K (.ref (He.ga K p.1)) (cs.map fun x => Value.ref (He.ga K x)) = some (cs.any fun x => p.2.contains x))
def xatB (cl : List Str) (f : Str) : Fb := fun K => cl.all fun c => L2.xfB K (He.ga K c) && decide (findIn K (.ref (He.ga K c)) f = some none)
def exccB (K : Frag) (D : Addr) : Bool := decide (findIn K (.ref D) "__getattribute__" = some (some (.builtin "BaseException.__getattribute__"))) && (decide (findIn K (.ref D) "__getattr__" = some none) && (decide (subIn K (.ref D) (.type "BaseException") = some true) && (hasDictIn K D &&
  (decide (findIn K (.ref D) "__class__" = some (some (.builtin "object.__class__"))) && (decide (specialIn K (.builtin "object.__class__") "__get__" = some (some (.builtin "getset_descriptor.__get__"))) && (decide (takesIn K (.builtin "object.__class__") = some true) && decide (mroIn K D (.type "object") = some true)))))))
def xisB (T : XTb) (ts : List Str) (ns : List String) : Fb := fun K => T.all fun p => exccB K (He.ga K p.1) && ((ts.all fun t => decide (kitOne K (.ref (He.ga K p.1)) (.ref (He.ga K t)) = some (p.2.contains t))) && ns.all fun n => decide (kitOne K (.ref (He.ga K p.1)) (.type n) = some (p.2.contains (Str.ofString n))))
/-! tables of code objects -/
/-- the empty table -/
def tabE : Option Obj → Bool
  | some ⟨.none, none, .fields vs, sl⟩ => vs.isEmpty && sl.isEmpty
  | _ => false
theorem tabE_ok {o : Option Obj} (h : tabE o = true) : o = some { cls := .none, data := .fields #[] } := by
  unfold tabE at h
  split at h
  · rename_i vs sl
    simp only [Bool.and_eq_true, Array.isEmpty_iff] at h
    obtain ⟨rfl, rfl⟩ := h
    rfl
  · cases h
def tab3B : Fb := fun K => (tabs3 K).all fun p => codeHdIn K p.1 p.2.1
def tab0B : Fb := fun K => (tabs3 K).isEmpty
theorem tab0_ok {K : Frag} {h : Heap} (e : tab0B K = true) : ∀ p ∈ tabs3 K, h.get? p.2.1 = some { cls := .none, data := .fields #[] } ∧ CodeHd h p.1 p.2.1 := fun p hp => by
  rw [List.isEmpty_iff.mp e] at hp
  cases hp
/-- a def in whose body lambdas are made -/
def lamB (x qual : Str) : Fb := fun K => match K.lookup (He.ga K x) with
  | some ⟨_, _, .func fd, _⟩ => (tabs3 K).any fun p => decide (fd.code = .ref p.1) && (decide (p.2.2 = qual ++ ".<locals>." ++ "<lambda>") && (tabs3 K).all fun r => !decide (r.2.1 = p.2.1) || decide (r.2.2 = qual ++ ".<locals>." ++ "<lambda>"))
  | _ => false
/-- .. as it is used -/
def LamFn (K : Frag) (mg : Str → Option Value) (base : Heap) (f : Addr) (qual : Str) : Prop := ∀ oc od fd osl, K.lookup f = some ⟨oc, od, .func fd, osl⟩ → ∃ c P, fd.code = .ref c ∧ LamX.TabB base mg c P ∧ (P, qual ++ ".<locals>." ++ "<lambda>") ∈ tabsOf K ∧ ∀ p ∈ tabsOf K, p.1 = P → p.2 = qual ++ ".<locals>." ++ "<lambda>"
/-! the hook -/
def valX (fn : List He5.DefA) (xn : List ExA) : He.AlD := (true, fn.map He5.DefA.val ++ xn.map ExA.val)
def obsX (fb : List Fb) (fn : List He5.DefA) (xn : List ExA) (g : Addr → Option Obj) (K : Frag) : He.AlD :=
  (((fb.all fun f => f K) && fn.all fun d => d.ok K) && (tabs3 K).all fun p => tabE (g p.2.1), (fn.map fun d => He5.fnA K (d.at_ K)) ++ xn.map fun x => exW K (x.at_ K))
def SaysX (fb : List Fb) (fn : List He5.DefA) (xn : List ExA) (K : Frag) : Prop := ((fb.all fun f => f K) && fn.all fun d => d.ok K) = true ∧ (fn.map fun d => He5.fnA K (d.at_ K)) ++ (xn.map fun x => exW K (x.at_ K)) = fn.map He5.DefA.val ++ xn.map ExA.val
def hookX (as : List Addr) (fb : List Fb) (fn : List He5.DefA) (xn : List ExA) : PySem.W.Hook where
  α := He.AlD
  obs := fun s => obsX fb fn xn s.heap.get? (He.frG s.heap.get? as)
  val := fun _ => valX fn xn
  says := fun _ h => ∃ K : Frag, K.In h ∧ SaysX fb fn xn K ∧ ∀ p ∈ tabs3 K, h.get? p.2.1 = some { cls := .none, data := .fields #[] }
  of := fun _ _ e => by
    have e1 := congrArg (fun z : He.AlD => z.1) e
    have e2 := congrArg (fun z : He.AlD => z.2) e
    obtain ⟨h1, h2⟩ := He.ba e1
    exact ⟨_, He.frG_in, ⟨h1, e2⟩, fun p hp => tabE_ok (List.all_eq_true.mp h2 p hp)⟩
  keeps := fun _ _ _ ⟨K, hK, c, t⟩ k => ⟨K, Frag.In.keeps hK k, c, fun p hp => k _ _ (t p hp)⟩
def obsXL (as : List Addr) (fb : List Fb) (fn : List He5.DefA) (xn : List ExA) (g : Addr → Option Obj) : He.AlD := obsX fb fn xn g (He.frG g as)
theorem SaysX.fact {fb : List Fb} {fn : List He5.DefA} {xn : List ExA} {K : Frag} (c : SaysX fb fn xn K) (i : Nat) {f : Fb} (h : fb[i]? = some f := by rfl) : f K = true :=
  List.all_eq_true.mp (He.ba c.1).1 f (List.mem_of_getElem? h)
theorem SaysX.def_ {fb : List Fb} {fn : List He5.DefA} {xn : List ExA} {K : Frag} (c : SaysX fb fn xn K) (i : Nat) {d : He5.DefA} (h : fn[i]? = some d := by rfl) : ∃ fd, L2.FunD K d.name d.qual d.params d.body d.scope (d.dvs K) (d.kws K) (d.at_ K) fd := by
  have hl : i < fn.length := (List.getElem?_eq_some_iff.mp h).1
  have e2 := congrArg (fun l : List He.FnW => l[i]?) c.2
  try dsimp only at e2
  rw [List.getElem?_append_left (by simpa using hl), List.getElem?_append_left (by simpa using hl), List.getElem?_map, List.getElem?_map, h] at e2
  exact He5.DefA.funD (Option.some.inj e2) (List.all_eq_true.mp (He.ba c.1).2 d (List.mem_of_getElem? h))
end Hd
section
open PySem PySem.Spec L2
variable {X : Cx} {K : PySem.W.Frag} {E : XK} {k : Nat} {a b : Expr} {ta tb : TE} {ma mb : M D} {pos : Pos}
end
/-! defs in whose bodies lambdas are made -/
section
open PySem PySem.Spec L2
variable {P : Program} {w : World} {K : PySem.W.Frag} {mg : Str → Option Value} {base : Heap} {x qual : Str} {params : Arguments} {body : List Stmt} {scope : Scope} {dvs : List V} {kws : List (Str × V)} {f : Addr} {fd : FuncData} {N ps : List Str} {k : Nat} {m : MS}
end
end Ab

/-! repr of a list or a tuple of one object whose class has its own __repr__. -/
namespace Ab
open PySem PySem.Spec L2 PyProof.Rows PySem.Calls
open L2H (RoomH)
/-- a def's promise, whatever repr is under way around -/
def FnR (P : Program) (w : World) (K : PySem.W.Frag) (mg : Str → Option Value) (base : Heap) (k : Nat) (f : Addr) (sp : Sp) : Prop :=
  ∀ (A : Around) (outer : List PySem.Env) (s : Shared) (H : Hp) (us : List Value) (vs : List V) (Q : VK) (E : XK), RoomH k A → Env0 P w K mg base A outer s H → Vals vs us → sp vs H Q E →
    codeAny (model P w) A (.call (.ref f) ⟨us, []⟩) (CR CX0 outer P w H s Q E) s
/-- the same of any binding of the arguments -/
structure FnW (P : Program) (w : World) (K : PySem.W.Frag) (mg : Str → Option Value) (base : Heap) (k : Nat) (f : Addr) (fd : FuncData) (ps : List Str) (sp : Sp) : Prop where
  len : ∀ vs H Q E, sp vs H Q E → vs.length = ps.length
  go : ∀ (A : Around) (outer : List PySem.Env) (s : Shared) (H : Hp) (args : Args) (us : List Value) (vs : List V) (Q : VK) (E : XK), RoomH k A → Env0 P w K mg base A outer s H → BindsTo s fd args (ps.zip us) → Vals vs us → sp vs H Q E →
    codeAny (model P w) A (.call (.ref f) args) (CR CX0 outer P w H s Q E) s
section
variable {P : Program} {w : World} {K : PySem.W.Frag} {mg : Str → Option Value} {base : Heap} {x qual : Str} {params : Arguments} {body : List Stmt} {scope : Scope} {dvs : List L2.V} {kws : List (Str × L2.V)} {f : Addr} {fd : FuncData} {N ps : List Str} {k : Nat} {m : MS}
theorem FnW.r {sp : Sp} (F : FnW P w K mg base k f fd ps sp) (hb : Binds K fd ps []) : FnR P w K mg base k f sp := fun A outer s H us vs Q E hr e0 r hsp => by
  have hl : us.length = ps.length := by rw [← r.length]; exact F.len _ _ _ _ hsp
  have KX : K.In s.heap := e0.mod.kin.keeps fun b o e => (e0.bs b o e).1
  have hb1 := hb s us KX (by rw [List.append_nil]; exact hl)
  rw [List.append_nil] at hb1
  exact F.go A outer s H ⟨us, []⟩ us vs Q E hr e0 hb1 r hsp
end
structure MtR (P : Program) (w : World) (K : PySem.W.Frag) (mg : Str → Option Value) (base : Heap) (k : Nat) (c m : Str) (n : Nat) (F : Fn) : Prop where
  ex : ∃ g, Cls K (He.ga K c) ∧ Meth K (He.ga K c) m g ∧ FnR P w K mg base k g (spD K (n + 1) F)
section
variable {prog : Program} {w : World} {A : Around} {E : Value → Shared → Prop} {s : Shared} {K : PySem.W.Frag} {x C f : Addr} {ox : Obj} {od : Option Obj} {base : Nat}
end
section
variable {X : L2.Cx} {c : Str} {k : Nat} {F : Fn}
def rReprL (K : PySem.W.Frag) (C : Addr) (sp : Sp) : List V → Hp → VK → Prop := fun xs H Q => ∃ a x dx fs, xs = [.ref a] ∧ SqL K H a [.ref x] ∧ H x = some (.ins C dx fs) ∧
  sp [.ref x] H (fun v H' => ∃ y : Str, v = .str y ∧ y.length ≤ 1000 ∧ SqL K H' a [.ref x] ∧ Q (.str (listText [y])) H') E0
def rReprT (K : PySem.W.Frag) (C : Addr) (sp : Sp) : List V → Hp → VK → Prop := fun xs H Q => ∃ a x dx fs, xs = [.ref a] ∧ SqT K H a [.ref x] ∧ H x = some (.ins C dx fs) ∧
  sp [.ref x] H (fun v H' => ∃ y : Str, v = .str y ∧ y.length ≤ 1000 ∧ Q (.str (tupleText [y])) H') E0
end
end Ab

/-! repr of a list of whole numbers of up to 12,000 bits. -/
namespace Ab
open PySem PySem.Spec L2 PyProof.Rows PySem.Calls
open L2H (RoomH)
theorem big_fits {i : Int} (h : i.natAbs.log2 < 12000) : i.natAbs < 10 ^ 4300 := Nat.lt_of_lt_of_le (lt_of_log2 (Nat.lt_trans h (show 12000 < 12900 by decide))) pow_lo
def iTx (i : Int) : Str := toString i
theorem iTx_len {i : Int} (h : i.natAbs.log2 < 12000) : (iTx i).length ≤ 12001 := by
  have := int_text_length_le (k := 12000) (by decide) h
  show (Str.ofString (toString i)).length ≤ _
  rw [PySem.ofString_length]
  exact this
theorem iTx_fit {i : Int} (h : i.natAbs.log2 < 12000) : (iTx i).length ≤ sizeLine := Nat.le_trans (iTx_len h) (by decide)
section
variable {prog : Program} {w : World} {A : Around} {E : Value → Shared → Prop} {s : Shared}
theorem big_under {b : Nat} {i : Int} {t : Tok} {Q : Str → Shared → Prop} (hb : b ≤ sizeLine) (hn : s.heap.NoDigits) (ha : i.natAbs.log2 < 12000) (h : Q (iTx i) { s with toks := s.toks + 1 }) :
    wpAny (model prog w) A (pyReprUnder b (.int i t)) Q E s := by
  rw [pyReprUnder_leaf (v := .int i t) hb (by intro _ e; cases e)]
  unfold pyRepr pyReprObj
  have hv : [Value.int i t].any Value.onHeap = false := rfl
  simp only [cRoomFor, hv, Bool.false_eq_true, if_false, pure_bind]
  refine wpAny_bind (wpAny_bind (wpAny_specialOf (name := Str.ofString "__repr__") (typeIs_int s i t) PySem.F.slot_int_repr.lookup ?_))
  refine wpAny_bind (m := callSpecialIfBound? (.int i t) (Str.ofString "__repr__")) (wpAny_callSpecialIfBound?_slot (name := Str.ofString "__repr__") (typeIs_int s i t) PySem.F.slot_int_repr ?_)
  refine wpAny_call (codeAny_call_builtin PySem.F.slot_int_repr.plain PySem.F.entry_int_repr (PySem.F.slot_int_repr.check _ _ _ _ _ _ _ _ (typeIs_int s i t) (PySem.F.args_int_repr_1 _) ?_))
  unfold Builtin.«int.__repr__»
  show wpAny _ _ (Builtin.overDigitLimit? i >>= _) _ _ s
  refine wpAny_bind (overDigitLimit_any hn (fun _ => ?_) (fun z => absurd z (Nat.not_le_of_lt (big_fits ha))))
  refine wpAny_bind (wpAny_mkStr (wpAny_pure ?_) (iTx_fit ha))
  exact wpAny_bind (wpAny_isInstance (T := "str") (b := true) rfl isSubtype_str_str (wpAny_pure (wpAny_pure h)))
end
section
variable {prog : Program} {w : World} {A : Around} {R : Result → Shared → Prop}
theorem big_loop {a P : Addr} {s0 : Shared} {its : List Value} {oa : Obj} {na : Nat} (ne : a ≠ P) (ha : s0.heap.get? a = some oa) (hda : oa.data = .seq its.toArray na)
    (hnd : ∀ h' : Heap, (∀ b o, b ≠ P → s0.heap.get? b = some o → h'.get? b = some o) → h'.NoDigits) :
    ∀ (js : List Int) (us pre : List Value) (done : List (Str × Tok)) (h' : Heap) (tk c n : Nat), its = pre ++ us → Vals (js.map V.int) us → done.length ≤ sizeLine → (∀ i ∈ js, i.natAbs.log2 < 12000) → done.length + js.length ≤ 1000 → n + js.length * 12003 + 2 ≤ sizeLine →
      (∀ b o, b ≠ P → s0.heap.get? b = some o → h'.get? b = some o) → h'.get? P = some { cls := .type "list", dict := none, data := .seq (strValues done).toArray c, slots := #[] } → (listText (done.map (·.1) ++ js.map iTx)).length ≤ sizeLine →
      (∀ h2 u t2, (∀ b o, b ≠ P → s0.heap.get? b = some o → h2.get? b = some o) → R (.ok (.ret (.str (listText (done.map (·.1) ++ js.map iTx)) u))) { s0 with heap := h2, toks := t2 }) →
      codeAny (model prog w) A (.builtin "list.__repr__.loop" ⟨[.ref a, rawInt (pre.length : Nat), .ref P, rawInt ((n : Nat) : Int)], []⟩) R { s0 with heap := h', toks := tk }
  | [], us, pre, done, h', tk, c, n, e, v, hd, _, _, _, kp, hP, sz, fin => by
    cases v
    rw [List.append_nil] at e
    subst e
    refine codeAny_builtin PySem.F.entry_list_repr_loop ?_
    show wpAny _ _ (Builtin.«list.__repr__.loop» ⟨[.ref a, .int (its.length : Nat) 0, .ref P, .int (n : Nat) 0], []⟩) _ _ _
    rw [repr_loop_tree]
    refine wpAny_bind (wpAny_listItems (kp a _ ne ha) hda ?_)
    have no : its.toArray[((its.length : Nat) : Int).toNat]? = none := by simp
    simp only [no]
    unfold reprEnd
    refine wpAny_bind (wpAny_listItems hP rfl ?_)
    rw [show (strValues done).toArray.toList = strValues done from rfl, repr_fold]
    refine wpAny_bind (wpAny_pure ?_)
    have sz : (textFrom 0 "[" (done.map (·.1)) ++ "]").length ≤ sizeLine := by
      have e : listText (done.map (·.1) ++ ([] : List Int).map iTx) = textFrom 0 "[" (done.map (·.1)) ++ "]" := by
        rw [List.map_nil, List.append_nil]; rfl
      rw [← e]; exact sz
    refine wpAny_bind (wpAny_mkStr (wpAny_pure ?_) sz)
    have := fin h' tk (tk + 1) kp
    rw [List.map_nil, List.append_nil] at this
    exact this
  | j :: js, us, pre, done, h', tk, c, n, e, v, hd, hj, hl, hn, kp, hP, sz, fin => by
    rw [List.map_cons] at v
    cases v with
    | cons r v =>
      rename_i u us
      obtain ⟨t, rfl⟩ := r
      have lj := hj j List.mem_cons_self
      simp only [List.length_cons] at hl hn
      refine codeAny_builtin PySem.F.entry_list_repr_loop ?_
      show wpAny _ _ (Builtin.«list.__repr__.loop» ⟨[.ref a, .int (pre.length : Nat) 0, .ref P, .int (n : Nat) 0], []⟩) _ _ _
      rw [repr_loop_tree]
      refine wpAny_bind (wpAny_listItems (kp a _ ne ha) hda ?_)
      have so : its.toArray[((pre.length : Nat) : Int).toNat]? = some (Value.int j t) := by rw [e]; simp
      simp only [so]
      rw [Int.toNat_natCast]
      refine wpAny_bind (wpAny_holding (big_under (by omega) (hnd h' kp) lj ?_))
      refine wpAny_bind (wpAny_mkStr ?_ (iTx_fit lj))
      refine wpAny_bind ?_
      show wpAny _ _ (updateSeq P _) _ _ _
      refine wpAny_updateSeq hP rfl (wpAny_pure ⟨PySem.F.quiet_list_repr_loop _, ?_⟩) (by simp [strValues]; exact Nat.le_trans (show done.length ≤ 1000 by omega) (by decide)) (by simp [strValues]; exact Nat.le_trans (show done.length ≤ 1000 by omega) (by decide))
      have l0 := iTx_len lj
      have e1 : (((pre.length : Nat) : Int) + 1) = (((pre ++ [Value.int j t]).length : Nat) : Int) := by simp
      rw [e1]
      have fin2 : ∀ h2 u t2, (∀ b o, b ≠ P → s0.heap.get? b = some o → h2.get? b = some o) → R (.ok (.ret (.str (listText ((done ++ [(iTx j, tk + 1)]).map (·.1) ++ js.map iTx)) u))) { s0 with heap := h2, toks := t2 } := by
        rw [List.map_append, List.append_assoc]
        exact fin
      have sz2 : (listText ((done ++ [(iTx j, tk + 1)]).map (·.1) ++ js.map iTx)).length ≤ sizeLine := by
        rw [List.map_append, List.append_assoc]
        exact sz
      obtain ⟨c2, hP2⟩ : ∃ c2, (h'.update P (Obj.mapSeq fun z => z.push (Value.str (iTx j) (tk + 1)))).get? P = some { cls := .type "list", dict := none, data := .seq (strValues (done ++ [(iTx j, tk + 1)])).toArray c2, slots := #[] } := by
        have ea : (strValues (done ++ [(iTx j, tk + 1)])).toArray = (strValues done).toArray.push (Value.str (iTx j) (tk + 1)) := by simp [strValues]
        rw [ea]
        exact ⟨_, Heap.get?_update_self _ hP rfl⟩
      exact big_loop ne ha hda hnd js us (pre ++ [Value.int j t]) (done ++ [(iTx j, tk + 1)]) _ _ c2 (n + ((iTx j).length + 2)) (by rw [e, List.append_assoc]; rfl) v (by simp; exact Nat.le_trans (show done.length + 1 ≤ 1000 by omega) (by decide)) (fun i hi => hj i (List.mem_cons_of_mem _ hi)) (by simp; omega) (by omega) (fun b o hb he => (Heap.get?_update_other _ _ (Ne.symm hb)).trans (kp b o hb he)) hP2 sz2 fin2
end
section
variable {X : L2.Cx} {K : PySem.W.Frag} {E : XK} {k : Nat}
structure NoMax (K : PySem.W.Frag) : Prop where
  ok : PySem.W.nsOkIn K cStatics = true
  no : PySem.W.nsIn K cStatics "sys.int_max_str_digits" = some none
theorem NoMax.at (n : NoMax K) {h : Heap} (X : K.In h) : h.NoDigits := ⟨_, .of_isNs (PySem.W.isNs_of_in X n.ok), PySem.W.nsMap_none_of_in X n.ok n.no⟩
def rReprI (K : PySem.W.Frag) : List V → Hp → VK → Prop := fun xs H Q => ∃ a i is, xs = [.ref a] ∧ SqL K H a ((i :: is).map V.int) ∧ (∀ j ∈ i :: is, j.natAbs.log2 < 12000) ∧ is.length < 900 ∧ Q (.str (listText ((i :: is).map iTx))) H
theorem text_big : ∀ (l : List Int) (k : Nat) (acc : Str), (∀ j ∈ l, j.natAbs.log2 < 12000) → (textFrom k acc (l.map iTx)).length ≤ acc.length + l.length * 12003
  | [], k, acc, _ => by show acc.length ≤ _; omega
  | i :: l, k, acc, h => by
    have ih := text_big l (k + 1) (acc ++ (if k > 0 then ", " else "" : String) ++ iTx i) (fun j hj => h j (List.mem_cons_of_mem _ hj))
    have e : (acc ++ (if k > 0 then ", " else "" : String) ++ iTx i).length = acc.length + (if k > 0 then 2 else 0) + (iTx i).length := by
      rw [strLen_append, strLen_append]; split <;> rfl
    have := iTx_len (h i List.mem_cons_self)
    have : (if k > 0 then 2 else 0 : Nat) ≤ 2 := by split <;> decide
    rw [List.length_cons]
    show (textFrom (k + 1) _ (l.map iTx)).length ≤ _
    omega
theorem call_reprI (nm : NoMax X.K) (hgu : X.A.guards = some []) (hu : X.A.units + 1 < cLine) : CallR X (.builtin "repr") (rReprI X.K) := by
  intro pins s σ H xs us Q I r h
  obtain ⟨a, i, is, rfl, sq, sm, ln, q⟩ := h
  obtain ⟨u, rfl, rx⟩ := vals1 r
  obtain rfl : u = Value.ref a := rx
  obtain ⟨its, rv, ⟨oa, na, ha, hc, hdct, hda⟩, _⟩ := I.list sq
  have rv0 := rv
  rw [List.map_cons] at rv
  cases rv with
  | cons r0 rv =>
  rename_i u0 us0
  refine call_repr_slot hu ⟨oa, ha, hc⟩ PySem.F.slot_list_repr.toG ?_
  refine wpAny_call (codeAny_call_builtin PySem.F.slot_list_repr.plain PySem.F.entry_list_repr (PySem.F.slot_list_repr.check _ _ _ _ _ _ _ _ ⟨oa, ha, hc⟩ (PySem.F.args_list_repr_1 _) ?_))
  refine wpAny_list_repr_head (g := []) (by exact hgu) (fun v rest kw hm => by cases hm) ha hda ?_
  refine wpAny_bind (m := newList []) (wpAny_newObj_type ?_)
  refine wpAny_pure ⟨PySem.F.quiet_list_repr_loop _, ?_⟩
  have aP : a ≠ s.heap.objs.size := Nat.ne_of_lt (Heap.lt_size ha)
  have I1 := I.kept (h' := s.heap.push { cls := .type "list", dict := none, data := .seq #[] 0, slots := #[] }) (t' := s.toks) fun b u e => Heap.get?_push_of_some _ e
  have hP : (s.heap.push { cls := .type "list", dict := none, data := .seq #[] 0, slots := #[] }).get? s.heap.objs.size = some { cls := .type "list", dict := none, data := .seq #[] 0, slots := #[] } := Heap.get?_push_size _ rfl
  have nP : H s.heap.objs.size = none := I.hok.fresh (Nat.le_refl _)
  have lt : s.heap.objs.size ≠ X.env.locals := Nat.ne_of_gt I.lt
  have nd0 : s.heap.NoDigits := nm.at I.kIn
  have sz : (listText ((i :: is).map iTx)).length ≤ sizeLine := by
    have e : (listText ((i :: is).map iTx)).length = (textFrom 0 "[" ((i :: is).map iTx)).length + 1 := by
      show (textFrom 0 "[" ((i :: is).map iTx) ++ "]").length = _
      rw [strLen_append]; rfl
    have l := text_big (i :: is) 0 "[" sm
    have l1 : (("[" : String) : Str).length = 1 := rfl
    rw [List.length_cons] at l
    rw [e]
    exact Nat.le_trans (show _ ≤ 900 * 12003 + 2 by omega) (by decide)
  refine big_loop (s0 := { s with heap := s.heap.push { cls := .type "list", dict := none, data := .seq #[] 0, slots := #[] } }) (its := u0 :: us0) aP (Heap.get?_push_of_some _ ha) hda (fun h' kp => ?_) (i :: is) (u0 :: us0) [] [] _ _ 0 0 rfl rv0 (Nat.zero_le _) sm (by simp; omega) (by
      rw [List.length_cons]
      exact Nat.le_trans (show _ ≤ 900 * 12003 + 2 by omega) (by decide)) (fun b o _ e => e) hP (by exact sz) (fun h2 u t2 kp => ?_)
  · obtain ⟨mc, ns, no⟩ := nd0
    obtain ⟨o, es, ep, ho, re⟩ := ns
    have hlt : cStatics < s.heap.objs.size := Heap.lt_size ho
    exact ⟨mc, ⟨o, es, ep, kp _ _ (Nat.ne_of_lt hlt) (Heap.get?_push_of_some _ ho), re⟩, no⟩
  · refine ⟨_, _, rfl, .str (listText ((i :: is).map iTx)), _, ?_, ⟨_, rfl⟩, q⟩
    exact I1.turned (t' := t2) kp nP lt (.inr I.sz) (fun x c e z => by
      obtain ⟨v, hv⟩ := I.cell x c e
      exact absurd z (Nat.ne_of_lt hv.lt)) fun p hp z => by
      have := Heap.lt_size (I.pin p hp).1
      rw [z] at this
      exact Nat.lt_irrefl _ this
def intsZ : List D → Option (List Int)
  | [] => some []
  | .int i :: ds => (intsZ ds).map (i :: ·)
  | _ => none
def reprID : List D → AH → R D := fun ds h => match ds with
  | [.lst es] => (match intsZ es with
    | some (i :: is) => if ((i :: is).all fun j => decide (j.natAbs.log2 < 12000)) = true ∧ is.length < 900 then .ok (.str (listText ((i :: is).map iTx))) h else .bad
    | _ => .bad)
  | _ => .bad
theorem ints_rep {ρ : Ro} {P : Hp} : ∀ {es : List D} {is : List Int} {vs : List V}, RepL K ρ P es vs → intsZ es = some is → vs = is.map V.int
  | [], is, vs, r, e => by
    cases r
    simp only [intsZ, Option.some.injEq] at e
    subst e; rfl
  | d :: es, is, vs, r, e => by
    cases r with
    | cons a b =>
      cases d <;> try (simp [intsZ] at e; done)
      rename_i i
      cases q : intsZ es with
      | none => simp [intsZ, q] at e
      | some js =>
        simp only [intsZ, q, Option.map_some, Option.some.injEq] at e
        subst e
        cases a
        rw [ints_rep b q]; rfl
theorem cb_reprI : CbS K E (rReprI K) reprID := fun ρ P H h vs ds s w Q p => by
  unfold reprID at p
  split at p
  · rename_i es
    obtain ⟨v, rfl, r⟩ := w.one
    split at p
    · rename_i i is ei
      split at p
      · rename_i hc
        cases r with
        | lst q r =>
          rename_i a vs
          have ev := ints_rep r ei
          subst ev
          refine ⟨a, i, is, rfl, .of (s.sub _ _ q rfl), fun j hj => ?_, hc.2, Post.here p s (.str _)⟩
          exact of_decide_eq_true (List.all_eq_true.mp hc.1 j hj)
      · exact p.elim
    · exact p.elim
  · exact p.elim
theorem jb_reprI (nm : NoMax X.K) (hr : Room k X.A) (hg : X.A.guards = some []) (hK : X.K = K := by rfl) : JBf K E X (.builtin "repr") (rReprI K) reprID := by
  subst hK
  exact ⟨call_reprI nm hg (by have := hr.un; omega), cb_reprI⟩
end
namespace Hd
def nmB : Fb := fun K => PySem.W.nsOkIn K cStatics && (match PySem.W.nsIn K cStatics "sys.int_max_str_digits" with
  | some none => true
  | _ => false)
theorem nm_ok {K : PySem.W.Frag} (h : nmB K = true) : NoMax K := by
  unfold nmB at h
  rw [Bool.and_eq_true] at h
  refine ⟨h.1, ?_⟩
  have h2 := h.2
  split at h2
  · rename_i e; exact e
  · cases h2
end Hd
end Ab

/-! max of a list of ints. -/
namespace Ab
open PySem PySem.Spec PySem.Calls PyProof.Rows PySem.W L2
section
open PySem.W (AlikeAll max_list_data maxD_ints)
variable {X : Cx}
def rMaxI (K : PySem.W.Frag) : List V → Hp → VK → Prop := fun vs H Q => ∃ (a : Addr) (n : Int) (ns : List Int), vs = [V.ref a] ∧ SqL K H a ((n :: ns).map V.int) ∧ Q (.int (ns.foldl max n)) H
theorem cr_maxI (hu : X.A.units + 5 < cLine) (hc : X.calm = true) : CallR X (.builtin "max") (rMaxI X.K) := by
  intro pins s σ H vs us Q I r h
  obtain ⟨a, n, ns, rfl, hs, q⟩ := h
  rw [Vals.ref1 r]
  obtain ⟨its, rv, hl, _⟩ := I.list hs
  have di : ∀ ns : List Int, DpAll X.K H (ns.map V.int) (ns.map PyData.int) := by
    intro ns
    induction ns with
    | nil => exact .nil
    | cons n ns ih => exact .cons (.int n) ih
  obtain ⟨as, ra⟩ := Dp.readsAll I _ _ _ (di (n :: ns)) rv
  have ha : AlikeAll (PyData.int n :: ns.map PyData.int) := by
    constructor
    · intro x hx y hy
      have i1 : ∃ i, x = PyData.int i := by
        rcases List.mem_cons.mp hx with rfl | hx
        · exact ⟨_, rfl⟩
        · obtain ⟨i, _, rfl⟩ := List.mem_map.mp hx; exact ⟨i, rfl⟩
      have i2 : ∃ i, y = PyData.int i := by
        rcases List.mem_cons.mp hy with rfl | hy
        · exact ⟨_, rfl⟩
        · obtain ⟨i, _, rfl⟩ := List.mem_map.mp hy; exact ⟨i, rfl⟩
      obtain ⟨i, rfl⟩ := i1
      obtain ⟨j, rfl⟩ := i2
      rfl
    · intro x hx e
      subst e
      rcases List.mem_cons.mp hx with hx | hx
      · cases hx
      · obtain ⟨i, _, hx⟩ := List.mem_map.mp hx; cases hx
  refine max_list_data (vs := its.toArray) (I.ok.hd hc) hl.isList ra ha (by have := depth_ints (n :: ns); simp only [List.map_cons] at this; show X.A.units + 1 + _ < _; omega) fun i v h' tk bs e rd hk => ?_
  rw [maxD_ints] at rd
  obtain ⟨t, rfl, _⟩ := reads_int_inv rd
  exact ⟨.int (ns.foldl max n), H, I.kept (t' := tk) hk, ⟨t, rfl⟩, q⟩
variable {K : PySem.W.Frag} {E : XK} {ρ ρ' ρ1 : Ro} {P H P' H' P1 H1 : Hp} {k : Nat}
def maxLD (ds : List D) (h : AH) : R D := match ds with
  | [d] => (match seqD d h with
    | some es => (match intsD es with
      | some (n :: ns) => .ok (.int (ns.foldl max n)) h
      | _ => .bad)
    | none => .bad)
  | _ => .bad
theorem cb_maxI : CbS K E (rMaxI K) maxLD := fun ρ P H h vs ds s w Q p => by
  unfold maxLD at p
  split at p
  · obtain ⟨v, rfl, r⟩ := w.one
    split at p
    · rename_i es q
      split at p
      · rename_i n ns e
        obtain ⟨a, us, rfl, sq, rr⟩ := seqD_sq s r q
        have e2 := intsD_ok e
        subst e2
        have eu : us = (n :: ns).map V.int := by
          generalize n :: ns = l at rr
          clear sq q e p
          induction l generalizing us with
          | nil => cases rr; rfl
          | cons x l ih =>
            cases rr with
            | cons a b => rw [ih _ b]; cases a; rfl
        subst eu
        exact ⟨a, n, ns, rfl, sq, Post.here p s (.int _)⟩
      · exact p.elim
    · exact p.elim
  · exact p.elim
theorem jb_maxI (hr : Room k X.A) (hK : X.K = K := by rfl) (hc : X.calm = true := by rfl) : JBf K E X (.builtin "max") (rMaxI K) maxLD := by subst hK; exact ⟨cr_maxI (by have := hr.un; omega) hc, cb_maxI⟩
end
end Ab

namespace K69
open PySem PySem.Spec PyProof.Rows L2 Ab
def top (i : Nat) : Stmt := PySem.Challenge.pw_turnedblind_k69_whole_kinds_of_rings.main.body.getD i (.Pass ⟨0, 0, 0, 0⟩)
def clsBody : Stmt → List Stmt
  | .ClassDef _ _ _ b .. => b
  | _ => []
def topM (i j : Nat) : Stmt := (clsBody (top i)).getD j (.Pass ⟨0, 0, 0, 0⟩)
abbrev FnP (K : PySem.W.Frag) (x q : Str) (st : Stmt) (f : Addr) (fd : FuncData) : Prop := FunD K x q (defArgs st) (defBody st) (defScope st) [] [] f fd
/-! what each def computes -/
abbrev s_is_integer : Stmt := top 4
def m_is_integer : MS :=
  (mRet (mAnd (mCB isiD (mCons (mVar 0) (mCons (mC (.ty "int")) mNil))) (mNot (mCB isiD (mCons (mVar 0) (mCons (mC (.ty "bool")) mNil))))))
def F_is_integer : Fn := mFnT 1 m_is_integer
abbrev s_power_of : Stmt := top 6
def m_power_of : MS :=
  (mSeq (mAsg (mC (.int 1)) (mgName 2))
  (mSeq (mFor (miRng1 (mCons (mVar 1) mNil)) (mgName 3) (mAsg (mBin mulUD (mVar 2) (mVar 0)) (mgName 2)))
  (mRet (mVar 2))))
def F_power_of : Fn := mFnT 4 m_power_of
abbrev s_divisor : Stmt := top 10
def m_divisor : MS :=
  (mSeq (mWhile (mBl (mBin (cmpD fun i j => decide (j < i)) (mVar 1) (mC (.int 0)))) (mPar 0 1 (mCons (mVar 1) (mCons (mBin modD (mVar 0) (mVar 1)) mNil))) 100000)
  (mRet (mVar 0)))
def F_divisor : Fn := mFnT 2 m_divisor
abbrev s__law_spring : Stmt := top 13
def m__law_spring : MS :=
  (mSeq (mAsg (mIf (mBl (mBin (cmpD fun i j => decide (i < j)) (mVar 1) (mCB lenUD (mCons (mVar 0) mNil)))) (mBin ixUD (mVar 0) (mVar 1)) (mBin addUD (mBin mulUD (mC (.int 7)) (mVar 1)) (mC (.int 2)))) (mgName 2))
  (mSeq (mAsg (mBin addUD (mC (.int 90001)) (mBin mulUD (mC (.int 7919)) (mVar 1))) (mgName 3))
  (mSeq (mFor (miU (mFrz (mBinF catD (mFrz (mSlL (mVar 0) mNoPart (mPart (mC (.int 8))))) (mFrz (mLst (mCons (mVar 2) mNil)))))) (mgName 4) (mAsg (mBin modD (mCB intUD (mCons (mBin addUD (mBin addUD (mBin mulUD (mVar 3) (mC (.int 48271))) (mCB intUD (mCons (mVar 4) mNil))) (mBin mulUD (mC (.int 11)) (mVar 1))) mNil)) (mC (.int 2147483647))) (mgName 3)))
  (mRet (mOwn (mLst (mCons (mIf (mOrT (mBl (mBin (cmpD fun i j => decide (i < j)) (mVar 2) (mC (.int 0)))) (mBl (mBin (cmpD fun i j => decide (j ≤ i)) (mVar 2) (mBin powD (mC (.int 10)) (mC (.int 18)))))) (mCB absD (mCons (mVar 2) mNil)) (mC (.int 0))) (mCons (mVar 3) (mCons (mC (.int 0)) mNil)))))))))
def F__law_spring : Fn := mFnK 5 m__law_spring
abbrev s__law_draw : Stmt := top 14
def m__law_draw : MS :=
  (mSeq (mAsg (mBin addUD (mBin ixUD (mVar 0) (mC (.int 2))) (mC (.int 1))) (mgSubU (mVar 0) (mC (.int 2))))
  (mSeq (mAsg (mBin modD (mCB intUD (mCons (mBin addUD (mBin addUD (mBin mulUD (mBin ixUD (mVar 0) (mC (.int 1))) (mC (.int 69621))) (mBin mulUD (mC (.int 40503)) (mBin ixUD (mVar 0) (mC (.int 2))))) (mC (.int 1))) mNil)) (mC (.int 2147483647))) (mgSubU (mVar 0) (mC (.int 1))))
  (mSeq (mIfS (mBl (mBin (cmpD fun i j => decide (j < i)) (mBin ixUD (mVar 0) (mC (.int 0))) (mC (.int 0)))) (mSeq (mAsg (mCB divmodD (mCons (mBin ixUD (mVar 0) (mC (.int 0))) (mCons (mVar 1) mNil))) (mgSeq 2 (mgCons (mgSubU (mVar 0) (mC (.int 0))) (mgCons (mgName 2) mgNil))))
  (mRet (mVar 2))) mNext)
  (mSeq (mAsg (mBin addUD (mBin ixUD (mVar 0) (mC (.int 1))) (mC (.int 12345))) (mgName 3))
  (mSeq (mAsg (mBin modD (mCB intUD (mCons (mBin addUD (mBin mulUD (mVar 3) (mBin ixUD (mVar 0) (mC (.int 1)))) (mBin ixUD (mVar 0) (mC (.int 2)))) mNil)) (mC (.int 2147483629))) (mgName 4))
  (mRet (mBin modD (mCB intUD (mCons (mBin divD (mVar 4) (mC (.int 256))) mNil)) (mVar 1))))))))
def F__law_draw : Fn := mFnT 5 m__law_draw
abbrev s__law_all : Stmt := top 16
def b__law_all_1 : MS :=
  (mSeq (mAsg (mFrz (mLst mNil)) (mgName 4))
  (mSeq (mFor (miU (mVar 2)) (mgName 5) (mAsg (mFrz (mBinF catD (mVar 4) (mFrz (mLc (miRng1 (mCons (mVar 1) mNil)) (mgName 6) (fun _ h => .ok true h) (mBin addUD (mVar 5) (mTup (mCons (mVar 6) mNil))) [6])))) (mgName 4)))
  (mAsg (mVar 4) (mgName 2))))
def m__law_all : MS :=
  (mSeq (mAsg (mFrz (mLst (mCons (mTup mNil) mNil))) (mgName 2))
  (mSeq (mFor (miRng1 (mCons (mVar 0) mNil)) (mgName 3) b__law_all_1)
  (mRet (mVar 2))))
def F__law_all : Fn := mFnT 7 m__law_all
abbrev s__law_shared : Stmt := top 18
def m__law_shared : MS :=
  (mRet (mCB maxLD (mCons (mFrz (mLc (miRng2 (mCons (mC (.int 1)) (mCons (mBin addUD (mCB min2D (mCons (mVar 0) (mCons (mVar 1) mNil))) (mC (.int 1))) mNil))) (mgName 2) (mAndT (mBl (mBin eqD (mBin modD (mCB intUD (mCons (mVar 0) mNil)) (mVar 2)) (mC (.int 0)))) (mBl (mBin eqD (mBin modD (mCB intUD (mCons (mVar 1) mNil)) (mVar 2)) (mC (.int 0))))) (mVar 2) [2])) mNil)))
def F__law_shared : Fn := mFnT 3 m__law_shared
abbrev s__law_often : Stmt := top 19
def m__law_often : MS :=
  (mSeq (mAsg (mC (.int 1)) (mgName 2))
  (mSeq (mFor (miRng1 (mCons (mVar 1) mNil)) (mgName 3) (mAsg (mBin mulUD (mVar 2) (mVar 0)) (mgName 2)))
  (mRet (mVar 2))))
def F__law_often : Fn := mFnT 4 m__law_often
abbrev s_is_between : Stmt := top 5
def m_is_between : MS :=
  (mRet (mAnd (mCallP 1 F_is_integer (mCons (mVar 0) mNil)) (mChain (cmpD fun i j => decide (i ≤ j)) (cmpD fun i j => decide (i ≤ j)) (mVar 1) (mVar 0) (mVar 2))))
def F_is_between : Fn := mFnT 3 m_is_between
abbrev s__law_of : Stmt := top 15
def m__law_of : MS :=
  (mRet (mBin ixUD (mVar 1) (mCall 2 F__law_draw (mCons (mVar 0) (mCons (mCB lenUD (mCons (mVar 1) mNil)) mNil)))))
def F__law_of : Fn := mFnT 2 m__law_of
abbrev s__law_counted : Stmt := top 17
def b__law_counted_1 : MS :=
  (mSeq (mAsg (mBin addUD (mSlU (mVar 4) (mPart (mVar 5)) mNoPart) (mSlU (mVar 4) mNoPart (mPart (mVar 5)))) (mgName 6))
  (mFor (miRng1 (mCons (mVar 1) mNil)) (mgName 7) (mAsg (mC (.bl true)) (mgSubU (mVar 3) (mCB tupleD (mCons (mFrz (mLc (miU (mVar 6)) (mgName 8) (fun _ h => .ok true h) (mBin modD (mCB intUD (mCons (mBin addUD (mVar 8) (mVar 7)) mNil)) (mVar 1)) [8])) mNil))))))
def m__law_counted : MS :=
  (mSeq (mPar 2 3 (mCons (mC (.int 0)) (mCons mDNew mNil)))
  (mSeq (mFor (miU (mCallP 2 F__law_all (mCons (mVar 0) (mCons (mVar 1) mNil)))) (mgName 4) (mIfS (mBl (mBin (inUD true) (mVar 4) (mVar 3))) (mSeq (mAsg (mBin addUD (mVar 2) (mC (.int 1))) (mgName 2))
  (mFor (miRng1 (mCons (mVar 0) mNil)) (mgName 5) b__law_counted_1)) mNext))
  (mRet (mVar 2))))
def F__law_counted : Fn := mFnT 9 m__law_counted
abbrev s__law_mean : Stmt := top 20
def b__law_mean_1 : MS :=
  (mSeq (mAsg (mCB lenUD (mCons (mFrz (mLc (miRng2 (mCons (mC (.int 1)) (mCons (mBin addUD (mVar 3) (mC (.int 1))) mNil))) (mgName 5) (mBl (mBin eqD (mCallP 2 F__law_shared (mCons (mVar 5) (mCons (mVar 3) mNil))) (mC (.int 1)))) (mVar 5) [5])) mNil)) (mgName 4))
  (mAsg (mBin addUD (mVar 2) (mBin mulUD (mBin mulUD (mVar 4) (mCallP 2 F__law_shared (mCons (mVar 3) (mCons (mVar 1) mNil)))) (mCallP 2 F__law_often (mCons (mVar 1) (mCons (mBin divD (mVar 0) (mVar 3)) mNil))))) (mgName 2)))
def m__law_mean : MS :=
  (mSeq (mAsg (mC (.int 0)) (mgName 2))
  (mSeq (mFor (miU (mFrz (mLc (miRng2 (mCons (mC (.int 1)) (mCons (mBin addUD (mVar 0) (mC (.int 1))) mNil))) (mgName 5) (mBl (mBin eqD (mBin modD (mCB intUD (mCons (mVar 0) mNil)) (mVar 5)) (mC (.int 0)))) (mVar 5) [5]))) (mgName 3) b__law_mean_1)
  (mRet (mBin divD (mVar 2) (mBin mulUD (mVar 0) (mVar 1))))))
def F__law_mean : Fn := mFnT 6 m__law_mean
abbrev s_ring_kinds : Stmt := top 11
def b_ring_kinds_1 : MS :=
  (mSeq (mAsg (mCallP 2 F_divisor (mCons (mVar 0) (mCons (mVar 3) mNil))) (mgName 4))
  (mAsg (mBin addUD (mVar 2) (mBin mulUD (mCallP 2 F_divisor (mCons (mBin divD (mVar 0) (mVar 4)) (mCons (mVar 1) mNil))) (mCallP 2 F_power_of (mCons (mVar 1) (mCons (mVar 4) mNil))))) (mgName 2)))
def m_ring_kinds : MS :=
  (mSeq (mIfS (mNotT (mTru (mCallP 3 F_is_between (mCons (mVar 0) (mCons (mC (.int 1)) (mCons (mC (.int 200)) mNil)))))) (fun _ _ => .bad) mNext)
  (mSeq (mIfS (mNotT (mTru (mCallP 3 F_is_between (mCons (mVar 1) (mCons (mC (.int 1)) (mCons (mC (.int 1000)) mNil)))))) (fun _ _ => .bad) mNext)
  (mSeq (mAsg (mC (.int 0)) (mgName 2))
  (mSeq (mFor (miRng2 (mCons (mC (.int 1)) (mCons (mBin addUD (mVar 0) (mC (.int 1))) mNil))) (mgName 3) b_ring_kinds_1)
  (mRet (mBin subD (mBin divD (mVar 2) (mBin mulUD (mVar 0) (mVar 1))) (mC (.int 1))))))))
def F_ring_kinds : Fn := mFnT 5 m_ring_kinds
abbrev s__law_right : Stmt := top 21
def b__law_right_1 : MS :=
  (mSeq (mAsg (mFrz (mLst (mCons (mTup (mCons (mC (.int 1)) (mCons (mC (.int 7)) mNil))) (mCons (mTup (mCons (mC (.int 2)) (mCons (mC (.int 9)) mNil))) (mCons (mTup (mCons (mC (.int 2)) (mCons (mC (.int 30)) mNil))) (mCons (mTup (mCons (mC (.int 3)) (mCons (mC (.int 4)) mNil))) (mCons (mTup (mCons (mC (.int 3)) (mCons (mC (.int 9)) mNil))) (mCons (mTup (mCons (mC (.int 4)) (mCons (mC (.int 5)) mNil))) (mCons (mTup (mCons (mC (.int 5)) (mCons (mC (.int 4)) mNil))) (mCons (mTup (mCons (mC (.int 6)) (mCons (mC (.int 3)) mNil))) (mCons (mTup (mCons (mC (.int 9)) (mCons (mC (.int 2)) mNil))) (mCons (mTup (mCons (mC (.int 10)) (mCons (mC (.int 2)) mNil))) mNil)))))))))))) (mgName 2))
  (mSeq (mAsg (mCall 2 F__law_of (mCons (mVar 0) (mCons (mVar 2) mNil))) (mgSeq 2 (mgCons (mgName 3) (mgCons (mgName 4) mgNil))))
  (mSeq (mIfS (mBl (mBin eqD (mVar 1) (mC (.int 0)))) (mAsg (mC (.int 1)) (mgName 4)) mNext)
  (mSeq (mAsg (mBin subD (mCallP 2 F__law_counted (mCons (mVar 3) (mCons (mVar 4) mNil))) (mC (.int 1))) (mgName 5))
  (mSeq (mIfS (mBl (mBin neD (mCB reprID (mCons (mFrz (mLst (mCons (mCallP 2 F_ring_kinds (mCons (mVar 3) (mCons (mVar 4) mNil))) (mCons (mCallKP 2 F_ring_kinds (permL 0 2 [1, 0] .non) mNil (mCons (mVar 4) (mCons (mVar 3) mNil))) mNil)))) mNil)) (mCB reprID (mCons (mFrz (mLst (mCons (mVar 5) (mCons (mVar 5) mNil)))) mNil)))) (mRet (mC (.bl false))) mNext)
  (mIfS (mBl (mBin neD (mVar 5) (mBin subD (mCallP 2 F__law_mean (mCons (mVar 3) (mCons (mVar 4) mNil))) (mC (.int 1))))) (mRet (mC (.bl false))) mNext))))))
def b__law_right_2 : MS :=
  (mSeq (mPar 3 4 (mCons (mCall 2 F__law_of (mCons (mVar 0) (mCons (mFrz (mLst (mCons (mC (.int 200)) (mCons (mC (.int 128)) (mCons (mC (.int 60)) (mCons (mBin addUD (mC (.int 1)) (mCall 2 F__law_draw (mCons (mVar 0) (mCons (mC (.int 200)) mNil)))) mNil)))))) mNil))) (mCons (mBin addUD (mC (.int 1)) (mCall 2 F__law_draw (mCons (mVar 0) (mCons (mC (.int 1000)) mNil)))) mNil)))
  (mSeq (mAsg (mBin subD (mCallP 2 F__law_mean (mCons (mVar 3) (mCons (mVar 4) mNil))) (mC (.int 1))) (mgName 5))
  (mIfS (mBl (mBin neD (mCB reprID (mCons (mFrz (mLst (mCons (mCallP 2 F_ring_kinds (mCons (mVar 3) (mCons (mVar 4) mNil))) (mCons (mCallKP 2 F_ring_kinds (permL 0 2 [1, 0] .non) mNil (mCons (mVar 4) (mCons (mVar 3) mNil))) mNil)))) mNil)) (mCB reprID (mCons (mFrz (mLst (mCons (mVar 5) (mCons (mVar 5) mNil)))) mNil)))) (mRet (mC (.bl false))) mNext)))
def m__law_right : MS :=
  (mSeq (mFor (miRng1 (mCons (mC (.int 3)) mNil)) (mgName 1) b__law_right_1)
  (mSeq (mFor (miRng1 (mCons (mC (.int 2)) mNil)) (mgName 1) b__law_right_2)
  (mRet (mC (.bl true)))))
def F__law_right : Fn := mFnT 6 m__law_right
abbrev s_law : Stmt := top 22
def m_law : MS :=
  (mRet (mCB (allD false) (mCons (mFrz (mLc (miRng1 (mCons (mCB max2D (mCons (mC (.int 2)) (mCons (mCB min2D (mCons (mCB lenUD (mCons (mVar 0) mNil)) (mCons (mC (.int 5)) mNil))) mNil))) mNil)) (mgName 1) (fun _ h => .ok true h) (mCall 1 F__law_right (mCons (mCall 2 F__law_spring (mCons (mVar 0) (mCons (mVar 1) mNil))) mNil)) [1])) mNil)))
def F_law : Fn := mFnT 2 m_law
end K69

namespace K69
open PySem PySem.Spec PyProof.Rows L2 Ab
/-! each def is walked -/
theorem sc_is_integer : FnScope ["value"] ["value"] (defScope s_is_integer) := ⟨rfl, rfl, rfl, by decide +kernel, rfl, by decide +kernel, by decide +kernel⟩
theorem sc_power_of : FnScope ["base", "times", "found", "turn"] ["base", "times"] (defScope s_power_of) := ⟨rfl, rfl, rfl, by decide +kernel, rfl, by decide +kernel, by decide +kernel⟩
theorem sc_divisor : FnScope ["one", "other"] ["one", "other"] (defScope s_divisor) := ⟨rfl, rfl, rfl, by decide +kernel, rfl, by decide +kernel, by decide +kernel⟩
theorem sc__law_spring : FnScope ["_law_cells", "_law_k", "_law_cell", "_law_mixed", "_law_number"] ["_law_cells", "_law_k"] (defScope s__law_spring) := ⟨rfl, rfl, rfl, by decide +kernel, rfl, by decide +kernel, by decide +kernel⟩
theorem sc__law_draw : FnScope ["_law_spring_here", "_law_size", "_law_digit", "_law_far", "_law_mixed"] ["_law_spring_here", "_law_size"] (defScope s__law_draw) := ⟨rfl, rfl, rfl, by decide +kernel, rfl, by decide +kernel, by decide +kernel⟩
theorem sc__law_all : FnScope ["_law_dial_count", "_law_size", "_law_found", "_law_k", "_law_later", "_law_each", "_law_mark"] ["_law_dial_count", "_law_size"] (defScope s__law_all) := ⟨rfl, rfl, rfl, by decide +kernel, rfl, by decide +kernel, by decide +kernel⟩
theorem sc__law_shared : FnScope ["_law_first", "_law_second", "_law_k"] ["_law_first", "_law_second"] (defScope s__law_shared) := ⟨rfl, rfl, rfl, by decide +kernel, rfl, by decide +kernel, by decide +kernel⟩
theorem sc__law_often : FnScope ["_law_size", "_law_times", "_law_found", "_law_k"] ["_law_size", "_law_times"] (defScope s__law_often) := ⟨rfl, rfl, rfl, by decide +kernel, rfl, by decide +kernel, by decide +kernel⟩
theorem sc_is_between : FnScope ["value", "least", "most"] ["value", "least", "most"] (defScope s_is_between) := ⟨rfl, rfl, rfl, by decide +kernel, rfl, by decide +kernel, by decide +kernel⟩
theorem sc__law_of : FnScope ["_law_spring_here", "_law_menu"] ["_law_spring_here", "_law_menu"] (defScope s__law_of) := ⟨rfl, rfl, rfl, by decide +kernel, rfl, by decide +kernel, by decide +kernel⟩
theorem sc__law_counted : FnScope ["_law_dial_count", "_law_size", "_law_found", "_law_past", "_law_each", "_law_k", "_law_later", "_law_by", "_law_mark"] ["_law_dial_count", "_law_size"] (defScope s__law_counted) := ⟨rfl, rfl, rfl, by decide +kernel, rfl, by decide +kernel, by decide +kernel⟩
theorem sc__law_mean : FnScope ["_law_dial_count", "_law_size", "_law_total_now", "_law_length", "_law_turns_now", "_law_k"] ["_law_dial_count", "_law_size"] (defScope s__law_mean) := ⟨rfl, rfl, rfl, by decide +kernel, rfl, by decide +kernel, by decide +kernel⟩
theorem sc_ring_kinds : FnScope ["n", "m", "found", "step", "rounds"] ["n", "m"] (defScope s_ring_kinds) := ⟨rfl, rfl, rfl, by decide +kernel, rfl, by decide +kernel, by decide +kernel⟩
theorem sc__law_right : FnScope ["_law_spring_here", "_law_k", "_law_some", "_law_dial_count", "_law_size", "_law_due"] ["_law_spring_here"] (defScope s__law_right) := ⟨rfl, rfl, rfl, by decide +kernel, rfl, by decide +kernel, by decide +kernel⟩
theorem sc_law : FnScope ["_law_script", "_law_k"] ["_law_script"] (defScope s_law) := ⟨rfl, rfl, rfl, by decide +kernel, rfl, by decide +kernel, by decide +kernel⟩
section
variable {P : Program} {w : World} {K : PySem.W.Frag} {mg : Str → Option Value} {base : Heap} {f : Addr} {fd : FuncData}
theorem ok_is_integer (F : FnP K "is_integer" "is_integer" s_is_integer f fd) (g_bool : mg "bool" = none) (g_int : mg "int" = none) (g_isinstance : mg "isinstance" = none) :
    FnG P w K mg base (L2.CX P w) 1 f fd ["value"] (spD K 1 F_is_integer) := by
  refine fn_okTG F sc_is_integer fun cdv A outer s H E hr hgu => ?_
  exact JSs.b (K := K) (m := m_is_integer) (jss_one (js_ret (je_and (je_b jb_isi g_isinstance (ja_cons (je_v 0) (ja_cons (je_ty g_int) ja_nil))) (je_one (je_not (je_b jb_isi g_isinstance (ja_cons (je_v 0) (ja_cons (je_ty g_bool) ja_nil))))))))
theorem ok_power_of (F : FnP K "power_of" "power_of" s_power_of f fd) (g_range : mg "range" = none) :
    FnG P w K mg base (L2.CX P w) 1 f fd ["base", "times"] (spD K 2 F_power_of) := by
  refine fn_okTG F sc_power_of fun cdv A outer s H E hr hgu => ?_
  exact JSs.b (K := K) (m := m_power_of) (jss_cons (js_set 2 sc_power_of.nd je_int)
    (jss_cons (js_for (ji_rng1 g_range (ja_cons (je_v 1) ja_nil)) (jg_n 3 sc_power_of.nd) (jss_one (js_set 2 sc_power_of.nd (je_mulU (je_v 2) (je_v 0)))))
    (jss_one (js_ret (je_v 2)))))
theorem ok_divisor (F : FnP K "divisor" "divisor" s_divisor f fd)  :
    FnG P w K mg base (L2.CX P w) 1 f fd ["one", "other"] (spD K 2 F_divisor) := by
  refine fn_okTG F sc_divisor fun cdv A outer s H E hr hgu => ?_
  exact JSs.b (K := K) (m := m_divisor) (jss_cons (js_while 100000 (jt_cmp jc_gt (je_v 1) je_int) (jss_one (js_par 0 1 sc_divisor.nd (ja_cons (je_v 1) (ja_cons (je_mod (je_v 0) (je_v 1)) ja_nil)))))
    (jss_one (js_ret (je_v 0))))
theorem ok__law_spring (F : FnP K "_law_spring" "_law_spring" s__law_spring f fd) (g_abs : mg "abs" = none) (g_int : mg "int" = none) (g_len : mg "len" = none) :
    FnG P w K mg base (L2.CX P w) 1 f fd ["_law_cells", "_law_k"] (spD K 2 F__law_spring) := by
  refine fn_okKG F sc__law_spring fun cdv A outer s H E hr hgu => ?_
  exact JSs.b (K := K) (m := m__law_spring) (jss_cons (js_set 2 sc__law_spring.nd (je_if (jt_cmp jc_lt (je_v 1) (je_b jb_lenU g_len (ja_cons (je_v 0) ja_nil))) (je_ixU hr (je_v 0) (je_v 1)) (je_addU (je_mulU je_int (je_v 1)) je_int)))
    (jss_cons (js_set 3 sc__law_spring.nd (je_addU je_int (je_mulU je_int (je_v 1))))
    (jss_cons (js_for (ji_U (JF.f (jf_cat (JF.f (jf_sl (je_v 0) jo_none (jo_some je_int))) (JF.f (jf_lst (ja_cons (je_v 2) ja_nil)))))) (jg_n 4 sc__law_spring.nd) (jss_one (js_set 3 sc__law_spring.nd (je_mod (je_t jb_intU g_int (ja_cons (je_addU (je_addU (je_mulU (je_v 3) je_int) (je_t jb_intU g_int (ja_cons (je_v 4) ja_nil))) (je_mulU je_int (je_v 1))) ja_nil)) je_int))))
    (jss_one (js_ret (JF.o (jf_lst (ja_cons (je_if (JW.jt (jw_or (jt_cmp jc_lt (je_v 2) je_int) (jw_or1 (jt_cmp jc_ge (je_v 2) (je_pow je_int je_int))))) (je_b jb_abs g_abs (ja_cons (je_v 2) ja_nil)) je_int) (ja_cons (je_v 3) (ja_cons je_int ja_nil))))))))))
theorem ok__law_draw (F : FnP K "_law_draw" "_law_draw" s__law_draw f fd) (g_divmod : mg "divmod" = none) (g_int : mg "int" = none) :
    FnG P w K mg base (L2.CX P w) 1 f fd ["_law_spring_here", "_law_size"] (spD K 2 F__law_draw) := by
  refine fn_okTG F sc__law_draw fun cdv A outer s H E hr hgu => ?_
  exact JSs.b (K := K) (m := m__law_draw) (jss_cons (js_asg (je_addU (je_ixU hr (je_v 0) je_int) je_int) (jg_subU hr (je_v 0) je_int))
    (jss_cons (js_asg (je_mod (je_t jb_intU g_int (ja_cons (je_addU (je_addU (je_mulU (je_ixU hr (je_v 0) je_int) je_int) (je_mulU je_int (je_ixU hr (je_v 0) je_int))) je_int) ja_nil)) je_int) (jg_subU hr (je_v 0) je_int))
    (jss_cons (js_if (jt_cmp jc_gt (je_ixU hr (je_v 0) je_int) je_int) (jss_cons (js_asg (je_b jb_divmod g_divmod (ja_cons (je_ixU hr (je_v 0) je_int) (ja_cons (je_v 1) ja_nil))) (jg_seqT (jgs_cons (jg_subU hr (je_v 0) je_int) (jgs_cons (jg_n 2 sc__law_draw.nd) jgs_nil))))
    (jss_one (js_ret (je_v 2)))) jss_nil)
    (jss_cons (js_set 3 sc__law_draw.nd (je_addU (je_ixU hr (je_v 0) je_int) je_int))
    (jss_cons (js_set 4 sc__law_draw.nd (je_mod (je_t jb_intU g_int (ja_cons (je_addU (je_mulU (je_v 3) (je_ixU hr (je_v 0) je_int)) (je_ixU hr (je_v 0) je_int)) ja_nil)) je_int))
    (jss_one (js_ret (je_mod (je_t jb_intU g_int (ja_cons (je_div (je_v 4) je_int) ja_nil)) (je_v 1)))))))))
theorem ok__law_all (F : FnP K "_law_all" "_law_all" s__law_all f fd) (g_range : mg "range" = none) :
    FnG P w K mg base (L2.CX P w) 1 f fd ["_law_dial_count", "_law_size"] (spD K 2 F__law_all) := by
  refine fn_okTG F sc__law_all fun cdv A outer s H E hr hgu => ?_
  exact JSs.b (K := K) (m := m__law_all) (jss_cons (js_set 2 sc__law_all.nd (JF.f (jf_lst (ja_cons (je_tup ja_nil) ja_nil))))
    (jss_cons (js_for (ji_rng1 g_range (ja_cons (je_v 0) ja_nil)) (jg_n 3 sc__law_all.nd) (jss_cons (js_set 4 sc__law_all.nd (JF.f (jf_lst ja_nil)))
    (jss_cons (js_for (ji_U (je_v 2)) (jg_n 5 sc__law_all.nd) (jss_one (js_set 4 sc__law_all.nd (JF.f (jf_cat (je_v 4) (JF.f (jf_lc sc__law_all.nd (ji_rng1 g_range (ja_cons (je_v 1) ja_nil)) (own := [("_law_mark", 6)]) (blkOk_by (N := ["_law_dial_count", "_law_size", "_law_found", "_law_k", "_law_later", "_law_each", "_law_mark"]) (sc := defScope s__law_all) (by decide +kernel)) (gw_name (by decide)) (fun _ _ _ _ _ => (jg_n 6 sc__law_all.nd)) (fun _ _ _ _ _ => jts_nil) (fun _ _ _ _ _ => (je_addU (je_v 5) (je_tup (ja_cons (je_v 6) ja_nil)))))))))))
    (jss_one (js_set 2 sc__law_all.nd (je_v 4))))))
    (jss_one (js_ret (je_v 2)))))
theorem ok__law_shared (F : FnP K "_law_shared" "_law_shared" s__law_shared f fd) (g_int : mg "int" = none) (g_max : mg "max" = none) (g_min : mg "min" = none) (g_range : mg "range" = none) :
    FnG P w K mg base (L2.CX P w) 1 f fd ["_law_first", "_law_second"] (spD K 2 F__law_shared) := by
  refine fn_okTG F sc__law_shared fun cdv A outer s H E hr hgu => ?_
  exact JSs.b (K := K) (m := m__law_shared) (jss_one (js_ret (je_b (jb_maxI hr) g_max (ja_cons (JF.f (jf_lc sc__law_shared.nd (ji_rng2 g_range (ja_cons je_int (ja_cons (je_addU (je_b jb_min2 g_min (ja_cons (je_v 0) (ja_cons (je_v 1) ja_nil))) je_int) ja_nil))) (own := [("_law_k", 2)]) (blkOk_by (N := ["_law_first", "_law_second", "_law_k"]) (sc := defScope s__law_shared) (by decide +kernel)) (gw_name (by decide)) (fun _ _ _ _ _ => (jg_n 2 sc__law_shared.nd)) (fun _ _ _ _ _ => (jts_one (JW.jt (jw_and (jt_cmp (jc_eq hr) (je_mod (je_t jb_intU g_int (ja_cons (je_v 0) ja_nil)) (je_v 2)) je_int) (jw_and1 (jt_cmp (jc_eq hr) (je_mod (je_t jb_intU g_int (ja_cons (je_v 1) ja_nil)) (je_v 2)) je_int)))))) (fun _ _ _ _ _ => (je_v 2)))) ja_nil))))
theorem ok__law_often (F : FnP K "_law_often" "_law_often" s__law_often f fd) (g_range : mg "range" = none) :
    FnG P w K mg base (L2.CX P w) 1 f fd ["_law_size", "_law_times"] (spD K 2 F__law_often) := by
  refine fn_okTG F sc__law_often fun cdv A outer s H E hr hgu => ?_
  exact JSs.b (K := K) (m := m__law_often) (jss_cons (js_set 2 sc__law_often.nd je_int)
    (jss_cons (js_for (ji_rng1 g_range (ja_cons (je_v 1) ja_nil)) (jg_n 3 sc__law_often.nd) (jss_one (js_set 2 sc__law_often.nd (je_mulU (je_v 2) (je_v 0)))))
    (jss_one (js_ret (je_v 2)))))
theorem ok_is_between (F : FnP K "is_between" "is_between" s_is_between f fd) (C_is_integer : Cal P w K mg base 1 "is_integer" ["value"] F_is_integer s_is_integer) :
    FnG P w K mg base (L2.CX P w) 2 f fd ["value", "least", "most"] (spD K 3 F_is_between) := by
  refine fn_okTG F sc_is_between fun cdv A outer s H E hr hgu => ?_
  exact JSs.b (K := K) (m := m_is_between) (jss_one (js_ret (je_and (je_callP C_is_integer (hr.mono (by decide)) hgu (ja_cons (je_v 0) ja_nil)) (je_one (je_chain jc_le jc_le (je_v 1) (je_v 0) (je_v 2))))))
theorem ok__law_of (F : FnP K "_law_of" "_law_of" s__law_of f fd) (C__law_draw : Cal P w K mg base 1 "_law_draw" ["_law_spring_here", "_law_size"] F__law_draw s__law_draw) (g_len : mg "len" = none) :
    FnG P w K mg base (L2.CX P w) 2 f fd ["_law_spring_here", "_law_menu"] (spD K 2 F__law_of) := by
  refine fn_okTG F sc__law_of fun cdv A outer s H E hr hgu => ?_
  exact JSs.b (K := K) (m := m__law_of) (jss_one (js_ret (je_ixU hr (je_v 1) (je_call C__law_draw (hr.mono (by decide)) hgu (ja_cons (je_v 0) (ja_cons (je_b jb_lenU g_len (ja_cons (je_v 1) ja_nil)) ja_nil))))))
theorem ok__law_counted (F : FnP K "_law_counted" "_law_counted" s__law_counted f fd) (C__law_all : Cal P w K mg base 1 "_law_all" ["_law_dial_count", "_law_size"] F__law_all s__law_all) (g_int : mg "int" = none) (g_range : mg "range" = none) (g_tuple : mg "tuple" = none) :
    FnG P w K mg base (L2.CX P w) 2 f fd ["_law_dial_count", "_law_size"] (spD K 2 F__law_counted) := by
  refine fn_okTG F sc__law_counted fun cdv A outer s H E hr hgu => ?_
  exact JSs.b (K := K) (m := m__law_counted) (jss_cons (js_par 2 3 sc__law_counted.nd (ja_cons je_int (ja_cons je_dnew ja_nil)))
    (jss_cons (js_for (ji_U (je_callP C__law_all (hr.mono (by decide)) hgu (ja_cons (je_v 0) (ja_cons (je_v 1) ja_nil)))) (jg_n 4 sc__law_counted.nd) (jss_one (js_if (jt_cmp (jc_notInU hr) (je_v 4) (je_v 3)) (jss_cons (js_set 2 sc__law_counted.nd (je_addU (je_v 2) je_int))
    (jss_one (js_for (ji_rng1 g_range (ja_cons (je_v 0) ja_nil)) (jg_n 5 sc__law_counted.nd) (jss_cons (js_set 6 sc__law_counted.nd (je_addU (je_slU (je_v 4) (jo_some (je_v 5)) jo_none) (je_slU (je_v 4) jo_none (jo_some (je_v 5)))))
    (jss_one (js_for (ji_rng1 g_range (ja_cons (je_v 1) ja_nil)) (jg_n 7 sc__law_counted.nd) (jss_one (js_asg je_bl (jg_subU hr (je_v 3) (je_t jb_tuple g_tuple (ja_cons (JF.f (jf_lc sc__law_counted.nd (ji_U (je_v 6)) (own := [("_law_mark", 8)]) (blkOk_by (N := ["_law_dial_count", "_law_size", "_law_found", "_law_past", "_law_each", "_law_k", "_law_later", "_law_by", "_law_mark"]) (sc := defScope s__law_counted) (by decide +kernel)) (gw_name (by decide)) (fun _ _ _ _ _ => (jg_n 8 sc__law_counted.nd)) (fun _ _ _ _ _ => jts_nil) (fun _ _ _ _ _ => (je_mod (je_t jb_intU g_int (ja_cons (je_addU (je_v 8) (je_v 7)) ja_nil)) (je_v 1))))) ja_nil))))))))))) jss_nil)))
    (jss_one (js_ret (je_v 2)))))
theorem ok__law_mean (F : FnP K "_law_mean" "_law_mean" s__law_mean f fd) (C__law_often : Cal P w K mg base 1 "_law_often" ["_law_size", "_law_times"] F__law_often s__law_often) (C__law_shared : Cal P w K mg base 1 "_law_shared" ["_law_first", "_law_second"] F__law_shared s__law_shared) (g_int : mg "int" = none) (g_len : mg "len" = none) (g_range : mg "range" = none) :
    FnG P w K mg base (L2.CX P w) 2 f fd ["_law_dial_count", "_law_size"] (spD K 2 F__law_mean) := by
  refine fn_okTG F sc__law_mean fun cdv A outer s H E hr hgu => ?_
  exact JSs.b (K := K) (m := m__law_mean) (jss_cons (js_set 2 sc__law_mean.nd je_int)
    (jss_cons (js_for (ji_U (JF.f (jf_lc sc__law_mean.nd (ji_rng2 g_range (ja_cons je_int (ja_cons (je_addU (je_v 0) je_int) ja_nil))) (own := [("_law_k", 5)]) (blkOk_by (N := ["_law_dial_count", "_law_size", "_law_total_now", "_law_length", "_law_turns_now", "_law_k"]) (sc := defScope s__law_mean) (by decide +kernel)) (gw_name (by decide)) (fun _ _ _ _ _ => (jg_n 5 sc__law_mean.nd)) (fun _ _ _ _ _ => (jts_one (jt_cmp (jc_eq hr) (je_mod (je_t jb_intU g_int (ja_cons (je_v 0) ja_nil)) (je_v 5)) je_int))) (fun _ _ _ _ _ => (je_v 5))))) (jg_n 3 sc__law_mean.nd) (jss_cons (js_set 4 sc__law_mean.nd (je_b jb_lenU g_len (ja_cons (JF.f (jf_lc sc__law_mean.nd (ji_rng2 g_range (ja_cons je_int (ja_cons (je_addU (je_v 3) je_int) ja_nil))) (own := [("_law_k", 5)]) (blkOk_by (N := ["_law_dial_count", "_law_size", "_law_total_now", "_law_length", "_law_turns_now", "_law_k"]) (sc := defScope s__law_mean) (by decide +kernel)) (gw_name (by decide)) (fun _ _ _ _ _ => (jg_n 5 sc__law_mean.nd)) (fun _ _ _ _ _ => (jts_one (jt_cmp (jc_eq hr) (je_callP C__law_shared (hr.mono (by decide)) hgu (ja_cons (je_v 5) (ja_cons (je_v 3) ja_nil))) je_int))) (fun _ _ _ _ _ => (je_v 5)))) ja_nil)))
    (jss_one (js_set 2 sc__law_mean.nd (je_addU (je_v 2) (je_mulU (je_mulU (je_v 4) (je_callP C__law_shared (hr.mono (by decide)) hgu (ja_cons (je_v 3) (ja_cons (je_v 1) ja_nil)))) (je_callP C__law_often (hr.mono (by decide)) hgu (ja_cons (je_v 1) (ja_cons (je_div (je_v 0) (je_v 3)) ja_nil)))))))))
    (jss_one (js_ret (je_div (je_v 2) (je_mulU (je_v 0) (je_v 1)))))))
theorem ok_ring_kinds (F : FnP K "ring_kinds" "ring_kinds" s_ring_kinds f fd) (C_divisor : Cal P w K mg base 1 "divisor" ["one", "other"] F_divisor s_divisor) (C_is_between : Cal P w K mg base 2 "is_between" ["value", "least", "most"] F_is_between s_is_between) (C_power_of : Cal P w K mg base 1 "power_of" ["base", "times"] F_power_of s_power_of) (g_MOST_KIND_DIALS : ∃ t, mg "MOST_KIND_DIALS" = some (.int 200 t)) (g_MOST_KIND_MARKS : ∃ t, mg "MOST_KIND_MARKS" = some (.int 1000 t)) (g_range : mg "range" = none) :
    FnG P w K mg base (L2.CX P w) 3 f fd ["n", "m"] (spD K 2 F_ring_kinds) := by
  refine fn_okTG F sc_ring_kinds fun cdv A outer s H E hr hgu => ?_
  exact JSs.b (K := K) (m := m_ring_kinds) (jss_cons (js_if (jt_not (jt_tru (je_callP C_is_between (hr.mono (by decide)) hgu (ja_cons (je_v 0) (ja_cons je_int (ja_cons (je_gint g_MOST_KIND_DIALS) ja_nil)))))) (jss_one js_never) jss_nil)
    (jss_cons (js_if (jt_not (jt_tru (je_callP C_is_between (hr.mono (by decide)) hgu (ja_cons (je_v 1) (ja_cons je_int (ja_cons (je_gint g_MOST_KIND_MARKS) ja_nil)))))) (jss_one js_never) jss_nil)
    (jss_cons (js_set 2 sc_ring_kinds.nd je_int)
    (jss_cons (js_for (ji_rng2 g_range (ja_cons je_int (ja_cons (je_addU (je_v 0) je_int) ja_nil))) (jg_n 3 sc_ring_kinds.nd) (jss_cons (js_set 4 sc_ring_kinds.nd (je_callP C_divisor (hr.mono (by decide)) hgu (ja_cons (je_v 0) (ja_cons (je_v 3) ja_nil))))
    (jss_one (js_set 2 sc_ring_kinds.nd (je_addU (je_v 2) (je_mulU (je_callP C_divisor (hr.mono (by decide)) hgu (ja_cons (je_div (je_v 0) (je_v 4)) (ja_cons (je_v 1) ja_nil))) (je_callP C_power_of (hr.mono (by decide)) hgu (ja_cons (je_v 1) (ja_cons (je_v 4) ja_nil)))))))))
    (jss_one (js_ret (je_sub (je_div (je_v 2) (je_mulU (je_v 0) (je_v 1))) je_int)))))))
theorem ok__law_right (F : FnP K "_law_right" "_law_right" s__law_right f fd) (C__law_counted : Cal P w K mg base 2 "_law_counted" ["_law_dial_count", "_law_size"] F__law_counted s__law_counted) (C__law_draw : Cal P w K mg base 1 "_law_draw" ["_law_spring_here", "_law_size"] F__law_draw s__law_draw) (C__law_mean : Cal P w K mg base 2 "_law_mean" ["_law_dial_count", "_law_size"] F__law_mean s__law_mean) (C__law_of : Cal P w K mg base 2 "_law_of" ["_law_spring_here", "_law_menu"] F__law_of s__law_of) (C_ring_kinds : Cal P w K mg base 3 "ring_kinds" ["n", "m"] F_ring_kinds s_ring_kinds) (nm_T : NoMax K) (g_range : mg "range" = none) (g_repr : mg "repr" = none) :
    FnG P w K mg base (L2.CX P w) 4 f fd ["_law_spring_here"] (spD K 1 F__law_right) := by
  refine fn_okTG F sc__law_right fun cdv A outer s H E hr hgu => ?_
  exact JSs.b (K := K) (m := m__law_right) (jss_cons (js_for (ji_rng1 g_range (ja_cons je_int ja_nil)) (jg_n 1 sc__law_right.nd) (jss_cons (js_set 2 sc__law_right.nd (JF.f (jf_lst (ja_cons (je_tup (ja_cons je_int (ja_cons je_int ja_nil))) (ja_cons (je_tup (ja_cons je_int (ja_cons je_int ja_nil))) (ja_cons (je_tup (ja_cons je_int (ja_cons je_int ja_nil))) (ja_cons (je_tup (ja_cons je_int (ja_cons je_int ja_nil))) (ja_cons (je_tup (ja_cons je_int (ja_cons je_int ja_nil))) (ja_cons (je_tup (ja_cons je_int (ja_cons je_int ja_nil))) (ja_cons (je_tup (ja_cons je_int (ja_cons je_int ja_nil))) (ja_cons (je_tup (ja_cons je_int (ja_cons je_int ja_nil))) (ja_cons (je_tup (ja_cons je_int (ja_cons je_int ja_nil))) (ja_cons (je_tup (ja_cons je_int (ja_cons je_int ja_nil))) ja_nil)))))))))))))
    (jss_cons (js_asg (je_call C__law_of (hr.mono (by decide)) hgu (ja_cons (je_v 0) (ja_cons (je_v 2) ja_nil))) (jg_seqT (jgs_cons (jg_n 3 sc__law_right.nd) (jgs_cons (jg_n 4 sc__law_right.nd) jgs_nil))))
    (jss_cons (js_if (jt_cmp (jc_eq hr) (je_v 1) je_int) (jss_one (js_set 4 sc__law_right.nd je_int)) jss_nil)
    (jss_cons (js_set 5 sc__law_right.nd (je_sub (je_callP C__law_counted (hr.mono (by decide)) hgu (ja_cons (je_v 3) (ja_cons (je_v 4) ja_nil))) je_int))
    (jss_cons (js_if (jt_cmp (jc_ne hr) (je_b (jb_reprI nm_T hr hgu) g_repr (ja_cons (JF.f (jf_lst (ja_cons (je_callP C_ring_kinds (hr.mono (by decide)) hgu (ja_cons (je_v 3) (ja_cons (je_v 4) ja_nil))) (ja_cons (je_callPK0 [1, 0] C_ring_kinds (hr.mono (by decide)) hgu (jk_cons (je_v 4) (jk_cons (je_v 3) jk_nil)) (fun _ _ _ _ _ _ _ us ws hu hw => match us, ws, hu, hw with | [], [_, _], _, _ => rfl)) ja_nil)))) ja_nil)) (je_b (jb_reprI nm_T hr hgu) g_repr (ja_cons (JF.f (jf_lst (ja_cons (je_v 5) (ja_cons (je_v 5) ja_nil)))) ja_nil))) (jss_one (js_ret je_bl)) jss_nil)
    (jss_one (js_if (jt_cmp (jc_ne hr) (je_v 5) (je_sub (je_callP C__law_mean (hr.mono (by decide)) hgu (ja_cons (je_v 3) (ja_cons (je_v 4) ja_nil))) je_int)) (jss_one (js_ret je_bl)) jss_nil))))))))
    (jss_cons (js_for (ji_rng1 g_range (ja_cons je_int ja_nil)) (jg_n 1 sc__law_right.nd) (jss_cons (js_par 3 4 sc__law_right.nd (ja_cons (je_call C__law_of (hr.mono (by decide)) hgu (ja_cons (je_v 0) (ja_cons (JF.f (jf_lst (ja_cons je_int (ja_cons je_int (ja_cons je_int (ja_cons (je_addU je_int (je_call C__law_draw (hr.mono (by decide)) hgu (ja_cons (je_v 0) (ja_cons je_int ja_nil)))) ja_nil)))))) ja_nil))) (ja_cons (je_addU je_int (je_call C__law_draw (hr.mono (by decide)) hgu (ja_cons (je_v 0) (ja_cons je_int ja_nil)))) ja_nil)))
    (jss_cons (js_set 5 sc__law_right.nd (je_sub (je_callP C__law_mean (hr.mono (by decide)) hgu (ja_cons (je_v 3) (ja_cons (je_v 4) ja_nil))) je_int))
    (jss_one (js_if (jt_cmp (jc_ne hr) (je_b (jb_reprI nm_T hr hgu) g_repr (ja_cons (JF.f (jf_lst (ja_cons (je_callP C_ring_kinds (hr.mono (by decide)) hgu (ja_cons (je_v 3) (ja_cons (je_v 4) ja_nil))) (ja_cons (je_callPK0 [1, 0] C_ring_kinds (hr.mono (by decide)) hgu (jk_cons (je_v 4) (jk_cons (je_v 3) jk_nil)) (fun _ _ _ _ _ _ _ us ws hu hw => match us, ws, hu, hw with | [], [_, _], _, _ => rfl)) ja_nil)))) ja_nil)) (je_b (jb_reprI nm_T hr hgu) g_repr (ja_cons (JF.f (jf_lst (ja_cons (je_v 5) (ja_cons (je_v 5) ja_nil)))) ja_nil))) (jss_one (js_ret je_bl)) jss_nil)))))
    (jss_one (js_ret je_bl))))
theorem ok_law (F : FnP K "law" "law" s_law f fd) (C__law_right : Cal P w K mg base 4 "_law_right" ["_law_spring_here"] F__law_right s__law_right) (C__law_spring : Cal P w K mg base 1 "_law_spring" ["_law_cells", "_law_k"] F__law_spring s__law_spring) (g_all : mg "all" = none) (g_len : mg "len" = none) (g_max : mg "max" = none) (g_min : mg "min" = none) (g_range : mg "range" = none) :
    FnG P w K mg base (L2.CX P w) 5 f fd ["_law_script"] (spD K 1 F_law) := by
  refine fn_okTG F sc_law fun cdv A outer s H E hr hgu => ?_
  exact JSs.b (K := K) (m := m_law) (jss_one (js_ret (je_b jb_all g_all (ja_cons (JF.f (jf_lc sc_law.nd (ji_rng1 g_range (ja_cons (je_b jb_max2 g_max (ja_cons je_int (ja_cons (je_b jb_min2 g_min (ja_cons (je_b jb_lenU g_len (ja_cons (je_v 0) ja_nil)) (ja_cons je_int ja_nil))) ja_nil))) ja_nil)) (own := [("_law_k", 1)]) (blkOk_by (N := ["_law_script", "_law_k"]) (sc := defScope s_law) (by decide +kernel)) (gw_name (by decide)) (fun _ _ _ _ _ => (jg_n 1 sc_law.nd)) (fun _ _ _ _ _ => jts_nil) (fun _ _ _ _ _ => (je_call C__law_right (hr.mono (by decide)) hgu (ja_cons (je_call C__law_spring (hr.mono (by decide)) hgu (ja_cons (je_v 0) (ja_cons (je_v 1) ja_nil))) ja_nil))))) ja_nil))))
end
/-! the head -/
def d_is_integer : He5.DefA := ⟨Hd.atG "is_integer", "is_integer", "is_integer", defArgs s_is_integer, defBody s_is_integer, defScope s_is_integer, [], []⟩
def d_power_of : He5.DefA := ⟨Hd.atG "power_of", "power_of", "power_of", defArgs s_power_of, defBody s_power_of, defScope s_power_of, [], []⟩
def d_divisor : He5.DefA := ⟨Hd.atG "divisor", "divisor", "divisor", defArgs s_divisor, defBody s_divisor, defScope s_divisor, [], []⟩
def d__law_spring : He5.DefA := ⟨Hd.atG "_law_spring", "_law_spring", "_law_spring", defArgs s__law_spring, defBody s__law_spring, defScope s__law_spring, [], []⟩
def d__law_draw : He5.DefA := ⟨Hd.atG "_law_draw", "_law_draw", "_law_draw", defArgs s__law_draw, defBody s__law_draw, defScope s__law_draw, [], []⟩
def d__law_all : He5.DefA := ⟨Hd.atG "_law_all", "_law_all", "_law_all", defArgs s__law_all, defBody s__law_all, defScope s__law_all, [], []⟩
def d__law_shared : He5.DefA := ⟨Hd.atG "_law_shared", "_law_shared", "_law_shared", defArgs s__law_shared, defBody s__law_shared, defScope s__law_shared, [], []⟩
def d__law_often : He5.DefA := ⟨Hd.atG "_law_often", "_law_often", "_law_often", defArgs s__law_often, defBody s__law_often, defScope s__law_often, [], []⟩
def d_is_between : He5.DefA := ⟨Hd.atG "is_between", "is_between", "is_between", defArgs s_is_between, defBody s_is_between, defScope s_is_between, [], []⟩
def d__law_of : He5.DefA := ⟨Hd.atG "_law_of", "_law_of", "_law_of", defArgs s__law_of, defBody s__law_of, defScope s__law_of, [], []⟩
def d__law_counted : He5.DefA := ⟨Hd.atG "_law_counted", "_law_counted", "_law_counted", defArgs s__law_counted, defBody s__law_counted, defScope s__law_counted, [], []⟩
def d__law_mean : He5.DefA := ⟨Hd.atG "_law_mean", "_law_mean", "_law_mean", defArgs s__law_mean, defBody s__law_mean, defScope s__law_mean, [], []⟩
def d_ring_kinds : He5.DefA := ⟨Hd.atG "ring_kinds", "ring_kinds", "ring_kinds", defArgs s_ring_kinds, defBody s_ring_kinds, defScope s_ring_kinds, [], []⟩
def d__law_right : He5.DefA := ⟨Hd.atG "_law_right", "_law_right", "_law_right", defArgs s__law_right, defBody s__law_right, defScope s__law_right, [], []⟩
def d_law : He5.DefA := ⟨Hd.atG "law", "law", "law", defArgs s_law, defBody s_law, defScope s_law, [], []⟩
def fn : List He5.DefA := [d_is_integer, d_power_of, d_divisor, d__law_spring, d__law_draw, d__law_all, d__law_shared, d__law_often, d_is_between, d__law_of, d__law_counted, d__law_mean, d_ring_kinds, d__law_right, d_law]
def fb_0 : Hd.Fb := fun K => (He.Fa.glo "is_integer").ok K
def fb_1 : Hd.Fb := fun K => (He.Fa.glo "power_of").ok K
def fb_2 : Hd.Fb := fun K => (He.Fa.glo "divisor").ok K
def fb_3 : Hd.Fb := fun K => (He.Fa.glo "_law_spring").ok K
def fb_4 : Hd.Fb := fun K => (He.Fa.glo "_law_draw").ok K
def fb_5 : Hd.Fb := fun K => (He.Fa.glo "_law_all").ok K
def fb_6 : Hd.Fb := fun K => (He.Fa.glo "_law_shared").ok K
def fb_7 : Hd.Fb := fun K => (He.Fa.glo "_law_often").ok K
def fb_8 : Hd.Fb := fun K => (He.Fa.glo "is_between").ok K
def fb_9 : Hd.Fb := fun K => (He.Fa.glo "_law_of").ok K
def fb_10 : Hd.Fb := fun K => (He.Fa.glo "_law_counted").ok K
def fb_11 : Hd.Fb := fun K => (He.Fa.glo "_law_mean").ok K
def fb_12 : Hd.Fb := fun K => (He.Fa.glo "ring_kinds").ok K
def fb_13 : Hd.Fb := fun K => (He.Fa.glo "_law_right").ok K
def fb_14 : Hd.Fb := fun K => (He.Fa.glo "law").ok K
def fb_15 : Hd.Fb := Hd.nmB
def fb_16 : Hd.Fb := fun K => (He.Fa.int "MOST_KIND_DIALS" 200).ok K
def fb_17 : Hd.Fb := fun K => (He.Fa.int "MOST_KIND_MARKS" 1000).ok K
def fb_18 : Hd.Fb := fun K => (He.Fa.free "abs").ok K
def fb_19 : Hd.Fb := fun K => (He.Fa.free "all").ok K
def fb_20 : Hd.Fb := fun K => (He.Fa.free "bool").ok K
def fb_21 : Hd.Fb := fun K => (He.Fa.free "divmod").ok K
def fb_22 : Hd.Fb := fun K => (He.Fa.free "int").ok K
def fb_23 : Hd.Fb := fun K => (He.Fa.free "isinstance").ok K
def fb_24 : Hd.Fb := fun K => (He.Fa.free "len").ok K
def fb_25 : Hd.Fb := fun K => (He.Fa.free "max").ok K
def fb_26 : Hd.Fb := fun K => (He.Fa.free "min").ok K
def fb_27 : Hd.Fb := fun K => (He.Fa.free "range").ok K
def fb_28 : Hd.Fb := fun K => (He.Fa.free "repr").ok K
def fb_29 : Hd.Fb := fun K => (He.Fa.free "tuple").ok K
def fb_30 : Hd.Fb := Hd.tab0B
def fb : List Hd.Fb := [fb_0, fb_1, fb_2, fb_3, fb_4, fb_5, fb_6, fb_7, fb_8, fb_9, fb_10, fb_11, fb_12, fb_13, fb_14, fb_15, fb_16, fb_17, fb_18, fb_19, fb_20, fb_21, fb_22, fb_23, fb_24, fb_25, fb_26, fb_27, fb_28, fb_29, fb_30]
abbrev R : PySem.W.OpenRow := PySem.W.OpenLaw.row PySem.Challenge.rw_turnedblind_k69_whole_kinds_of_rings
def asL : List PySem.Addr := [2, 3, 6, 4, 24, 46, 55, 62, 69, 76, 83, 90, 97, 104, 109, 114, 119, 126, 131, 138, 143, 0, 23, 45, 54, 61, 68, 75, 82, 89, 96, 103, 108, 113, 118, 125, 130, 137, 142, 22, 25, 43, 44, 49, 50, 51, 52, 53, 56, 57, 58, 59, 60, 63, 64, 65, 66, 67, 70, 71, 72, 73, 74, 77, 78, 79, 80, 81, 84, 85, 86, 87, 88, 91, 92, 93, 94, 95, 98, 99, 100, 101, 102, 105, 106, 107, 110, 111, 112, 115, 116, 117, 120, 121, 122, 123, 124, 127, 128, 129, 132, 133, 134, 135, 136, 139, 140, 141, 42, 31, 37, 38, 39, 40, 41]
abbrev hk : PySem.W.Hook := Hd.hookL asL fb fn
def ob (s : PySem.W.SharedT) : He.AlD := Hd.obsL asL fb fn (HandSHeadRun.getT s)
theorem ob_eq (s : PySem.W.SharedT) : ob s = hk.obs s.abs := Hd.obsL_eq (HandSHeadRun.getT_eq s)
def names : List PySem.Str := (["is_integer", "is_between", "power_of", "divisor", "ring_kinds", "_law_spring", "_law_draw", "_law_of"] : List PySem.Str) ++ (["_law_all", "_law_counted", "_law_shared", "_law_often", "_law_mean", "_law_right", "WrongValue", "InvalidNumber"] : List PySem.Str) ++ (["MOST_KIND_DIALS", "MOST_KIND_MARKS"] : List PySem.Str)
theorem run (w : World) : HandSHeadRun.RunEq R (PySem.W.view R.prog [22]) hk ob 20000 names w := by
  intro os
  kernel_rfl
theorem facts {P : Program} {w : World} {K : PySem.W.Frag} {h : Heap} {mg : Str → Option Value} {f : Addr} (X : K.In h) (G : h.Ns mainGlobals mg) (hfa : mg ("law" : Str) = some (.ref f)) (c : Hd.SaysB fb fn K) :
    ∃ fd : FuncData, (∀ (s : Shared) (v : Value), BindsTo s fd ⟨[v], []⟩ [("_law_script", v)]) ∧ ∀ base : Heap, K.In base → base.Ns mainGlobals mg → (∀ p ∈ tabs3 K, LamX.TabB base mg p.1 p.2.1) → FnG P w K mg base (L2.CX P w) 5 f fd ["_law_script"] (spD K 1 F_law) := by
  obtain ⟨fd_is_integer, D_is_integer⟩ := c.def_ 0 (d := d_is_integer) rfl
  have D_is_integer : FnP K "is_integer" "is_integer" s_is_integer (He.ga K "is_integer") fd_is_integer := D_is_integer
  obtain ⟨fd_power_of, D_power_of⟩ := c.def_ 1 (d := d_power_of) rfl
  have D_power_of : FnP K "power_of" "power_of" s_power_of (He.ga K "power_of") fd_power_of := D_power_of
  obtain ⟨fd_divisor, D_divisor⟩ := c.def_ 2 (d := d_divisor) rfl
  have D_divisor : FnP K "divisor" "divisor" s_divisor (He.ga K "divisor") fd_divisor := D_divisor
  obtain ⟨fd__law_spring, D__law_spring⟩ := c.def_ 3 (d := d__law_spring) rfl
  have D__law_spring : FnP K "_law_spring" "_law_spring" s__law_spring (He.ga K "_law_spring") fd__law_spring := D__law_spring
  obtain ⟨fd__law_draw, D__law_draw⟩ := c.def_ 4 (d := d__law_draw) rfl
  have D__law_draw : FnP K "_law_draw" "_law_draw" s__law_draw (He.ga K "_law_draw") fd__law_draw := D__law_draw
  obtain ⟨fd__law_all, D__law_all⟩ := c.def_ 5 (d := d__law_all) rfl
  have D__law_all : FnP K "_law_all" "_law_all" s__law_all (He.ga K "_law_all") fd__law_all := D__law_all
  obtain ⟨fd__law_shared, D__law_shared⟩ := c.def_ 6 (d := d__law_shared) rfl
  have D__law_shared : FnP K "_law_shared" "_law_shared" s__law_shared (He.ga K "_law_shared") fd__law_shared := D__law_shared
  obtain ⟨fd__law_often, D__law_often⟩ := c.def_ 7 (d := d__law_often) rfl
  have D__law_often : FnP K "_law_often" "_law_often" s__law_often (He.ga K "_law_often") fd__law_often := D__law_often
  obtain ⟨fd_is_between, D_is_between⟩ := c.def_ 8 (d := d_is_between) rfl
  have D_is_between : FnP K "is_between" "is_between" s_is_between (He.ga K "is_between") fd_is_between := D_is_between
  obtain ⟨fd__law_of, D__law_of⟩ := c.def_ 9 (d := d__law_of) rfl
  have D__law_of : FnP K "_law_of" "_law_of" s__law_of (He.ga K "_law_of") fd__law_of := D__law_of
  obtain ⟨fd__law_counted, D__law_counted⟩ := c.def_ 10 (d := d__law_counted) rfl
  have D__law_counted : FnP K "_law_counted" "_law_counted" s__law_counted (He.ga K "_law_counted") fd__law_counted := D__law_counted
  obtain ⟨fd__law_mean, D__law_mean⟩ := c.def_ 11 (d := d__law_mean) rfl
  have D__law_mean : FnP K "_law_mean" "_law_mean" s__law_mean (He.ga K "_law_mean") fd__law_mean := D__law_mean
  obtain ⟨fd_ring_kinds, D_ring_kinds⟩ := c.def_ 12 (d := d_ring_kinds) rfl
  have D_ring_kinds : FnP K "ring_kinds" "ring_kinds" s_ring_kinds (He.ga K "ring_kinds") fd_ring_kinds := D_ring_kinds
  obtain ⟨fd__law_right, D__law_right⟩ := c.def_ 13 (d := d__law_right) rfl
  have D__law_right : FnP K "_law_right" "_law_right" s__law_right (He.ga K "_law_right") fd__law_right := D__law_right
  obtain ⟨fd_law, D_law⟩ := c.def_ 14 (d := d_law) rfl
  have D_law : FnP K "law" "law" s_law (He.ga K "law") fd_law := D_law
  have g_is_integer := He.glo_ok X G (c.fact 0 (f := fb_0) rfl)
  have g_power_of := He.glo_ok X G (c.fact 1 (f := fb_1) rfl)
  have g_divisor := He.glo_ok X G (c.fact 2 (f := fb_2) rfl)
  have g__law_spring := He.glo_ok X G (c.fact 3 (f := fb_3) rfl)
  have g__law_draw := He.glo_ok X G (c.fact 4 (f := fb_4) rfl)
  have g__law_all := He.glo_ok X G (c.fact 5 (f := fb_5) rfl)
  have g__law_shared := He.glo_ok X G (c.fact 6 (f := fb_6) rfl)
  have g__law_often := He.glo_ok X G (c.fact 7 (f := fb_7) rfl)
  have g_is_between := He.glo_ok X G (c.fact 8 (f := fb_8) rfl)
  have g__law_of := He.glo_ok X G (c.fact 9 (f := fb_9) rfl)
  have g__law_counted := He.glo_ok X G (c.fact 10 (f := fb_10) rfl)
  have g__law_mean := He.glo_ok X G (c.fact 11 (f := fb_11) rfl)
  have g_ring_kinds := He.glo_ok X G (c.fact 12 (f := fb_12) rfl)
  have g__law_right := He.glo_ok X G (c.fact 13 (f := fb_13) rfl)
  have g_law := He.glo_ok X G (c.fact 14 (f := fb_14) rfl)
  have nm_T := Hd.nm_ok (c.fact 15 (f := fb_15) rfl)
  have g_MOST_KIND_DIALS := He.int_ok X G (c.fact 16 (f := fb_16) rfl)
  have g_MOST_KIND_MARKS := He.int_ok X G (c.fact 17 (f := fb_17) rfl)
  have g_abs := He.free_ok X G (c.fact 18 (f := fb_18) rfl)
  have g_all := He.free_ok X G (c.fact 19 (f := fb_19) rfl)
  have g_bool := He.free_ok X G (c.fact 20 (f := fb_20) rfl)
  have g_divmod := He.free_ok X G (c.fact 21 (f := fb_21) rfl)
  have g_int := He.free_ok X G (c.fact 22 (f := fb_22) rfl)
  have g_isinstance := He.free_ok X G (c.fact 23 (f := fb_23) rfl)
  have g_len := He.free_ok X G (c.fact 24 (f := fb_24) rfl)
  have g_max := He.free_ok X G (c.fact 25 (f := fb_25) rfl)
  have g_min := He.free_ok X G (c.fact 26 (f := fb_26) rfl)
  have g_range := He.free_ok X G (c.fact 27 (f := fb_27) rfl)
  have g_repr := He.free_ok X G (c.fact 28 (f := fb_28) rfl)
  have g_tuple := He.free_ok X G (c.fact 29 (f := fb_29) rfl)
  have e := hfa.symm.trans g_law
  cases e
  have b := FunD.bindsA (ps := ["_law_script"]) D_law fun _ _ _ _ _ _ us hl => match us, hl with | [_], _ => rfl
  refine ⟨fd_law, fun s v => b s [v] rfl, fun base _ _ TB => ?_⟩
  have C_is_integer : Cal P w K mg base 1 "is_integer" ["value"] F_is_integer s_is_integer := ⟨_, fd_is_integer, ok_is_integer D_is_integer g_bool g_int g_isinstance, g_is_integer, D_is_integer.kp, (FunD.bindsN (ps := ["value"]) D_is_integer fun _ _ _ _ _ _ us hl => match us, hl with | [_], _ => rfl), _, D_is_integer⟩
  have C_power_of : Cal P w K mg base 1 "power_of" ["base", "times"] F_power_of s_power_of := ⟨_, fd_power_of, ok_power_of D_power_of g_range, g_power_of, D_power_of.kp, (FunD.bindsN (ps := ["base", "times"]) D_power_of fun _ _ _ _ _ _ us hl => match us, hl with | [_, _], _ => rfl), _, D_power_of⟩
  have C_divisor : Cal P w K mg base 1 "divisor" ["one", "other"] F_divisor s_divisor := ⟨_, fd_divisor, ok_divisor D_divisor , g_divisor, D_divisor.kp, (FunD.bindsN (ps := ["one", "other"]) D_divisor fun _ _ _ _ _ _ us hl => match us, hl with | [_, _], _ => rfl), _, D_divisor⟩
  have C__law_spring : Cal P w K mg base 1 "_law_spring" ["_law_cells", "_law_k"] F__law_spring s__law_spring := ⟨_, fd__law_spring, ok__law_spring D__law_spring g_abs g_int g_len, g__law_spring, D__law_spring.kp, (FunD.bindsN (ps := ["_law_cells", "_law_k"]) D__law_spring fun _ _ _ _ _ _ us hl => match us, hl with | [_, _], _ => rfl), _, D__law_spring⟩
  have C__law_draw : Cal P w K mg base 1 "_law_draw" ["_law_spring_here", "_law_size"] F__law_draw s__law_draw := ⟨_, fd__law_draw, ok__law_draw D__law_draw g_divmod g_int, g__law_draw, D__law_draw.kp, (FunD.bindsN (ps := ["_law_spring_here", "_law_size"]) D__law_draw fun _ _ _ _ _ _ us hl => match us, hl with | [_, _], _ => rfl), _, D__law_draw⟩
  have C__law_all : Cal P w K mg base 1 "_law_all" ["_law_dial_count", "_law_size"] F__law_all s__law_all := ⟨_, fd__law_all, ok__law_all D__law_all g_range, g__law_all, D__law_all.kp, (FunD.bindsN (ps := ["_law_dial_count", "_law_size"]) D__law_all fun _ _ _ _ _ _ us hl => match us, hl with | [_, _], _ => rfl), _, D__law_all⟩
  have C__law_shared : Cal P w K mg base 1 "_law_shared" ["_law_first", "_law_second"] F__law_shared s__law_shared := ⟨_, fd__law_shared, ok__law_shared D__law_shared g_int g_max g_min g_range, g__law_shared, D__law_shared.kp, (FunD.bindsN (ps := ["_law_first", "_law_second"]) D__law_shared fun _ _ _ _ _ _ us hl => match us, hl with | [_, _], _ => rfl), _, D__law_shared⟩
  have C__law_often : Cal P w K mg base 1 "_law_often" ["_law_size", "_law_times"] F__law_often s__law_often := ⟨_, fd__law_often, ok__law_often D__law_often g_range, g__law_often, D__law_often.kp, (FunD.bindsN (ps := ["_law_size", "_law_times"]) D__law_often fun _ _ _ _ _ _ us hl => match us, hl with | [_, _], _ => rfl), _, D__law_often⟩
  have C_is_between : Cal P w K mg base 2 "is_between" ["value", "least", "most"] F_is_between s_is_between := ⟨_, fd_is_between, ok_is_between D_is_between C_is_integer, g_is_between, D_is_between.kp, (FunD.bindsN (ps := ["value", "least", "most"]) D_is_between fun _ _ _ _ _ _ us hl => match us, hl with | [_, _, _], _ => rfl), _, D_is_between⟩
  have C__law_of : Cal P w K mg base 2 "_law_of" ["_law_spring_here", "_law_menu"] F__law_of s__law_of := ⟨_, fd__law_of, ok__law_of D__law_of C__law_draw g_len, g__law_of, D__law_of.kp, (FunD.bindsN (ps := ["_law_spring_here", "_law_menu"]) D__law_of fun _ _ _ _ _ _ us hl => match us, hl with | [_, _], _ => rfl), _, D__law_of⟩
  have C__law_counted : Cal P w K mg base 2 "_law_counted" ["_law_dial_count", "_law_size"] F__law_counted s__law_counted := ⟨_, fd__law_counted, ok__law_counted D__law_counted C__law_all g_int g_range g_tuple, g__law_counted, D__law_counted.kp, (FunD.bindsN (ps := ["_law_dial_count", "_law_size"]) D__law_counted fun _ _ _ _ _ _ us hl => match us, hl with | [_, _], _ => rfl), _, D__law_counted⟩
  have C__law_mean : Cal P w K mg base 2 "_law_mean" ["_law_dial_count", "_law_size"] F__law_mean s__law_mean := ⟨_, fd__law_mean, ok__law_mean D__law_mean C__law_often C__law_shared g_int g_len g_range, g__law_mean, D__law_mean.kp, (FunD.bindsN (ps := ["_law_dial_count", "_law_size"]) D__law_mean fun _ _ _ _ _ _ us hl => match us, hl with | [_, _], _ => rfl), _, D__law_mean⟩
  have C_ring_kinds : Cal P w K mg base 3 "ring_kinds" ["n", "m"] F_ring_kinds s_ring_kinds := ⟨_, fd_ring_kinds, ok_ring_kinds D_ring_kinds C_divisor C_is_between C_power_of g_MOST_KIND_DIALS g_MOST_KIND_MARKS g_range, g_ring_kinds, D_ring_kinds.kp, (FunD.bindsN (ps := ["n", "m"]) D_ring_kinds fun _ _ _ _ _ _ us hl => match us, hl with | [_, _], _ => rfl), _, D_ring_kinds⟩
  have C__law_right : Cal P w K mg base 4 "_law_right" ["_law_spring_here"] F__law_right s__law_right := ⟨_, fd__law_right, ok__law_right D__law_right C__law_counted C__law_draw C__law_mean C__law_of C_ring_kinds nm_T g_range g_repr, g__law_right, D__law_right.kp, (FunD.bindsN (ps := ["_law_spring_here"]) D__law_right fun _ _ _ _ _ _ us hl => match us, hl with | [_], _ => rfl), _, D__law_right⟩
  exact ok_law D_law C__law_right C__law_spring g_all g_len g_max g_min g_range
end K69
open PySem PySem.W PySem.Calls PyProof.Rows
theorem K69.fits (hl : ∀ ns : List Int, ns.length ≤ 63 → ∃ h', K69.F_law [.scr (ns.map Ab.D.int)] [] = .ok (.bl true) h') : PySem.Challenge.rw_turnedblind_k69_whole_kinds_of_rings.Holds := by
  w_on; o_law
  refine HandSHeadRun.head_any (r := OpenLaw.row PySem.Challenge.rw_turnedblind_k69_whole_kinds_of_rings) (q := view (OpenLaw.row PySem.Challenge.rw_turnedblind_k69_whole_kinds_of_rings).prog [22]) (H := K69.hk) (ob := K69.ob) (M := 20000) (loose := K69.names) (d := HandSHeadRun.topDef (OpenLaw.row PySem.Challenge.rw_turnedblind_k69_whole_kinds_of_rings).prog 22) (kwd := []) K69.ob_eq
    (by kernel_rfl) (fun s => by kernel_rfl) K69.run (by kernel_rfl) (by kernel_rfl) (by kernel_rfl) (by rfl) (by first | assumption | decide +kernel) (by decide +kernel) ⟨rfl, rfl, rfl, rfl, rfl, by decide +kernel⟩ ?hw ?hc
  case hw => w_witness2
  case hc =>
    refine Ab.walk_G (l := PySem.Challenge.rw_turnedblind_k69_whole_kinds_of_rings) (n := 63) (k := 5) (x := "_law_script") rfl (by decide) (by kernel_rfl) ⟨rfl, by decide, by decide⟩ ?F
    intro w mg fa h Y G hmg0
    obtain ⟨K, KX, c⟩ := Y
    have hmg : mg ("law" : PySem.Str) = some (.ref fa) := by
      have e : (HandSHeadRun.topDef (OpenLaw.row PySem.Challenge.rw_turnedblind_k69_whole_kinds_of_rings).prog 22).name = ("law" : PySem.Str) := by kernel_rfl
      rw [← e]
      exact hmg0
    obtain ⟨fd, hb, hF⟩ := K69.facts (P := (PySem.Challenge.rw_turnedblind_k69_whole_kinds_of_rings).prog) (w := w) KX G hmg c
    exact ⟨K, fd, Ab.spD K 1 K69.F_law, KX, hb, fun H a ns hlen hTb hO hS => Ab.sp_law hl H a ns hlen hTb hO hS, Ab.Hd.tab0_ok (c.fact 30 (f := K69.fb_30) rfl), hF⟩

/-! All of the kit's modules that a claim's text imports: names that are told twice show here. -/

/-! What the layer's pieces compute, as rewriting rules. -/
namespace Ab
open PySem PySem.Spec L2
section
variable {α β : Type} {a : α} {h h' : AH} {env env' : En} {x : Str} {fs : List (Str × D)} {d y : D} {ds es : List D} {i j : Int} {n m k : Nat} {b c : Bool}
@[simp] theorem b_ok {f : α → AH → R β} : R.bind (.ok a h) f = f a h := rfl.trans rfl
@[simp] theorem b_bad {f : α → AH → R β} : R.bind .bad f = .bad := rfl.trans rfl
@[simp] theorem t_ok {f : α → AH → SS} : R.then (.ok a h) f = f a h := rfl.trans rfl
@[simp] theorem t_bad {f : α → AH → SS} : R.then .bad f = .bad := rfl.trans rfl
@[simp] theorem e_C : mC d env h = .ok d h := rfl.trans rfl
theorem e_V (e : env[n]? = some (some d)) : mVar n env h = .ok d h := by unfold mVar; rw [e]
@[simp] theorem e_V0 {r : En} : mVar 0 (some d :: r) h = .ok d h := rfl.trans rfl
@[simp] theorem e_VS {o : Option D} {r : En} : mVar (n + 1) (o :: r) h = mVar n r h := rfl.trans rfl
@[simp] theorem e_V1 {o1 : Option D} {r : En} : mVar 1 (o1 :: some d :: r) h = .ok d h := rfl.trans rfl
@[simp] theorem e_V2 {o1 o2 : Option D} {r : En} : mVar 2 (o1 :: o2 :: some d :: r) h = .ok d h := rfl.trans rfl
@[simp] theorem e_V3 {o1 o2 o3 : Option D} {r : En} : mVar 3 (o1 :: o2 :: o3 :: some d :: r) h = .ok d h := rfl.trans rfl
@[simp] theorem e_V4 {o1 o2 o3 o4 : Option D} {r : En} : mVar 4 (o1 :: o2 :: o3 :: o4 :: some d :: r) h = .ok d h := rfl.trans rfl
@[simp] theorem e_V5 {o1 o2 o3 o4 o5 : Option D} {r : En} : mVar 5 (o1 :: o2 :: o3 :: o4 :: o5 :: some d :: r) h = .ok d h := rfl.trans rfl
@[simp] theorem e_V6 {o1 o2 o3 o4 o5 o6 : Option D} {r : En} : mVar 6 (o1 :: o2 :: o3 :: o4 :: o5 :: o6 :: some d :: r) h = .ok d h := rfl.trans rfl
@[simp] theorem e_V7 {o1 o2 o3 o4 o5 o6 o7 : Option D} {r : En} : mVar 7 (o1 :: o2 :: o3 :: o4 :: o5 :: o6 :: o7 :: some d :: r) h = .ok d h := rfl.trans rfl
@[simp] theorem e_V8 {o1 o2 o3 o4 o5 o6 o7 o8 : Option D} {r : En} : mVar 8 (o1 :: o2 :: o3 :: o4 :: o5 :: o6 :: o7 :: o8 :: some d :: r) h = .ok d h := rfl.trans rfl
@[simp] theorem e_V9 {o1 o2 o3 o4 o5 o6 o7 o8 o9 : Option D} {r : En} : mVar 9 (o1 :: o2 :: o3 :: o4 :: o5 :: o6 :: o7 :: o8 :: o9 :: some d :: r) h = .ok d h := rfl.trans rfl
@[simp] theorem e_V10 {o1 o2 o3 o4 o5 o6 o7 o8 o9 o10 : Option D} {r : En} : mVar 10 (o1 :: o2 :: o3 :: o4 :: o5 :: o6 :: o7 :: o8 :: o9 :: o10 :: some d :: r) h = .ok d h := rfl.trans rfl
/-! continuations, each a name, so that what comes later is not touched before its turn -/
def kQ {γ : Type} (q : M α) (env : En) (f : β → α → AH → R γ) : β → AH → R γ := fun a h => (q env h).bind (f a)
@[simp] theorem k_Q {γ : Type} {q : M α} {f : β → α → AH → R γ} {b : β} : kQ q env f b h = (q env h).bind (f b) := rfl.trans rfl
def kBl (d : D) (h : AH) : R Bool := match d with
  | .bl b => .ok b h
  | _ => .bad
@[simp] theorem k_Bl : kBl (.bl b) h = .ok b h := rfl.trans rfl
def kTru (d : D) (h : AH) : R Bool := match truD d h with
  | some b => .ok b h
  | none => .bad
@[simp] theorem k_TruB : kTru (.bl b) h = .ok b h := rfl.trans rfl
@[simp] theorem k_TruI : kTru (.int i) h = .ok (i != 0) h := rfl.trans rfl
@[simp] theorem k_TruN : kTru .non h = .ok false h := rfl.trans rfl
def kNotT (b : Bool) (h : AH) : R Bool := .ok (!b) h
@[simp] theorem k_NotT : kNotT b h = .ok (!b) h := rfl.trans rfl
def kAndT (q : M Bool) (env : En) (b : Bool) (h : AH) : R Bool := if b = true then q env h else .ok false h
@[simp] theorem k_AndT1 {q : M Bool} : kAndT q env true h = q env h := rfl.trans rfl
@[simp] theorem k_AndT0 {q : M Bool} : kAndT q env false h = .ok false h := rfl.trans rfl
def kOrT (q : M Bool) (env : En) (b : Bool) (h : AH) : R Bool := if b = true then .ok true h else q env h
@[simp] theorem k_OrT1 {q : M Bool} : kOrT q env true h = .ok true h := rfl.trans rfl
@[simp] theorem k_OrT0 {q : M Bool} : kOrT q env false h = q env h := rfl.trans rfl
def kAnd (q : M D) (env : En) (a : D) (h : AH) : R D := match truD a h with
  | some true => q env h
  | some false => .ok a h
  | none => .bad
@[simp] theorem k_And1 {q : M D} : kAnd q env (.bl true) h = q env h := rfl.trans rfl
@[simp] theorem k_And0 {q : M D} : kAnd q env (.bl false) h = .ok (.bl false) h := rfl.trans rfl
def kOr (q : M D) (env : En) (a : D) (h : AH) : R D := match truD a h with
  | some true => .ok a h
  | some false => q env h
  | none => .bad
@[simp] theorem k_Or1 {q : M D} : kOr q env (.bl true) h = .ok (.bl true) h := rfl.trans rfl
@[simp] theorem k_Or0 {q : M D} : kOr q env (.bl false) h = q env h := rfl.trans rfl
def kNot (a : D) (h : AH) : R D := match truD a h with
  | some b => .ok (.bl (!b)) h
  | none => .bad
@[simp] theorem k_Not : kNot (.bl b) h = .ok (.bl (!b)) h := rfl.trans rfl
def kIf (p q : M α) (env : En) (b : Bool) (h : AH) : R α := if b = true then p env h else q env h
@[simp] theorem k_If1 {p q : M α} : kIf p q env true h = p env h := rfl.trans rfl
@[simp] theorem k_If0 {p q : M α} : kIf p q env false h = q env h := rfl.trans rfl
def kCons (a : D) (r : List D) (h : AH) : R (List D) := .ok (a :: r) h
@[simp] theorem k_Cons : kCons d ds h = .ok (d :: ds) h := rfl.trans rfl
def kTup (ds : List D) (h : AH) : R D := if ds.length ≤ sizeLine then .ok (.tup ds) h else .bad
@[simp] theorem k_Tup (e : ds.length ≤ 1000) : kTup ds h = .ok (.tup ds) h := if_pos (Nat.le_trans e (by decide))
def kLst (ds : List D) (h : AH) : R (List D) := if ds.length ≤ sizeLine then .ok ds h else .bad
@[simp] theorem k_Lst (e : ds.length ≤ 1000) : kLst ds h = .ok ds h := if_pos (Nat.le_trans e (by decide))
def kFrz (ds : List D) (h : AH) : R D := .ok (.lst ds) h
@[simp] theorem k_Frz : kFrz ds h = .ok (.lst ds) h := rfl.trans rfl
def kOwn (ds : List D) (h : AH) : R D := .ok (.loc h.length) (h ++ [.lst ds])
@[simp] theorem k_Own : kOwn ds h = .ok (.loc h.length) (h ++ [.lst ds]) := rfl.trans rfl
def kCall (n : Nat) (F : Fn) (ds : List D) (h : AH) : R D := if ds.length = n then F ds h else .bad
@[simp] theorem k_Call {F : Fn} (e : ds.length = n) : kCall n F ds h = F ds h := if_pos e
def kCallK (n : Nat) (F : Fn) (g : List D → List D → List D) (ds es : List D) (h : AH) : R D := if (g ds es).length = n then F (g ds es) h else .bad
@[simp] theorem k_CallK {F : Fn} {g : List D → List D → List D} (e : (g ds es).length = n) : kCallK n F g ds es h = F (g ds es) h := if_pos e
def kChain (g : D → D → AH → R D) (c : M D) (env : En) (b : D) (k : D) (h : AH) : R D := match k with
  | .bl true => (c env h).bind (g b)
  | .bl false => .ok (.bl false) h
  | _ => .bad
@[simp] theorem k_Chain1 {g : D → D → AH → R D} {c : M D} : kChain g c env d (.bl true) h = (c env h).bind (g d) := rfl.trans rfl
@[simp] theorem k_Chain0 {g : D → D → AH → R D} {c : M D} : kChain g c env d (.bl false) h = .ok (.bl false) h := rfl.trans rfl
def kChain2 (f g : D → D → AH → R D) (c : M D) (env : En) (a b : D) (h : AH) : R D := (f a b h).bind (kChain g c env b)
@[simp] theorem k_Chain2 {f g : D → D → AH → R D} {c : M D} : kChain2 f g c env d y h = (f d y h).bind (kChain g c env y) := rfl.trans rfl
@[simp] theorem e_Chain {f g : D → D → AH → R D} {p q c : M D} : mChain f g p q c env h = (p env h).bind (kQ q env (kChain2 f g c env)) := rfl.trans rfl
@[simp] theorem e_Bin {f : D → D → AH → R D} {p q : M D} : mBin f p q env h = (p env h).bind (kQ q env f) := rfl.trans rfl
@[simp] theorem e_BinF {f : D → D → AH → R (List D)} {p q : M D} : mBinF f p q env h = (p env h).bind (kQ q env f) := rfl.trans rfl
@[simp] theorem e_Un {f : D → AH → R D} {p : M D} : mUn f p env h = (p env h).bind f := rfl.trans rfl
@[simp] theorem e_Bl {p : M D} : mBl p env h = (p env h).bind kBl := rfl.trans rfl
@[simp] theorem e_Tru {p : M D} : mTru p env h = (p env h).bind kTru := rfl.trans rfl
@[simp] theorem e_NotT {p : M Bool} : mNotT p env h = (p env h).bind kNotT := rfl.trans rfl
@[simp] theorem e_AndT {p q : M Bool} : mAndT p q env h = (p env h).bind (kAndT q env) := rfl.trans rfl
@[simp] theorem e_OrT {p q : M Bool} : mOrT p q env h = (p env h).bind (kOrT q env) := rfl.trans rfl
@[simp] theorem e_And {p q : M D} : mAnd p q env h = (p env h).bind (kAnd q env) := rfl.trans rfl
@[simp] theorem e_Or {p q : M D} : mOr p q env h = (p env h).bind (kOr q env) := rfl.trans rfl
@[simp] theorem e_Not {p : M D} : mNot p env h = (p env h).bind kNot := rfl.trans rfl
@[simp] theorem e_If {c : M Bool} {p q : M D} : mIf c p q env h = (c env h).bind (kIf p q env) := rfl.trans rfl
@[simp] theorem e_Nil : mNil env h = .ok [] h := rfl.trans rfl
@[simp] theorem e_Cons {p : M D} {q : M (List D)} : mCons p q env h = (p env h).bind (kQ q env kCons) := rfl.trans rfl
@[simp] theorem e_Tup {p : M (List D)} : mTup p env h = (p env h).bind kTup := rfl.trans rfl
@[simp] theorem e_Lst {p : M (List D)} : mLst p env h = (p env h).bind kLst := rfl.trans rfl
@[simp] theorem e_Frz {p : M (List D)} : mFrz p env h = (p env h).bind kFrz := rfl.trans rfl
@[simp] theorem e_Own {p : M (List D)} : mOwn p env h = (p env h).bind kOwn := rfl.trans rfl
@[simp] theorem e_CB {f : List D → AH → R D} {p : M (List D)} : mCB f p env h = (p env h).bind f := rfl.trans rfl
@[simp] theorem e_CBF {f : List D → AH → R (List D)} {p : M (List D)} : mCBF f p env h = (p env h).bind f := rfl.trans rfl
@[simp] theorem e_Call {F : Fn} {p : M (List D)} : mCall n F p env h = (p env h).bind (kCall n F) := rfl.trans rfl
@[simp] theorem e_CallP {F : Fn} {p : M (List D)} : mCallP n F p env h = (p env h).bind (callP n F) := rfl.trans rfl
def kCallKP (n : Nat) (F : Fn) (g : List D → List D → List D) (ds es : List D) (h : AH) : R D := callP n F (g ds es) h
@[simp] theorem k_CallKP {F : Fn} {g : List D → List D → List D} : kCallKP n F g ds es h = callP n F (g ds es) h := rfl.trans rfl
@[simp] theorem e_CallKP {F : Fn} {g : List D → List D → List D} {p q : M (List D)} : mCallKP n F g p q env h = (p env h).bind (kQ q env (kCallKP n F g)) := rfl.trans rfl
theorem c_P {F : Fn} {h' : AH} (e : F ds [] = .ok d h') (hl : ds.length = n) (hb : belowL 0 ds = true) (hd : below 0 d = true) : callP n F ds h = .ok d h := by
  unfold callP
  rw [if_pos ⟨hl, hb⟩, e]
  exact if_pos hd
@[simp] theorem e_CallK {F : Fn} {g : List D → List D → List D} {p q : M (List D)} : mCallK n F g p q env h = (p env h).bind (kQ q env (kCallK n F g)) := rfl.trans rfl
def kPart (d : D) (h : AH) : R (Option Int) := match d with
  | .int i => .ok (some i) h
  | _ => .bad
/-! statements -/
def SS.go (r : SS) (q : MS) : SS := match r with
  | .nx env h => q env h
  | r => r
@[simp] theorem go_nx {q : MS} : SS.go (.nx env h) q = q env h := rfl.trans rfl
@[simp] theorem go_rt {q : MS} : SS.go (.rt d h) q = .rt d h := rfl.trans rfl
@[simp] theorem go_bk {q : MS} : SS.go (.bk env h) q = .bk env h := rfl.trans rfl
@[simp] theorem go_ct {q : MS} : SS.go (.ct env h) q = .ct env h := rfl.trans rfl
@[simp] theorem e_Next : mNext env h = .nx env h := rfl.trans rfl
@[simp] theorem e_Seq {p q : MS} : mSeq p q env h = SS.go (p env h) q := rfl.trans rfl
def kDrop (env : En) (d : D) (h : AH) : SS := .nx env h
@[simp] theorem k_Drop : kDrop env d h = .nx env h := rfl.trans rfl
@[simp] theorem e_Drop {p : M D} : mDrop p env h = (p env h).then (kDrop env) := rfl.trans rfl
def kRet (d : D) (h : AH) : SS := .rt d h
@[simp] theorem k_Ret : kRet d h = .rt d h := rfl.trans rfl
@[simp] theorem e_Ret {p : M D} : mRet p env h = (p env h).then kRet := rfl.trans rfl
def kIfS (p q : MS) (env : En) (b : Bool) (h : AH) : SS := if b = true then p env h else q env h
@[simp] theorem k_IfS1 {p q : MS} : kIfS p q env true h = p env h := rfl.trans rfl
@[simp] theorem k_IfS0 {p q : MS} : kIfS p q env false h = q env h := rfl.trans rfl
@[simp] theorem e_IfS {c : M Bool} {p q : MS} : mIfS c p q env h = (c env h).then (kIfS p q env) := rfl.trans rfl
@[simp] theorem g_Name : mgName n d env h = .ok (env.set n (some d)) h := rfl.trans rfl
@[simp] theorem g_Nil : mgNil [] env h = .ok env h := rfl.trans rfl
@[simp] theorem g_Cons {p : MG} {q : List D → En → AH → R En} : mgCons p q (d :: ds) env h = (p d env h).bind (q ds) := rfl.trans rfl
@[simp] theorem g_Tup {q : List D → En → AH → R En} (e : ds.length = n) : mgTup n q (.tup ds) env h = q ds env h := if_pos e
def kNx (env : En) (h : AH) : SS := .nx env h
@[simp] theorem k_Nx : kNx env h = .nx env h := rfl.trans rfl
def kAsg (g : MG) (env : En) (d : D) (h : AH) : SS := (g d env h).then kNx
@[simp] theorem k_Asg {g : MG} : kAsg g env d h = (g d env h).then kNx := rfl.trans rfl
@[simp] theorem e_Asg {p : M D} {g : MG} : mAsg p g env h = (p env h).then (kAsg g env) := rfl.trans rfl
def kPar (n m : Nat) (env : En) (ds : List D) (h : AH) : SS := match ds with
  | [a, b] => .nx ((env.set n (some a)).set m (some b)) h
  | _ => .bad
@[simp] theorem k_Par : kPar n m env [d, y] h = .nx ((env.set n (some d)).set m (some y)) h := rfl.trans rfl
@[simp] theorem e_Par {p : M (List D)} : mPar n m p env h = (p env h).then (kPar n m env) := rfl.trans rfl
def kPar3 (n m l : Nat) (env : En) (ds : List D) (h : AH) : SS := match ds with
  | [a, b, c] => .nx (((env.set n (some a)).set m (some b)).set l (some c)) h
  | _ => .bad
@[simp] theorem k_Par3 {l : Nat} {z : D} : kPar3 n m l env [d, y, z] h = .nx (((env.set n (some d)).set m (some y)).set l (some z)) h := rfl.trans rfl
@[simp] theorem e_Par3 {l : Nat} {p : M (List D)} : mPar3 n m l p env h = (p env h).then (kPar3 n m l env) := rfl.trans rfl
def kAug2 (n : Nat) (f : D → D → AH → R D) (env : En) (x y : D) (h : AH) : SS := (f x y h).then fun z h2 => .nx (env.set n (some z)) h2
@[simp] theorem k_Aug2 {f : D → D → AH → R D} : kAug2 n f env d y h = (f d y h).then fun z h2 => .nx (env.set n (some z)) h2 := rfl.trans rfl
def kAug (n : Nat) (f : D → D → AH → R D) (p : M D) (env : En) (x : D) (h : AH) : SS := (p env h).then (kAug2 n f env x)
@[simp] theorem k_Aug {f : D → D → AH → R D} {p : M D} : kAug n f p env d h = (p env h).then (kAug2 n f env d) := rfl.trans rfl
@[simp] theorem e_Aug {f : D → D → AH → R D} {p : M D} : mAug n f p env h = (mVar n env h).then (kAug n f p env) := rfl.trans rfl
/-! what is walked -/
def kSeq (d : D) (h : AH) : R AI := match d with
  | .str z => .ok (.items (signsD z)) h
  | .lst ds => .ok (.items ds) h
  | .scr ds => .ok (.items ds) h
  | .tup ds => .ok (.items ds) h
  | .loc n => (match h[n]? with
    | some (.lst _) => .ok (.at_ n) h
    | _ => .bad)
  | _ => .bad
@[simp] theorem k_SeqL : kSeq (.lst ds) h = .ok (.items ds) h := rfl.trans rfl
@[simp] theorem k_SeqS : kSeq (.scr ds) h = .ok (.items ds) h := rfl.trans rfl
@[simp] theorem k_SeqT : kSeq (.tup ds) h = .ok (.items ds) h := rfl.trans rfl
@[simp] theorem i_Seq {p : M D} : miSeq p env h = (p env h).bind kSeq := rfl.trans rfl
def kR1 (ds : List D) (h : AH) : R AI := match ds with
    | [.int j] => if InW j then .ok (.items (rngD 0 j)) h else .bad
    | _ => .bad
@[simp] theorem k_R1 (h1 : -(2 ^ 62) ≤ i) (h2 : i < 2 ^ 62) : kR1 [.int i] h = .ok (.items (rngD 0 i)) h := if_pos ⟨h1, h2⟩
@[simp] theorem i_R1 {p : M (List D)} : miRng1 p env h = (p env h).bind kR1 := rfl.trans rfl
def kR2 (ds : List D) (h : AH) : R AI := match ds with
    | [.int i, .int j] => if InW i ∧ InW j then .ok (.items (rngD i j)) h else .bad
    | _ => .bad
@[simp] theorem k_R2 (h1 : -(2 ^ 62) ≤ i) (h2 : i < 2 ^ 62) (h3 : -(2 ^ 62) ≤ j) (h4 : j < 2 ^ 62) : kR2 [.int i, .int j] h = .ok (.items (rngD i j)) h := if_pos ⟨⟨h1, h2⟩, ⟨h3, h4⟩⟩
@[simp] theorem i_R2 {p : M (List D)} : miRng2 p env h = (p env h).bind kR2 := rfl.trans rfl
def kFor (g : MG) (p : MS) (env : En) (a : AI) (h : AH) : SS := match a with
  | .items ds => forItems g p ds env h
  | .at_ n => forAt g p n 1000000 0 env h
@[simp] theorem k_For {g : MG} {p : MS} : kFor g p env (.items ds) h = forItems g p ds env h := rfl.trans rfl
@[simp] theorem e_For {w : MI} {g : MG} {p : MS} : mFor w g p env h = (w env h).then (kFor g p env) := rfl.trans rfl
@[simp] theorem for_nil {g : MG} {p : MS} : forItems g p [] env h = .nx env h := rfl.trans rfl
def SS.lp (r : SS) (q : MS) : SS := match r with
  | .nx env' h' => q env' h'
  | .ct env' h' => q env' h'
  | .bk env' h' => .nx env' h'
  | r => r
@[simp] theorem lp_nx {q : MS} : SS.lp (.nx env h) q = q env h := rfl.trans rfl
@[simp] theorem lp_ct {q : MS} : SS.lp (.ct env h) q = q env h := rfl.trans rfl
@[simp] theorem lp_bk {q : MS} : SS.lp (.bk env h) q = .nx env h := rfl.trans rfl
@[simp] theorem lp_rt {q : MS} : SS.lp (.rt d h) q = .rt d h := rfl.trans rfl
def kTurn (p : MS) (q : MS) (env : En) (h : AH) : SS := SS.lp (p env h) q
@[simp] theorem k_Turn {p q : MS} : kTurn p q env h = SS.lp (p env h) q := rfl.trans rfl
theorem for_cons {g : MG} {p : MS} : forItems g p (d :: ds) env h = (g d env h).then (kTurn p (forItems g p ds)) := rfl.trans rfl
def kLc (g : MG) (c : M Bool) (e : M D) (env : En) (a : AI) (h : AH) : R (List D) := match a with
  | .items ds => if ds.length ≤ sizeLine then lcItems g c e env ds h else .bad
  | .at_ n => lcAt g c e env n 1000000 0 h
@[simp] theorem k_Lc {g : MG} {c : M Bool} {e : M D} (hl : ds.length ≤ sizeLine) : kLc g c e env (.items ds) h = lcItems g c e env ds h := if_pos hl
@[simp] theorem e_Lc {w : MI} {g : MG} {c : M Bool} {e : M D} {vs : List Nat} : mLc w g c e vs env h = (w env h).bind (kLc g c e (wipeE env vs)) := rfl.trans rfl
@[simp] theorem lc_nil {g : MG} {c : M Bool} {e : M D} : lcItems g c e env [] h = .ok [] h := rfl.trans rfl
theorem lc_cons {g : MG} {c : M Bool} {e : M D} : lcItems g c e env (d :: ds) h = (g d env h).bind fun env1 h1 => (c env1 h1).bind fun b h2 => if b = true then (e env1 h2).bind fun y h3 => (lcItems g c e env ds h3).bind fun r h4 => .ok (y :: r) h4 else lcItems g c e env ds h2 := rfl.trans rfl
def kWh (c : M Bool) (p : MS) (n : Nat) (env : En) (k : Bool) (h : AH) : SS := if k = true then SS.lp (p env h) (mWhile c p n) else .nx env h
theorem wh_step {c : M Bool} {p : MS} : mWhile c p (n + 1) env h = (c env h).then (kWh c p n env) := rfl.trans rfl
@[simp] theorem k_Wh1 {c : M Bool} {p : MS} : kWh c p n env true h = SS.lp (p env h) (mWhile c p n) := rfl.trans rfl
@[simp] theorem k_Wh0 {c : M Bool} {p : MS} : kWh c p n env false h = .nx env h := rfl.trans rfl
@[simp] theorem wipe_nil : wipeE env [] = env := rfl.trans rfl
@[simp] theorem wipe_cons {v : Nat} {vs : List Nat} : wipeE env (v :: vs) = (wipeE env vs).set v none := rfl.trans rfl
/-! operators -/
@[simp] theorem o_add : addD (.int i) (.int j) h = .ok (.int (i + j)) h := rfl.trans rfl
@[simp] theorem o_addI : addI (.int i) (.int j) h = .ok (.int (i + j)) h := rfl.trans rfl
@[simp] theorem o_sub : subD (.int i) (.int j) h = .ok (.int (i - j)) h := rfl.trans rfl
theorem o_mul (c : CMul i j) : mulD (.int i) (.int j) h = .ok (.int (i * j)) h := by simp [mulD, c]
theorem o_mulL (h1 : -(2 ^ 64) < i) (h2 : i < 2 ^ 64) : mulD (.int i) (.int j) h = .ok (.int (i * j)) h := o_mul (.inl ⟨h1, h2⟩)
theorem o_mulR (h1 : -(2 ^ 64) < j) (h2 : j < 2 ^ 64) : mulD (.int i) (.int j) h = .ok (.int (i * j)) h := o_mul (.inr ⟨h1, h2⟩)
theorem o_div (h1 : 0 < j) (h2 : j < 1073741824) : divD (.int i) (.int j) h = .ok (.int (i / j)) h := by
  have : CDiv i j := ⟨h1, h2⟩
  simp [divD, this]
theorem o_pow (c : CPow i j) : powD (.int i) (.int j) h = .ok (.int (i ^ j.toNat)) h := by simp [powD, c]
theorem o_mod (h1 : 0 < j) : modD (.int i) (.int j) h = .ok (.int (i % j)) h := by simp [modD, h1]
@[simp] theorem o_cmp {f : Int → Int → Bool} : cmpD f (.int i) (.int j) h = .ok (.bl (f i j)) h := rfl.trans rfl
@[simp] theorem o_neg : negD (.int i) h = .ok (.int (-i)) h := rfl.trans rfl
@[simp] theorem o_eqI : eqD (.int i) (.int j) h = .ok (.bl (decide (i = j))) h := rfl.trans rfl
@[simp] theorem o_eqB : eqD (.bl b) (.bl c) h = .ok (.bl (decide (b = c))) h := rfl.trans rfl
@[simp] theorem o_eqS {s t : Str} : eqD (.str s) (.str t) h = .ok (.bl (decide (s = t))) h := rfl.trans rfl
@[simp] theorem o_neI : neD (.int i) (.int j) h = .ok (.bl (!decide (i = j))) h := rfl.trans rfl
@[simp] theorem o_neB : neD (.bl b) (.bl c) h = .ok (.bl (!decide (b = c))) h := rfl.trans rfl
@[simp] theorem o_neS {s t : Str} : neD (.str s) (.str t) h = .ok (.bl (!decide (s = t))) h := rfl.trans rfl
@[simp] theorem o_isN0 : isND false .non .non h = .ok (.bl true) h := rfl.trans rfl
@[simp] theorem o_isN1 : isND true .non .non h = .ok (.bl false) h := rfl.trans rfl
@[simp] theorem o_isI0 : isND false (.int i) .non h = .ok (.bl false) h := rfl.trans rfl
@[simp] theorem o_isI1 : isND true (.int i) .non h = .ok (.bl true) h := rfl.trans rfl
@[simp] theorem o_int : intD [.int i] h = .ok (.int i) h := rfl.trans rfl
@[simp] theorem o_abs : absD [.int i] h = .ok (.int (if i < 0 then -i else i)) h := rfl.trans rfl
@[simp] theorem o_max2 : max2D [.int i, .int j] h = .ok (.int (if j > i then j else i)) h := rfl.trans rfl
@[simp] theorem o_min2 : min2D [.int i, .int j] h = .ok (.int (if j < i then j else i)) h := rfl.trans rfl
theorem o_divmod (h1 : 0 < j) (h2 : j < 1073741824) : divmodD [.int i, .int j] h = .ok (.tup [.int (i / j), .int (i % j)]) h := by
  have : CDiv i j := ⟨h1, h2⟩
  simp [divmodD, this]
@[simp] theorem o_cat : catD (.lst ds) (.lst es) h = if ds.length + es.length ≤ sizeLine then .ok (ds ++ es) h else .bad := rfl.trans rfl
/-! leaving a def -/
@[simp] theorem f_T {p : MS} : mFnT n p ds h = exitR h.length (bodyR0 (p (initE n ds) h)) := rfl.trans rfl
@[simp] theorem f_K {p : MS} : mFnK n p ds h = bodyR0 (p (initE n ds) h) := rfl.trans rfl
@[simp] theorem r_nx : bodyR0 (.nx env h) = .ok .non h := rfl.trans rfl
@[simp] theorem r_rt : bodyR0 (.rt d h) = .ok d h := rfl.trans rfl
@[simp] theorem x_ok : exitR n (.ok d h) = exitD n d h := rfl.trans rfl
@[simp] theorem bw_int : below n (.int i) = true := by simp [below]
@[simp] theorem bw_bl : below n (.bl b) = true := by simp [below]
@[simp] theorem bw_str : below n (.str x) = true := by simp [below]
@[simp] theorem bw_non : below n .non = true := by simp [below]
@[simp] theorem x_same (hl : h.length = n) (hd : below n d = true) : exitD n d h = .ok d h := by
  subst hl
  unfold exitD
  rw [List.take_length]
  rw [if_pos hd]
  split <;> rfl
end
end Ab

/-! The laws' own source of numbers: what it computes, and that it stays in its bounds. -/
namespace Ab
open PySem PySem.Spec L2
def m_dSpring : MS :=
  (mSeq (mAsg (mIf (mBl (mBin (cmpD fun i j => decide (i < j)) (mVar 1) (mCB lenD (mCons (mVar 0) mNil)))) (mBin ixD (mVar 0) (mVar 1)) (mBin addD (mBin mulD (mC (.int 7)) (mVar 1)) (mC (.int 2)))) (mgName 2))
  (mSeq (mAsg (mBin addD (mC (.int 90001)) (mBin mulD (mC (.int 7919)) (mVar 1))) (mgName 3))
  (mSeq (mFor (miSeq (mFrz (mBinF catD (mFrz (mSlL (mVar 0) mNoPart (mPart (mC (.int 8))))) (mFrz (mLst (mCons (mVar 2) mNil)))))) (mgName 4) (mAsg (mBin modD (mCB intD (mCons (mBin addD (mBin addD (mBin mulD (mVar 3) (mC (.int 48271))) (mCB intD (mCons (mVar 4) mNil))) (mBin mulD (mC (.int 11)) (mVar 1))) mNil)) (mC (.int 2147483647))) (mgName 3)))
  (mRet (mOwn (mLst (mCons (mIf (mOrT (mBl (mBin (cmpD fun i j => decide (i < j)) (mVar 2) (mC (.int 0)))) (mBl (mBin (cmpD fun i j => decide (j ≤ i)) (mVar 2) (mBin powD (mC (.int 10)) (mC (.int 18)))))) (mCB absD (mCons (mVar 2) mNil)) (mC (.int 0))) (mCons (mVar 3) (mCons (mC (.int 0)) mNil)))))))))
def dSpring : Fn := mFnK 5 m_dSpring
def m_dDraw : MS :=
  (mSeq (mAsg (mBin addD (mBin ixD (mVar 0) (mC (.int 2))) (mC (.int 1))) (mgSub (mVar 0) (mC (.int 2))))
  (mSeq (mAsg (mBin modD (mCB intD (mCons (mBin addD (mBin addD (mBin mulD (mBin ixD (mVar 0) (mC (.int 1))) (mC (.int 69621))) (mBin mulD (mC (.int 40503)) (mBin ixD (mVar 0) (mC (.int 2))))) (mC (.int 1))) mNil)) (mC (.int 2147483647))) (mgSub (mVar 0) (mC (.int 1))))
  (mSeq (mIfS (mBl (mBin (cmpD fun i j => decide (j < i)) (mBin ixD (mVar 0) (mC (.int 0))) (mC (.int 0)))) (mSeq (mAsg (mCB divmodD (mCons (mBin ixD (mVar 0) (mC (.int 0))) (mCons (mVar 1) mNil))) (mgTup 2 (mgCons (mgSub (mVar 0) (mC (.int 0))) (mgCons (mgName 2) mgNil))))
  (mRet (mVar 2))) mNext)
  (mSeq (mAsg (mBin addD (mBin ixD (mVar 0) (mC (.int 1))) (mC (.int 12345))) (mgName 3))
  (mSeq (mAsg (mBin modD (mCB intD (mCons (mBin addD (mBin mulD (mVar 3) (mBin ixD (mVar 0) (mC (.int 1)))) (mBin ixD (mVar 0) (mC (.int 2)))) mNil)) (mC (.int 2147483629))) (mgName 4))
  (mRet (mBin modD (mCB intD (mCons (mBin divD (mVar 4) (mC (.int 256))) mNil)) (mVar 1))))))))
def dDraw : Fn := mFnT 5 m_dDraw
def m_dOf : MS :=
  (mRet (mBin ixD (mVar 1) (mCall 2 dDraw (mCons (mVar 0) (mCons (mCB lenD (mCons (mVar 1) mNil)) mNil)))))
def dOf : Fn := mFnT 2 m_dOf
section
variable {h h' : AH} {n m : Nat} {x y z d : D} {env : En} {a b c k : Int}
theorem ix_0 (e : h[n]? = some (.lst [x, y, z])) : ixD (.loc n) (.int 0) h = .ok x h := by simp [ixD, seqD, e, atI, ixN]
theorem ix_1 (e : h[n]? = some (.lst [x, y, z])) : ixD (.loc n) (.int 1) h = .ok y h := by simp [ixD, seqD, e, atI, ixN]
theorem ix_2 (e : h[n]? = some (.lst [x, y, z])) : ixD (.loc n) (.int 2) h = .ok z h := by simp [ixD, seqD, e, atI, ixN]
def kSub (env : En) (d o i : D) (h : AH) : R En := match o, i with
  | .loc n, .int k => (match h[n]? with
    | some (.lst ds) => (match ixN ds.length k with
      | some j => .ok env (h.set n (.lst (ds.set j d)))
      | none => .bad)
    | _ => .bad)
  | _, _ => .bad
@[simp] theorem e_Sub {p q : M D} : mgSub p q d env h = (p env h).bind (kQ q env (kSub env d)) := rfl.trans rfl
theorem k_Sub0 (e : h[n]? = some (.lst [x, y, z])) : kSub env d (.loc n) (.int 0) h = .ok env (h.set n (.lst [d, y, z])) := by simp [kSub, e, ixN]
theorem k_Sub1 (e : h[n]? = some (.lst [x, y, z])) : kSub env d (.loc n) (.int 1) h = .ok env (h.set n (.lst [x, d, z])) := by simp [kSub, e, ixN]
theorem k_Sub2 (e : h[n]? = some (.lst [x, y, z])) : kSub env d (.loc n) (.int 2) h = .ok env (h.set n (.lst [x, y, d])) := by simp [kSub, e, ixN]
@[simp] theorem k_SubS0 (e : n < h.length) : kSub env d (.loc n) (.int 0) (h.set n (.lst [x, y, z])) = .ok env (h.set n (.lst [d, y, z])) := by rw [k_Sub0 (List.getElem?_set_self e), List.set_set]
@[simp] theorem k_SubS1 (e : n < h.length) : kSub env d (.loc n) (.int 1) (h.set n (.lst [x, y, z])) = .ok env (h.set n (.lst [x, d, z])) := by rw [k_Sub1 (List.getElem?_set_self e), List.set_set]
@[simp] theorem k_SubS2 (e : n < h.length) : kSub env d (.loc n) (.int 2) (h.set n (.lst [x, y, z])) = .ok env (h.set n (.lst [x, y, d])) := by rw [k_Sub2 (List.getElem?_set_self e), List.set_set]
@[simp] theorem ix_S0 (e : n < h.length) : ixD (.loc n) (.int 0) (h.set n (.lst [x, y, z])) = .ok x (h.set n (.lst [x, y, z])) := ix_0 (List.getElem?_set_self e)
@[simp] theorem ix_S1 (e : n < h.length) : ixD (.loc n) (.int 1) (h.set n (.lst [x, y, z])) = .ok y (h.set n (.lst [x, y, z])) := ix_1 (List.getElem?_set_self e)
@[simp] theorem ix_S2 (e : n < h.length) : ixD (.loc n) (.int 2) (h.set n (.lst [x, y, z])) = .ok z (h.set n (.lst [x, y, z])) := ix_2 (List.getElem?_set_self e)
@[simp] theorem ixN30 : ixN 3 0 = some 0 := rfl.trans rfl
@[simp] theorem ixN31 : ixN 3 1 = some 1 := rfl.trans rfl
@[simp] theorem ixN32 : ixN 3 2 = some 2 := rfl.trans rfl
theorem lt_of_get {α : Type} {l : List α} {n : Nat} {x : α} (e : l[n]? = some x) : n < l.length := by
  rcases Nat.lt_or_ge n l.length with h | h
  · exact h
  · rw [List.getElem?_eq_none h] at e; cases e
/-- a spring stands at n -/
def Sp3 (h : AH) (n : Nat) : Prop := ∃ a b c : Int, h[n]? = some (.lst [.int a, .int b, .int c]) ∧ 0 ≤ a ∧ 0 ≤ b ∧ b < 2147483647
theorem draw_run (e : h[n]? = some (.lst [.int a, .int b, .int c])) (ha : 0 ≤ a) (hb : 0 ≤ b) (hb2 : b < 2147483647) (hk : 0 < k) (hk2 : k < 1073741824) :
    ∃ d a' b' c' : Int, dDraw [.loc n, .int k] h = .ok (.int d) (h.set n (.lst [.int a', .int b', .int c'])) ∧ 0 ≤ d ∧ d < k ∧ 0 ≤ a' ∧ 0 ≤ b' ∧ b' < 2147483647 := by
  have hn := lt_of_get e
  have m1 : ∀ {h : AH}, mulD (.int b) (.int 69621) h = .ok (.int (b * 69621)) h := o_mulR (by decide) (by decide)
  have m2 : ∀ {h : AH}, mulD (.int 40503) (.int (c + 1)) h = .ok (.int (40503 * (c + 1))) h := o_mulL (by decide) (by decide)
  have d1 : ∀ {i : Int} {h : AH}, modD (.int i) (.int 2147483647) h = .ok (.int (i % 2147483647)) h := o_mod (by decide)
  have d2 : ∀ {i : Int} {h : AH}, modD (.int i) (.int 2147483629) h = .ok (.int (i % 2147483629)) h := o_mod (by decide)
  have d3 : ∀ {i : Int} {h : AH}, divD (.int i) (.int 256) h = .ok (.int (i / 256)) h := o_div (by decide) (by decide)
  have d4 : ∀ {i : Int} {h : AH}, modD (.int i) (.int k) h = .ok (.int (i % k)) h := o_mod hk
  have d5 : ∀ {h : AH}, divmodD [.int a, .int k] h = .ok (.tup [.int (a / k), .int (a % k)]) h := o_divmod hk hk2
  have nb := Int.emod_nonneg (b * 69621 + 40503 * (c + 1) + 1) (show (2147483647 : Int) ≠ 0 by decide)
  have lb := Int.emod_lt_of_pos (b * 69621 + 40503 * (c + 1) + 1) (show (0 : Int) < 2147483647 by decide)
  have m3 : ∀ {h : AH}, mulD (.int ((b * 69621 + 40503 * (c + 1) + 1) % 2147483647 + 12345)) (.int ((b * 69621 + 40503 * (c + 1) + 1) % 2147483647)) h = .ok (.int (((b * 69621 + 40503 * (c + 1) + 1) % 2147483647 + 12345) * ((b * 69621 + 40503 * (c + 1) + 1) % 2147483647))) h := o_mulR (by omega) (by omega)
  have i0 := ix_0 e
  have i1 := ix_1 e
  have i2 := ix_2 e
  have s0 : ∀ {env : En} {d : D}, kSub env d (.loc n) (.int 2) h = .ok env (h.set n (.lst [.int a, .int b, d])) := k_Sub2 e
  by_cases h0 : 0 < a
  · refine ⟨a % k, a / k, (b * 69621 + 40503 * (c + 1) + 1) % 2147483647, c + 1, ?_, Int.emod_nonneg _ (by omega), Int.emod_lt_of_pos _ hk, Int.ediv_nonneg ha (by omega), nb, lb⟩
    simp [dDraw, m_dDraw, initE, i0, i1, i2, s0, hn, m1, m2, m3, d1, d2, d3, d4, d5, h0]
  · refine ⟨(((b * 69621 + 40503 * (c + 1) + 1) % 2147483647 + 12345) * ((b * 69621 + 40503 * (c + 1) + 1) % 2147483647) + (c + 1)) % 2147483629 / 256 % k, a, (b * 69621 + 40503 * (c + 1) + 1) % 2147483647, c + 1, ?_, Int.emod_nonneg _ (by omega), Int.emod_lt_of_pos _ hk, ha, nb, lb⟩
    simp [dDraw, m_dDraw, initE, i0, i1, i2, s0, hn, m1, m2, m3, d1, d2, d3, d4, d5, h0]
/-- what a draw leaves -/
def Dr (h : AH) (n : Nat) (h' : AH) : Prop := Sp3 h' n ∧ h'.length = h.length ∧ ∀ i, i ≠ n → h'[i]? = h[i]?
theorem Dr.refl (s : Sp3 h n) : Dr h n h := ⟨s, rfl, fun _ _ => rfl⟩
theorem Dr.trans {h'' : AH} (a : Dr h n h') (b : Dr h' n h'') : Dr h n h'' := ⟨b.1, b.2.1.trans a.2.1, fun i hi => (b.2.2 i hi).trans (a.2.2 i hi)⟩
theorem draw_ok (s : Sp3 h n) (hk : 0 < k) (hk2 : k < 1073741824) : ∃ (d : Int) (h' : AH), dDraw [.loc n, .int k] h = .ok (.int d) h' ∧ 0 ≤ d ∧ d < k ∧ Dr h n h' := by
  obtain ⟨a, b, c, e, ha, hb, hb2⟩ := s
  obtain ⟨d, a', b', c', q, h1, h2, h3, h4, h5⟩ := draw_run e ha hb hb2 hk hk2
  exact ⟨d, _, q, h1, h2, ⟨a', b', c', List.getElem?_set_self (lt_of_get e), h3, h4, h5⟩, List.length_set, fun i hi => List.getElem?_set_ne (Ne.symm hi)⟩
theorem atI_mem {α : Type} {l : List α} {d : Int} (h1 : 0 ≤ d) (h2 : d < l.length) : ∃ x, atI l d = some x ∧ x ∈ l := by
  have h3 : d.toNat < l.length := by omega
  refine ⟨l[d.toNat], ?_, List.getElem_mem h3⟩
  unfold atI ixN
  rw [if_pos h1, if_pos h2]
  exact List.getElem?_eq_getElem h3
/-- one of a menu -/
theorem of_ok {ds : List D} (s : Sp3 h n) (hk : 0 < ds.length) (hk2 : ds.length < 1000000) (hp : ∀ x ∈ ds, ∀ m, below m x = true) : ∃ (x : D) (h' : AH), dOf [.loc n, .lst ds] h = .ok x h' ∧ x ∈ ds ∧ Dr h n h' := by
  obtain ⟨d, h', e, h1, h2, t⟩ := draw_ok (k := (ds.length : Int)) s (by omega) (by omega)
  obtain ⟨x, ex, mx⟩ := atI_mem (l := ds) h1 (by omega)
  have hl : lenD [.lst ds] h = .ok (.int ds.length) h := rfl
  have hx : ixD (.lst ds) (.int d) h' = .ok x h' := by simp [ixD, seqD, ex]
  have hb : below h.length x = true := hp x mx _
  exact ⟨x, h', by simp [dOf, m_dOf, initE, hl, e, hx, t.2.1, hb], mx, t⟩
theorem for_inv {g : MG} {p : MS} (I : En → AH → Prop) : ∀ {ds : List D} {env : En} {h : AH}, I env h → (∀ d ∈ ds, ∀ env h, I env h → ∃ env1 h1 env' h', g d env h = .ok env1 h1 ∧ p env1 h1 = .nx env' h' ∧ I env' h') → ∃ env' h', forItems g p ds env h = .nx env' h' ∧ I env' h'
  | [], env, h, h0, _ => ⟨env, h, rfl, h0⟩
  | d :: ds, env, h, h0, st => by
    obtain ⟨env1, h1, env2, h2, e1, e2, i2⟩ := st d (List.mem_cons_self ..) env h h0
    obtain ⟨env3, h3, e3, i3⟩ := for_inv I (ds := ds) i2 fun d hd => st d (List.mem_cons_of_mem _ hd)
    exact ⟨env3, h3, by rw [for_cons, e1]; simp [e2, e3], i3⟩
theorem rngD_mem {lo hi : Int} {d : D} (m : d ∈ rngD lo hi) : ∃ i : Int, d = .int i ∧ lo ≤ i ∧ i < hi := by
  obtain ⟨i, hi1, rfl⟩ := List.mem_map.mp m
  have := List.mem_range.mp hi1
  exact ⟨lo + (i : Nat), rfl, by omega, by omega⟩
theorem rngD_len {lo hi : Int} : (rngD lo hi).length = (hi - lo).toNat := by simp [rngD]
theorem all_true {n : Nat} : allD false [.lst (List.replicate n (D.bl true))] h = .ok (.bl true) h := by
  have e : blsD (List.replicate n (D.bl true)) = some (List.replicate n true) := by
    induction n with
    | zero => rfl
    | succ n ih => rw [List.replicate_succ]; simp [blsD, ih, List.replicate_succ]
  have e2 : (List.replicate n true).all id = true := by simp
  show (match blsD (List.replicate n (D.bl true)) with | some bs => R.ok (D.bl (if false = true then bs.any id else bs.all id)) h | none => .bad) = _
  rw [e]
  simp
theorem spring_ok {ns : List Int} (hk : 0 ≤ k) (hk2 : k < 1000) (hl : ns.length ≤ 63) : ∃ a b c : Int, dSpring [.scr (ns.map .int), .int k] h = .ok (.loc h.length) (h ++ [.lst [.int a, .int b, .int c]]) ∧ 0 ≤ a ∧ 0 ≤ b ∧ b < 2147483647 := by
  have l1 : lenD [.scr (ns.map .int)] h = .ok (.int ns.length) h := by simp [lenD, seqD]
  have m1 : ∀ {h : AH}, mulD (.int 7) (.int k) h = .ok (.int (7 * k)) h := o_mulL (by decide) (by decide)
  have m2 : ∀ {h : AH}, mulD (.int 7919) (.int k) h = .ok (.int (7919 * k)) h := o_mulL (by decide) (by decide)
  have m4 : ∀ {h : AH}, mulD (.int 11) (.int k) h = .ok (.int (11 * k)) h := o_mulL (by decide) (by decide)
  have m3 : ∀ {i : Int} {h : AH}, mulD (.int i) (.int 48271) h = .ok (.int (i * 48271)) h := o_mulR (by decide) (by decide)
  have d1 : ∀ {i : Int} {h : AH}, modD (.int i) (.int 2147483647) h = .ok (.int (i % 2147483647)) h := o_mod (by decide)
  have p1 : ∀ {h : AH}, powD (.int 10) (.int 18) h = .ok (.int 1000000000000000000) h := fun {h} => (o_pow (by unfold CPow; decide)).trans rfl
  -- the cell
  have hc : ∃ cell : Int, mIf (mBl (mBin (cmpD fun i j => decide (i < j)) (mVar 1) (mCB lenD (mCons (mVar 0) mNil)))) (mBin ixD (mVar 0) (mVar 1)) (mBin addD (mBin mulD (mC (.int 7)) (mVar 1)) (mC (.int 2))) (initE 5 [.scr (ns.map .int), .int k]) h = .ok (.int cell) h := by
    by_cases q : k < ns.length
    · obtain ⟨x, ex, mx⟩ := atI_mem (l := ns.map D.int) hk (by simpa using q)
      obtain ⟨i, _, rfl⟩ := List.mem_map.mp mx
      have hx : ixD (.scr (ns.map .int)) (.int k) h = .ok (.int i) h := by simp [ixD, seqD, ex]
      exact ⟨i, by simp [initE, l1, q, hx]⟩
    · exact ⟨7 * k + 2, by simp [initE, l1, q, m1]⟩
  obtain ⟨cell, hc⟩ := hc
  have sl : mSlL (mVar 0) mNoPart (mPart (mC (.int 8))) [some (.scr (ns.map .int)), some (.int k), some (.int cell), some (.int (90001 + 7919 * k)), none] h = .ok (cutL (ns.map .int) none (some 8)) h := rfl
  have ct : catD (.lst (cutL (ns.map .int) none (some 8))) (.lst [.int cell]) h = .ok (cutL (ns.map .int) none (some 8) ++ [.int cell]) h := by
    rw [o_cat, if_pos]
    have : (cutL (ns.map D.int) none (some 8)).length ≤ 63 := by
      unfold cutL
      simp only [List.length_take, List.length_drop, List.length_map]
      omega
    have : (63 : Nat) + 1 ≤ sizeLine := by decide
    simp
    omega
  have hi : ∀ d ∈ cutL (ns.map D.int) none (some 8) ++ [.int cell], ∃ i, d = .int i := by
    intro d m
    rcases List.mem_append.mp m with m | m
    · obtain ⟨i, _, e⟩ := List.mem_map.mp (List.mem_of_mem_drop (List.mem_of_mem_take m))
      exact ⟨i, e.symm⟩
    · exact ⟨cell, List.mem_singleton.mp m⟩
  obtain ⟨env', h', ef, ⟨b, x, rfl, rfl, hb, hb2⟩⟩ := for_inv (g := mgName 4) (p := mAsg (mBin modD (mCB intD (mCons (mBin addD (mBin addD (mBin mulD (mVar 3) (mC (.int 48271))) (mCB intD (mCons (mVar 4) mNil))) (mBin mulD (mC (.int 11)) (mVar 1))) mNil)) (mC (.int 2147483647))) (mgName 3))
    (fun env h' => ∃ (b : Int) (x : Option D), env = [some (.scr (ns.map .int)), some (.int k), some (.int cell), some (.int b), x] ∧ h' = h ∧ 0 ≤ b ∧ b < 2147483647) (ds := cutL (ns.map D.int) none (some 8) ++ [.int cell])
    (env := [some (.scr (ns.map .int)), some (.int k), some (.int cell), some (.int (90001 + 7919 * k)), none]) (h := h) ⟨_, _, rfl, rfl, by omega, by omega⟩ (by
      intro d md env h1 ⟨b, x, e1, e2, h3, h4⟩
      subst e1 e2
      obtain ⟨i, rfl⟩ := hi d md
      refine ⟨_, _, _, _, rfl, ?_, (b * 48271 + i + 11 * k) % 2147483647, some (.int i), rfl, rfl, Int.emod_nonneg _ (by decide), Int.emod_lt_of_pos _ (by decide)⟩
      simp [m3, m4, d1])
  refine ⟨if cell < 0 ∨ cell ≥ 1000000000000000000 then (if cell < 0 then -cell else cell) else 0, b, 0, ?_, ?_, hb, hb2⟩
  · simp only [dSpring, m_dSpring, f_K, e_Seq, e_Asg, hc]
    by_cases q1 : cell < 0 <;> by_cases q2 : (1000000000000000000 : Int) ≤ cell <;> simp [initE, m2, sl, ct, ef, p1, q1, q2]
  · split
    · split <;> omega
    · omega
theorem sp3_new {a b c : Int} (h1 : 0 ≤ a) (h2 : 0 ≤ b) (h3 : b < 2147483647) : Sp3 (h ++ [.lst [.int a, .int b, .int c]]) h.length := ⟨a, b, c, by simp, h1, h2, h3⟩
end
end Ab

/-! Least factors and powers of one prime, in plain numbers. -/
namespace Ab
open PySem PySem.Spec L2
structure IsMf (v p : Nat) : Prop where
  two : 2 ≤ p
  dvd : p ∣ v
  least : ∀ d, 2 ≤ d → d < p → ¬ d ∣ v
/-- v is a power of its least factor p (some p), or is not (none) -/
def Pp (v : Nat) (o : Option Nat) : Prop := ∃ p, IsMf v p ∧ ((o = some p ∧ ∃ k, v = p ^ k) ∨ (o = none ∧ ¬ ∃ k, v = p ^ k))
def IsRest (p v r : Nat) : Prop := ∃ k, v = p ^ k * r ∧ ¬ p ∣ r
def optD : Option Nat → D
  | none => .non
  | some p => .int p
/-- the prime that both are powers of -/
def shO (a b : Option Nat) : Option Nat := if a = b then a else none
/-- the program's answer -/
def Shp (n m : Nat) (o : Option Nat) : Prop := ((n = 1 ∨ m = 1) ∧ o = none) ∨ (n ≠ 1 ∧ m ≠ 1 ∧ ∃ a b, Pp n a ∧ Pp m b ∧ o = shO a b)
/-! the two loops -/
section
variable {h : AH}
abbrev cPrime : M Bool := mAndT (mBl (mBin (cmpD fun i j => decide (i ≤ j)) (mBin mulD (mVar 1) (mVar 1)) (mVar 0))) (mBl (mBin (cmpD fun i j => decide (j < i)) (mBin modD (mVar 0) (mVar 1)) (mC (.int 0))))
abbrev bPrime : MS := mAug 1 addI (mC (.int 1))
abbrev cRest : M Bool := mBl (mBin eqD (mBin modD (mVar 0) (mVar 1)) (mC (.int 0)))
abbrev bRest : MS := mAsg (mBin divD (mVar 0) (mVar 1)) (mgName 0)
end
end Ab

/-! repr of data, comprehensions with a test, counted loops. -/
namespace Ab
open PySem PySem.Spec L2
section
variable {h : AH} {d : D} {ds : List D} {c c' k n : Nat}
/-- what can be shown, at a cost -/
def Sh (d : D) (c k : Nat) : Prop := ∃ p, toPy0 d = some p ∧ p.showable = true ∧ noDict p = true ∧ cost p ≤ c ∧ p.depth ≤ k
def ShL (ds : List D) (c k : Nat) : Prop := ∃ ps, toPyL ds = some ps ∧ PyData.showableAll ps = true ∧ noDictL ps = true ∧ costL ps ≤ c ∧ PyData.depthAll ps ≤ k
theorem Sh.int {i : Int} (hi : i.natAbs < 2 ^ 200) : Sh (.int i) 2000 1 := by
  refine ⟨.int i, by simp [toPy0], ?_, by simp [noDict], by simp [cost], by simp [PyData.depth]⟩
  have : i.natAbs.log2 < 1920 := by
    by_cases z : i.natAbs = 0
    · rw [z]; decide
    · have := (Nat.log2_lt z).mpr hi
      omega
  simp [PyData.showable, this]
theorem Sh.bl {b : Bool} : Sh (.bl b) 2000 1 := ⟨.bool b, by simp [toPy0], by simp [PyData.showable], by simp [noDict], by simp [cost], by simp [PyData.depth]⟩
theorem Sh.non : Sh .non 2000 1 := ⟨.none, by simp [toPy0], by simp [PyData.showable], by simp [noDict], by simp [cost], by simp [PyData.depth]⟩
theorem ShL.nil : ShL [] 0 0 := ⟨[], by simp [toPyL], by simp [PyData.showableAll], by simp [noDictL], by simp [costL], by simp [PyData.depthAll]⟩
theorem ShL.cons {k' : Nat} (a : Sh d c k) (r : ShL ds c' k') : ShL (d :: ds) (c + 2 + c') (max k k') := by
  obtain ⟨p, e, h1, h2, h3, h4⟩ := a
  obtain ⟨ps, e', g1, g2, g3, g4⟩ := r
  refine ⟨p :: ps, by simp [toPyL, e, e'], by simp [PyData.showableAll, h1, g1], by simp [noDictL, h2, g2], by simp [costL]; omega, by simp [PyData.depthAll]; omega⟩
theorem ShL.le {k' : Nat} (r : ShL ds c k) (hc : c ≤ c') (hk : k ≤ k') : ShL ds c' k' := by
  obtain ⟨ps, e', g1, g2, g3, g4⟩ := r
  exact ⟨ps, e', g1, g2, Nat.le_trans g3 hc, Nat.le_trans g4 hk⟩
theorem Sh.le {k' : Nat} (r : Sh d c k) (hc : c ≤ c') (hk : k ≤ k') : Sh d c' k' := by
  obtain ⟨ps, e', g1, g2, g3, g4⟩ := r
  exact ⟨ps, e', g1, g2, Nat.le_trans g3 hc, Nat.le_trans g4 hk⟩
theorem Sh.tup (r : ShL ds c k) : Sh (.tup ds) (c + 4) (k + 1) := by
  obtain ⟨ps, e', g1, g2, g3, g4⟩ := r
  exact ⟨.tuple ps, by simp [toPy0, e'], by simp [PyData.showable, g1], by simp [noDict, g2], by simp [cost, g3], by simp [PyData.depth, g4]⟩
theorem Sh.lst (r : ShL ds c k) : Sh (.lst ds) (c + 4) (k + 1) := by
  obtain ⟨ps, e', g1, g2, g3, g4⟩ := r
  exact ⟨.list ps, by simp [toPy0, e'], by simp [PyData.showable, g1], by simp [noDict, g2], by simp [cost, g3], by simp [PyData.depth, g4]⟩
theorem ShL.all {b kk : Nat} : ∀ {ds : List D}, (∀ d ∈ ds, Sh d b kk) → ShL ds (ds.length * (b + 2)) kk
  | [], _ => ShL.nil.le (Nat.zero_le _) (Nat.zero_le _)
  | d :: ds, a => ((a d (List.mem_cons_self ..)).le (Nat.le_refl _) (Nat.le_refl _) |>.elim fun p hp => ShL.cons ⟨p, hp⟩ (ShL.all (ds := ds) fun x hx => a x (List.mem_cons_of_mem _ hx))).le (by rw [List.length_cons, Nat.succ_mul]; omega) (by omega)
theorem for_ix {g : MG} {p : MS} (I : Nat → En → AH → Prop) : ∀ {ds : List D} {i : Nat} {env : En} {h : AH}, I i env h → (∀ j d env h, ds[j]? = some d → I (i + j) env h → ∃ env1 h1 env' h', g d env h = .ok env1 h1 ∧ p env1 h1 = .nx env' h' ∧ I (i + j + 1) env' h') → ∃ env' h', forItems g p ds env h = .nx env' h' ∧ I (i + ds.length) env' h'
  | [], i, env, h, h0, _ => ⟨env, h, rfl, h0⟩
  | d :: ds, i, env, h, h0, st => by
    obtain ⟨env1, h1, env2, h2, e1, e2, i2⟩ := st 0 d env h rfl h0
    obtain ⟨env3, h3, e3, i3⟩ := for_ix I (ds := ds) (i := i + 1) i2 fun j x env h hx hi => by
      have := st (j + 1) x env h hx (by rw [show i + (j + 1) = i + 1 + j by omega]; exact hi)
      rw [show i + (j + 1) + 1 = i + 1 + j + 1 by omega] at this
      exact this
    exact ⟨env3, h3, by rw [for_cons, e1]; simp [e2, e3], by rw [List.length_cons, show i + (ds.length + 1) = i + 1 + ds.length by omega]; exact i3⟩
theorem rngD_get {lo hi : Int} {i : Nat} {d : D} (e : (rngD lo hi)[i]? = some d) : d = .int (lo + i) ∧ lo + i < hi := by
  unfold rngD at e
  rw [List.getElem?_map] at e
  rcases Nat.lt_or_ge i (hi - lo).toNat with q | q
  · rw [List.getElem?_range q] at e
    cases e
    exact ⟨rfl, by omega⟩
  · rw [List.getElem?_eq_none (by rw [List.length_range]; exact q)] at e
    cases e
@[simp] theorem o_isi1 {i : Int} : isiD [.int i, .ty "int"] h = .ok (.bl true) h := rfl
@[simp] theorem o_isi0 {i : Int} : isiD [.int i, .ty "bool"] h = .ok (.bl false) h := rfl
@[simp] theorem o_eqIN {i : Int} : eqD (.int i) .non h = .ok (.bl false) h := rfl
@[simp] theorem o_eqNI {i : Int} : eqD .non (.int i) h = .ok (.bl false) h := rfl
@[simp] theorem o_eqNN : eqD .non .non h = .ok (.bl true) h := rfl
theorem Pp.le {v p : Nat} (a : Pp v (some p)) (hv : 0 < v) : p ≤ v := by
  obtain ⟨q, hq, ⟨e, _⟩ | ⟨e, _⟩⟩ := a
  · cases e; exact Nat.le_of_dvd hv hq.dvd
  · cases e
theorem Shp.le {n m p : Nat} (a : Shp n m (some p)) (hn : 0 < n) : p ≤ n := by
  rcases a with ⟨_, e⟩ | ⟨_, _, x, y, px, py, e⟩
  · cases e
  · unfold shO at e
    split at e
    · subst e; exact px.le hn
    · cases e
/-! like data are equal -/
def Lk (d : D) (k : Nat) : Prop := ∃ p, toPy0 d = some p ∧ p.canLay0 = true ∧ p.depth ≤ k
def LkL (ds : List D) (k : Nat) : Prop := ∃ ps, toPyL ds = some ps ∧ PyData.canLayAll0 ps = true ∧ PyData.depthAll ps ≤ k
theorem Lk.int {i : Int} : Lk (.int i) 1 := ⟨.int i, by simp [toPy0], by simp [PyData.canLay0], by simp [PyData.depth]⟩
theorem Lk.bl {b : Bool} : Lk (.bl b) 1 := ⟨.bool b, by simp [toPy0], by simp [PyData.canLay0], by simp [PyData.depth]⟩
theorem Lk.non : Lk .non 1 := ⟨.none, by simp [toPy0], by simp [PyData.canLay0], by simp [PyData.depth]⟩
theorem LkL.nil : LkL [] 0 := ⟨[], by simp [toPyL], by simp [PyData.canLayAll0], by simp [PyData.depthAll]⟩
theorem LkL.cons {k' : Nat} (a : Lk d k) (r : LkL ds k') : LkL (d :: ds) (max k k') := by
  obtain ⟨p, e, h1, h2⟩ := a
  obtain ⟨ps, e', g1, g2⟩ := r
  exact ⟨p :: ps, by simp [toPyL, e, e'], by simp [PyData.canLayAll0, h1, g1], by simp [PyData.depthAll]; omega⟩
theorem LkL.all {kk : Nat} : ∀ {ds : List D}, (∀ d ∈ ds, Lk d kk) → LkL ds kk
  | [], _ => ⟨[], by simp [toPyL], by simp [PyData.canLayAll0], by simp [PyData.depthAll]⟩
  | d :: ds, a => by
    have := (a d (List.mem_cons_self ..)).elim fun p hp => LkL.cons ⟨p, hp⟩ (LkL.all (ds := ds) fun x hx => a x (List.mem_cons_of_mem _ hx))
    rwa [Nat.max_self] at this
theorem Lk.lst (r : LkL ds k) : Lk (.lst ds) (k + 1) := by
  obtain ⟨ps, e', g1, g2⟩ := r
  exact ⟨.list ps, by simp [toPy0, e'], by simp [PyData.canLay0, g1], by simp [PyData.depth, g2]⟩
theorem Lk.tup (r : LkL ds k) : Lk (.tup ds) (k + 1) := by
  obtain ⟨ps, e', g1, g2⟩ := r
  exact ⟨.tuple ps, by simp [toPy0, e'], by simp [PyData.canLay0, g1], by simp [PyData.depth, g2]⟩
/-! lists of one's own -/
theorem append_ok {n : Nat} (e : h[n]? = some (.lst ds)) (hl : ds.length < 1000) : appendD (.loc n) [d] h = .ok .non (h.set n (.lst (ds ++ [d]))) := by
  have : ds.length < sizeLine := Nat.lt_of_lt_of_le hl (by decide)
  simp [appendD, e, this]
theorem x_bl {n : Nat} {b : Bool} : ∃ h', exitD n (.bl b) h = .ok (.bl b) h' := by
  unfold exitD
  split
  · exact ⟨_, by rw [if_pos (by simp)]⟩
  · exact ⟨_, rfl⟩
theorem Sp3.app {n : Nat} {h' : AH} (s : Sp3 h n) : Sp3 (h ++ h') n := by
  obtain ⟨a, b, c, e, r⟩ := s
  exact ⟨a, b, c, by rw [List.getElem?_append_left (lt_of_get e)]; exact e, r⟩
theorem Sp3.set {n m : Nat} {x : AO} (s : Sp3 h n) (hn : n ≠ m) : Sp3 (h.set m x) n := by
  obtain ⟨a, b, c, e, r⟩ := s
  exact ⟨a, b, c, by rw [List.getElem?_set_ne (Ne.symm hn)]; exact e, r⟩
def kMeth0 (ok : D → AH → Bool) (f : D → List D → AH → R D) (ma : M (List D)) (env : En) (o : D) (h : AH) : R D := if ok o h = true then (ma env h).bind (f o) else .bad
@[simp] theorem e_Meth {ok : D → AH → Bool} {f : D → List D → AH → R D} {mo : M D} {ma : M (List D)} {env : En} : mMethT ok f mo ma env h = (mo env h).bind (kMeth0 ok f ma env) := rfl.trans rfl
theorem Shp.symm {n m : Nat} {o : Option Nat} (a : Shp n m o) : Shp m n o := by
  rcases a with ⟨h1 | h1, e⟩ | ⟨h1, h2, x, y, px, py, e⟩
  · exact .inl ⟨.inr h1, e⟩
  · exact .inl ⟨.inl h1, e⟩
  · refine .inr ⟨h2, h1, y, x, py, px, ?_⟩
    rw [e]; unfold shO
    by_cases z : x = y
    · rw [if_pos z, if_pos z.symm, z]
    · rw [if_neg z, if_neg (fun y => z y.symm)]
end
end Ab

/-! What the newer pieces compute, as rewriting rules. -/
namespace Ab
open PySem PySem.Spec L2
section
variable {α β : Type} {a : α} {h h' : AH} {env env' : En} {x : Str} {fs : List (Str × D)} {d y : D} {ds es : List D} {i j : Int} {n m k : Nat} {b c : Bool}
/-! pieces -/
def kRevT (d : D) (h : AH) : R D := match d with
  | .tup ds => .ok (.tup ds.reverse) h
  | _ => .bad
@[simp] theorem k_RevT : kRevT (.tup ds) h = .ok (.tup ds.reverse) h := rfl.trans rfl
@[simp] theorem e_RevT {p : M D} : mRevT p env h = (p env h).bind kRevT := rfl.trans rfl
def kRevL (d : D) (h : AH) : R (List D) := match seqD d h with
  | some ds => .ok ds.reverse h
  | none => .bad
@[simp] theorem k_RevL : kRevL (.lst ds) h = .ok ds.reverse h := rfl.trans rfl
@[simp] theorem e_RevL {p : M D} : mRevL p env h = (p env h).bind kRevL := rfl.trans rfl
def kRg1 (d : D) (h : AH) : R (Int × Int) := match d with
  | .int n => .ok (0, n) h
  | _ => .bad
@[simp] theorem k_Rg1 : kRg1 (.int i) h = .ok (0, i) h := rfl.trans rfl
@[simp] theorem e_Rg1 {p : M D} : mRg1 p env h = (p env h).bind kRg1 := rfl.trans rfl
def kRg2 (d y : D) (h : AH) : R (Int × Int) := match d, y with
  | .int i, .int j => .ok (i, j) h
  | _, _ => .bad
@[simp] theorem k_Rg2 : kRg2 (.int i) (.int j) h = .ok (i, j) h := rfl.trans rfl
@[simp] theorem e_Rg2 {p q : M D} : mRg2 p q env h = (p env h).bind (kQ q env kRg2) := rfl.trans rfl
def kLstRg (ab : Int × Int) (h : AH) : R (List D) := if InW ab.1 ∧ InW ab.2 ∧ (ab.2 - ab.1).toNat ≤ 2 ^ 24 then .ok (rngD ab.1 ab.2) h else .bad
def kTupRg (ab : Int × Int) (h : AH) : R D := if InW ab.1 ∧ InW ab.2 ∧ (ab.2 - ab.1).toNat ≤ 2 ^ 24 then .ok (.tup (rngD ab.1 ab.2)) h else .bad
@[simp] theorem e_LstRg {p : M (Int × Int)} : mLstRg p env h = (p env h).bind kLstRg := rfl.trans rfl
@[simp] theorem e_TupRg {p : M (Int × Int)} : mTupRg p env h = (p env h).bind kTupRg := rfl.trans rfl
def kEnum (ds : List D) (h : AH) : R AI := match enumA ds with
  | some l => .ok (.items l) h
  | none => .bad
@[simp] theorem k_EnumT : kEnum [.tup ds] h = .ok (.items (enumD ds)) h := rfl.trans rfl
@[simp] theorem k_EnumL : kEnum [.lst ds] h = .ok (.items (enumD ds)) h := rfl.trans rfl
@[simp] theorem e_Enum {p : M (List D)} : miEnum p env h = (p env h).bind kEnum := rfl.trans rfl
def kU (d : D) (h : AH) : R AI := match d with
  | .str z => .ok (.items (signsD z)) h
  | .lst ds => .ok (.items ds) h
  | .scr ds => .ok (.items ds) h
  | .tup ds => .ok (.items ds) h
  | .dic ks ds => if ks.length = ds.length then .ok (.items (ks.map keyTD)) h else .bad
  | .loc n => (match h[n]? with
    | some (.lst _) => .ok (.at_ n) h
    | _ => .bad)
  | _ => .bad
@[simp] theorem k_UL : kU (.lst ds) h = .ok (.items ds) h := rfl.trans rfl
@[simp] theorem k_US : kU (.scr ds) h = .ok (.items ds) h := rfl.trans rfl
@[simp] theorem k_UT : kU (.tup ds) h = .ok (.items ds) h := rfl.trans rfl
@[simp] theorem i_U {p : M D} : miU p env h = (p env h).bind kU := rfl.trans rfl
def kDisp (y z : D) (h : AH) : R D := match keyT y with
  | some ks => .ok (.loc h.length) (h ++ [.dct [(ks, z)]])
  | none => .bad
@[simp] theorem e_Disp {p q : M D} : mDisp1 p q env h = (p env h).bind (kQ q env kDisp) := rfl.trans rfl
@[simp] theorem e_DNew : mDNew env h = .ok (.loc h.length) (h ++ [.dct []]) := rfl.trans rfl
def kStar (q : M (List D)) (env : En) (d : D) (h : AH) : R (List D) := match spreadD d h with
  | some ds => (q env h).bind fun r h2 => .ok (ds ++ r) h2
  | none => .bad
@[simp] theorem k_StarT {q : M (List D)} : kStar q env (.tup ds) h = (q env h).bind fun r h2 => .ok (ds ++ r) h2 := rfl.trans rfl
@[simp] theorem e_Star {p : M D} {q : M (List D)} : mStar p q env h = (p env h).bind (kStar q env) := rfl.trans rfl
@[simp] theorem e_NoPart : mNoPart env h = .ok none h := rfl.trans rfl
@[simp] theorem k_Part : kPart (.int i) h = .ok (some i) h := rfl.trans rfl
@[simp] theorem e_Part {p : M D} : mPart p env h = (p env h).bind kPart := rfl.trans rfl
def kSlU2 (d : D) (l u : Option Int) (h : AH) : R D := match d with
  | .tup ds => .ok (.tup (cutL ds l u)) h
  | d => (match seqD d h with
    | some ds => .ok (.lst (cutL ds l u)) h
    | none => .bad)
@[simp] theorem k_SlUT {l u : Option Int} : kSlU2 (.tup ds) l u h = .ok (.tup (cutL ds l u)) h := rfl.trans rfl
@[simp] theorem k_SlUL {l u : Option Int} : kSlU2 (.lst ds) l u h = .ok (.lst (cutL ds l u)) h := rfl.trans rfl
def kSl1 {γ : Type} (f : D → Option Int → Option Int → AH → R γ) (hi : M (Option Int)) (env : En) (d : D) (l : Option Int) (h : AH) : R γ := (hi env h).bind (f d l)
@[simp] theorem k_Sl1 {γ : Type} {f : D → Option Int → Option Int → AH → R γ} {hi : M (Option Int)} {l : Option Int} : kSl1 f hi env d l h = (hi env h).bind (f d l) := rfl.trans rfl
@[simp] theorem e_SlU {p : M D} {lo hi : M (Option Int)} : mSlU p lo hi env h = (p env h).bind (kQ lo env (kSl1 kSlU2 hi env)) := rfl.trans rfl
def kSlL2 (d : D) (l u : Option Int) (h : AH) : R (List D) := match seqD d h with
  | some ds => .ok (cutL ds l u) h
  | none => .bad
@[simp] theorem k_SlLL {l u : Option Int} : kSlL2 (.lst ds) l u h = .ok (cutL ds l u) h := rfl.trans rfl
@[simp] theorem k_SlLS {l u : Option Int} : kSlL2 (.scr ds) l u h = .ok (cutL ds l u) h := rfl.trans rfl
@[simp] theorem e_SlL {p : M D} {lo hi : M (Option Int)} : mSlL p lo hi env h = (p env h).bind (kQ lo env (kSl1 kSlL2 hi env)) := rfl.trans rfl
def kSplit2 (x : Str) (b : D) (h : AH) : R (List D) := match b with
  | .str y => if (y.length == 0) = false ∧ x.length + 2 ≤ sizeLine then .ok ((Txt.split x y).map D.str) h else .bad
  | _ => .bad
def kSplit (q : M D) (env : En) (d : D) (h : AH) : R (List D) := match d with
  | .str x => (q env h).bind (kSplit2 x)
  | _ => .bad
@[simp] theorem k_Split {q : M D} : kSplit q env (.str x) h = (q env h).bind (kSplit2 x) := rfl.trans rfl
@[simp] theorem e_Split {p q : M D} : mSplit p q env h = (p env h).bind (kSplit q env) := rfl.trans rfl
def kJoin2 (x : Str) (b : D) (h : AH) : R D := joinD (.str x) b h
@[simp] theorem k_Join2 : kJoin2 x d h = joinD (.str x) d h := rfl.trans rfl
def kJoin (q : M D) (env : En) (d : D) (h : AH) : R D := match d with
  | .str x => (q env h).bind (kJoin2 x)
  | _ => .bad
@[simp] theorem k_Join {q : M D} : kJoin q env (.str x) h = (q env h).bind (kJoin2 x) := rfl.trans rfl
@[simp] theorem e_Join {p q : M D} : mJoin p q env h = (p env h).bind (kJoin q env) := rfl.trans rfl
def kMeth00 (ok : D → AH → Bool) (f : D → List D → AH → R D) (o : D) (h : AH) : R D := if ok o h = true then f o [] h else .bad
@[simp] theorem e_Meth0 {ok : D → AH → Bool} {f : D → List D → AH → R D} {mo : M D} : mMethT0 ok f mo env h = (mo env h).bind (kMeth00 ok f) := rfl.trans rfl
def kSeqG (n : Nat) (m : List D → En → AH → R En) (d : D) (env : En) (h : AH) : R En := match spreadD d h with
  | some ds => if ds.length = n then m ds env h else .bad
  | none => .bad
theorem g_SeqT {q : List D → En → AH → R En} (e : ds.length = n) : mgSeq n q (.tup ds) env h = q ds env h := by
  show (if ds.length = n then q ds env h else .bad) = _
  rw [if_pos e]
theorem g_SeqL {q : List D → En → AH → R En} (e : ds.length = n) : mgSeq n q (.lst ds) env h = q ds env h := by
  show (if ds.length = n then q ds env h else .bad) = _
  rw [if_pos e]
@[simp] theorem g_Seq2T {q : List D → En → AH → R En} {d1 d2 : D} : mgSeq 2 q (.tup [d1, d2]) env h = q [d1, d2] env h := g_SeqT rfl
@[simp] theorem g_Seq2L {q : List D → En → AH → R En} {d1 d2 : D} : mgSeq 2 q (.lst [d1, d2]) env h = q [d1, d2] env h := g_SeqL rfl
@[simp] theorem g_Seq3L {q : List D → En → AH → R En} {d1 d2 d3 : D} : mgSeq 3 q (.lst [d1, d2, d3]) env h = q [d1, d2, d3] env h := g_SeqL rfl
@[simp] theorem g_Seq3T {q : List D → En → AH → R En} {d1 d2 d3 : D} : mgSeq 3 q (.tup [d1, d2, d3]) env h = q [d1, d2, d3] env h := g_SeqT rfl
def kSubU (env : En) (d o i : D) (h2 : AH) : R En := match o with
  | .loc n => (match h2[n]? with
    | some (.lst ds) => (match i with
      | .int k => (match ixN ds.length k with
        | some j => .ok env (h2.set n (.lst (ds.set j d)))
        | none => .bad)
      | _ => .bad)
    | some (.dct kvs) => (match keyT i with
      | some k => if kvs.length < sizeLine then .ok env (h2.set n (.dct (fPut kvs k d))) else .bad
      | none => .bad)
    | _ => .bad)
  | _ => .bad
@[simp] theorem e_SubU {p q : M D} : mgSubU p q d env h = (p env h).bind (kQ q env (kSubU env d)) := rfl.trans rfl
theorem k_SubUL {i : Nat} (e : h[n]? = some (.lst ds)) (hi : i < ds.length) : kSubU env d (.loc n) (.int i) h = .ok env (h.set n (.lst (ds.set i d))) := by
  have : ixN ds.length (i : Int) = some i := by unfold ixN; rw [if_pos (by omega), if_pos (by omega)]; simp
  simp [kSubU, e, this]
theorem k_SubUD {kvs : List (List Key × D)} {ks : List Key} (e : h[n]? = some (.dct kvs)) (ek : keyT y = some ks) (hl : kvs.length ≤ 1000000) : kSubU env d (.loc n) y h = .ok env (h.set n (.dct (fPut kvs ks d))) := by
  have : kvs.length < sizeLine := Nat.lt_of_le_of_lt hl (by decide)
  simp [kSubU, e, ek, this]
def kFld (c f : Str) (env : En) (d o : D) (h1 : AH) : R En := match o with
  | .loc n => (match h1[n]? with
    | some (.ins c' fs) => if c' = c ∧ fs.length < 1000 then .ok env (h1.set n (.ins c' (putD f d fs))) else .bad
    | _ => .bad)
  | _ => .bad
@[simp] theorem e_Fld {c f : Str} {p : M D} : mgFld c f p d env h = (p env h).bind (kFld c f env d) := rfl.trans rfl
def kMakeS (c : Str) (F : Fn) (d : D) (h1 : AH) : R D := match spreadD d h1 with
  | some ds => if ds.length ≤ sizeLine then makeP c F ds h1 else .bad
  | none => .bad
@[simp] theorem e_MakeS {c : Str} {F : Fn} {p : M D} : mMakeS c F p env h = (p env h).bind (kMakeS c F) := rfl.trans rfl
def kCm2 (c : Str) (n : Nat) (F : Fn) (ds : List D) (h : AH) : R D := callP (n + 1) F (.glo c :: ds) h
@[simp] theorem k_Cm2 {c : Str} {F : Fn} : kCm2 c n F ds h = callP (n + 1) F (.glo c :: ds) h := rfl.trans rfl
@[simp] theorem e_Cm2 {c : Str} {F : Fn} {p : M (List D)} : mCm2 c n F p env h = (p env h).bind (kCm2 c n F) := rfl.trans rfl
def kDicF (kvs : List (List Key × D)) (h : AH) : R D := .ok (.dic (kvs.map (·.1)) (kvs.map (·.2))) h
@[simp] theorem k_DicF {kvs : List (List Key × D)} : kDicF kvs h = .ok (.dic (kvs.map (·.1)) (kvs.map (·.2))) h := rfl.trans rfl
@[simp] theorem e_DicF {p : M (List (List Key × D))} : mDicF p env h = (p env h).bind kDicF := rfl.trans rfl
def kSortS (ks : List (List Int)) (h : AH) : R (List D) := if okT ks = true then .ok ((sortT ks).map tupI) h else .bad
@[simp] theorem e_SortS {p : M (List (List Int))} : mSortS p env h = (p env h).bind kSortS := rfl.trans rfl
/-! operators -/
@[simp] theorem u_add : addUD (.int i) (.int j) h = .ok (.int (i + j)) h := rfl.trans rfl
@[simp] theorem u_addL : addUD (.lst ds) (.lst es) h = if ds.length + es.length ≤ sizeLine then .ok (.lst (ds ++ es)) h else .bad := rfl.trans rfl
theorem u_mul : mulUD (.int i) (.int j) h = mulD (.int i) (.int j) h := rfl.trans rfl
@[simp] theorem u_int : intUD [.int i] h = .ok (.int i) h := rfl.trans rfl
@[simp] theorem u_lenL : lenUD [.lst ds] h = .ok (.int ds.length) h := rfl.trans rfl
@[simp] theorem u_lenS : lenUD [.scr ds] h = .ok (.int ds.length) h := rfl.trans rfl
@[simp] theorem u_lenT : lenUD [.tup ds] h = .ok (.int ds.length) h := rfl.trans rfl
theorem u_ix (e : dctD d h = none) : ixUD d y h = ixD d y h := by unfold ixUD; rw [e]
theorem u_ixL (e : atI ds i = some d) : ixUD (.lst ds) (.int i) h = .ok d h := by simp [ixUD, dctD, ixD, seqD, e]
theorem u_ixS (e : atI ds i = some d) : ixUD (.scr ds) (.int i) h = .ok d h := by simp [ixUD, dctD, ixD, seqD, e]
theorem u_ixD {ks : List (List Key)} {kk : List Key} (e : keyT y = some kk) (e2 : fGet (ks.zip ds) kk = some d) : ixUD (.dic ks ds) y h = .ok d h := by simp [ixUD, dctD, e, e2]
theorem u_inD {neg : Bool} {kvs : List (List Key × D)} {kk : List Key} (e1 : h[n]? = some (.dct kvs)) (e : keyT d = some kk) : inUD neg d (.loc n) h = .ok (.bl (if neg then !(fGet kvs kk).isSome else (fGet kvs kk).isSome)) h := by simp [inUD, dctD, e1, e]
@[simp] theorem atI_0 : atI (d :: ds) 0 = some d := by simp [atI, ixN]
@[simp] theorem tupl_L : tupleD [.lst ds] h = .ok (.tup ds) h := rfl.trans rfl
/-! comprehensions that change nothing -/
/-! tuples of whole numbers -/
@[simp] theorem below_ints : ∀ {ns : List Int}, belowL n (ns.map D.int) = true
  | [] => by simp [belowL]
  | a :: ns => by
    have : belowL n (ns.map D.int) = true := below_ints
    simp only [List.map_cons, belowL, this, Bool.and_true, below]
@[simp] theorem below_tupI {ns : List Int} : below n (tupI ns) = true := by simp [below, tupI]
@[simp] theorem below_tups : ∀ {ks : List (List Int)}, belowL n (ks.map tupI) = true
  | [] => by simp [belowL]
  | a :: ns => by
    have : belowL n (ns.map tupI) = true := below_tups
    simp only [List.map_cons, belowL, this, Bool.and_true, below_tupI]
theorem keyL_ints : ∀ ns : List Int, keyL (ns.map D.int) = some (ns.map Sum.inl)
  | [] => rfl
  | a :: ns => by
    show (match keyD (.int a), keyL (ns.map D.int) with
      | some k, some ks => some (k :: ks)
      | _, _ => none) = _
    rw [keyL_ints ns]
    rfl
abbrev kI (ns : List Int) : List Key := ns.map Sum.inl
@[simp] theorem keyT_tupI {ns : List Int} : keyT (tupI ns) = some (kI ns) := keyL_ints ns
theorem kI_inj {a b : List Int} (e : kI a = kI b) : a = b := by
  have := congrArg (List.map fun k : Key => match k with | .inl i => i | .inr _ => 0) e
  simpa [kI, Function.comp_def] using this
end
end Ab

namespace Tb
open PySem PySem.Spec L2 Ab
def m_is_integer : MS :=
  (mRet (mAnd (mCB isiD (mCons (mVar 0) (mCons (mC (.ty "int")) mNil))) (mNot (mCB isiD (mCons (mVar 0) (mCons (mC (.ty "bool")) mNil))))))
def F_is_integer : Fn := mFnT 1 m_is_integer
def m_number_in : MS :=
  (mSeq (mIfS (mOrT (mBl (mBin eqD (mVar 0) (mC (.str "")))) (mNotT (mTru (mCB (allD false) (mCons (mFrz (mLc (miU (mVar 0)) (mgName 1) (fun _ h => .ok true h) (mBin (inUD false) (mVar 1) (mC (.str "0123456789"))) [1])) mNil))))) (mRet (mC .non)) mNext)
  (mRet (mIf (mOrT (mBl (mBin neD (mBin ixUD (mVar 0) (mC (.int 0))) (mC (.str "0")))) (mBl (mBin eqD (mVar 0) (mC (.str "0"))))) (mCB intUD (mCons (mVar 0) mNil)) (mC .non))))
def F_number_in : Fn := mFnT 2 m_number_in
def m_power_of : MS :=
  (mSeq (mAsg (mC (.int 1)) (mgName 2))
  (mSeq (mFor (miRng1 (mCons (mVar 1) mNil)) (mgName 3) (mAsg (mBin mulUD (mVar 2) (mVar 0)) (mgName 2)))
  (mRet (mVar 2))))
def F_power_of : Fn := mFnT 4 m_power_of
def m_behind_turn : MS :=
  (mSeq (mAsg (mOwn (mCBF listUD (mCons (mVar 0) mNil))) (mgName 2))
  (mSeq (mFor (miEnum (mCons (mVar 1) mNil)) (mgSeq 2 (mgCons (mgName 3) (mgCons (mgName 4) mgNil))) (mAsg (mBin ixUD (mVar 0) (mVar 3)) (mgSubU (mVar 2) (mVar 4))))
  (mRet (mCB tupleD (mCons (mVar 2) mNil)))))
def F_behind_turn : Fn := mFnT 5 m_behind_turn
def b_all_turns_1 : MS :=
  (mSeq (mAsg (mCB tupleD (mCons (mFrz (mLc (miU (mVar 4)) (mgName 7) (fun _ h => .ok true h) (mBin ixUD (mVar 5) (mVar 7)) [7])) mNil)) (mgName 6))
  (mIfS (mBl (mBin (inUD true) (mVar 6) (mVar 2))) (mSeq (mAsg (mC (.bl true)) (mgSubU (mVar 2) (mVar 6)))
  (mDrop (mMethT isLoc appendD (mVar 3) (mCons (mVar 6) mNil)))) mNext))
def m_all_turns : MS :=
  (mSeq (mPar 2 3 (mCons (mDisp1 (mTupRg (mRg1 (mVar 0))) (mC (.bl true))) (mCons (mOwn (mLst (mCons (mTupRg (mRg1 (mVar 0))) mNil))) mNil)))
  (mSeq (mWhile (mTru (mVar 3)) (mSeq (mAsg (mMethT0 isLoc popD (mVar 3)) (mgName 4))
  (mFor (miU (mVar 1)) (mgName 5) b_all_turns_1)) 100000)
  (mRet (mCB tupleD (mCons (mFrz (mCBF sortedUD (mCons (mVar 2) mNil))) mNil)))))
def F_all_turns : Fn := mFnT 8 m_all_turns
def m_shifted : MS :=
  (mRet (mCB tupleD (mCons (mFrz (mLc (miU (mVar 0)) (mgName 3) (fun _ h => .ok true h) (mBin modD (mBin addUD (mVar 3) (mVar 1)) (mVar 2)) [3])) mNil)))
def F_shifted : Fn := mFnT 4 m_shifted
def m_all_standings : MS :=
  (mSeq (mAsg (mFrz (mLst (mCons (mTup mNil) mNil))) (mgName 2))
  (mSeq (mFor (miRng1 (mCons (mVar 0) mNil)) (mgName 3) (mAsg (mFrz (mLc2 (miU (mVar 2)) (mgName 4) (fun _ h => .ok true h) (miRng1 (mCons (mVar 1) mNil)) (mgName 5) (fun _ h => .ok true h) (mTup (mStar (mVar 4) (mCons (mVar 5) mNil))) [4, 5] [5])) (mgName 2)))
  (mRet (mVar 2))))
def F_all_standings : Fn := mFnT 6 m_all_standings
def m_check_table : MS :=
  (mIfS (mNotT (mTru (mCB (isiCD "Table") (mCons (mVar 0) (mCons (mC (.glo "Table")) mNil))))) (fun _ _ => .bad) mNext)
def F_check_table : Fn := mFnT 1 m_check_table
def m__law_spring : MS :=
  (mSeq (mAsg (mIf (mBl (mBin (cmpD fun i j => decide (i < j)) (mVar 1) (mCB lenUD (mCons (mVar 0) mNil)))) (mBin ixUD (mVar 0) (mVar 1)) (mBin addUD (mBin mulUD (mC (.int 7)) (mVar 1)) (mC (.int 2)))) (mgName 2))
  (mSeq (mAsg (mBin addUD (mC (.int 90001)) (mBin mulUD (mC (.int 7919)) (mVar 1))) (mgName 3))
  (mSeq (mFor (miU (mFrz (mBinF catD (mFrz (mSlL (mVar 0) mNoPart (mPart (mC (.int 8))))) (mFrz (mLst (mCons (mVar 2) mNil)))))) (mgName 4) (mAsg (mBin modD (mCB intUD (mCons (mBin addUD (mBin addUD (mBin mulUD (mVar 3) (mC (.int 48271))) (mCB intUD (mCons (mVar 4) mNil))) (mBin mulUD (mC (.int 11)) (mVar 1))) mNil)) (mC (.int 2147483647))) (mgName 3)))
  (mRet (mOwn (mLst (mCons (mIf (mOrT (mBl (mBin (cmpD fun i j => decide (i < j)) (mVar 2) (mC (.int 0)))) (mBl (mBin (cmpD fun i j => decide (j ≤ i)) (mVar 2) (mBin powD (mC (.int 10)) (mC (.int 18)))))) (mCB absD (mCons (mVar 2) mNil)) (mC (.int 0))) (mCons (mVar 3) (mCons (mC (.int 0)) mNil)))))))))
def F__law_spring : Fn := mFnK 5 m__law_spring
def m__law_draw : MS :=
  (mSeq (mAsg (mBin addUD (mBin ixUD (mVar 0) (mC (.int 2))) (mC (.int 1))) (mgSubU (mVar 0) (mC (.int 2))))
  (mSeq (mAsg (mBin modD (mCB intUD (mCons (mBin addUD (mBin addUD (mBin mulUD (mBin ixUD (mVar 0) (mC (.int 1))) (mC (.int 69621))) (mBin mulUD (mC (.int 40503)) (mBin ixUD (mVar 0) (mC (.int 2))))) (mC (.int 1))) mNil)) (mC (.int 2147483647))) (mgSubU (mVar 0) (mC (.int 1))))
  (mSeq (mIfS (mBl (mBin (cmpD fun i j => decide (j < i)) (mBin ixUD (mVar 0) (mC (.int 0))) (mC (.int 0)))) (mSeq (mAsg (mCB divmodD (mCons (mBin ixUD (mVar 0) (mC (.int 0))) (mCons (mVar 1) mNil))) (mgSeq 2 (mgCons (mgSubU (mVar 0) (mC (.int 0))) (mgCons (mgName 2) mgNil))))
  (mRet (mVar 2))) mNext)
  (mSeq (mAsg (mBin addUD (mBin ixUD (mVar 0) (mC (.int 1))) (mC (.int 12345))) (mgName 3))
  (mSeq (mAsg (mBin modD (mCB intUD (mCons (mBin addUD (mBin mulUD (mVar 3) (mBin ixUD (mVar 0) (mC (.int 1)))) (mBin ixUD (mVar 0) (mC (.int 2)))) mNil)) (mC (.int 2147483629))) (mgName 4))
  (mRet (mBin modD (mCB intUD (mCons (mBin divD (mVar 4) (mC (.int 256))) mNil)) (mVar 1))))))))
def F__law_draw : Fn := mFnT 5 m__law_draw
def m__law_head : MS :=
  (mSeq (mAsg (mFrz (mSplit (mBin ixUD (mVar 0) (mC (.int 0))) (mC (.str " ")))) (mgName 1))
  (mRet (mFrz (mLst (mCons (mCB intUD (mCons (mBin ixUD (mVar 1) (mC (.int 1))) mNil)) (mCons (mCB intUD (mCons (mBin ixUD (mVar 1) (mC (.int 3))) mNil)) mNil))))))
def F__law_head : Fn := mFnT 2 m__law_head
def m__law_turn : MS :=
  (mSeq (mAsg (mFrz (mSplit (mVar 0) (mC (.str " ")))) (mgName 2))
  (mSeq (mIfS (mBl (mBin eqD (mBin ixUD (mVar 2) (mC (.int 1))) (mC (.str "ring")))) (mRet (mCB tupleD (mCons (mFrz (mBinF catD (mFrz (mLstRg (mRg2 (mC (.int 1)) (mVar 1)))) (mFrz (mLst (mCons (mC (.int 0)) mNil))))) mNil))) mNext)
  (mSeq (mIfS (mBl (mBin eqD (mBin ixUD (mVar 2) (mC (.int 1))) (mC (.str "over")))) (mRet (mCB tupleD (mCons (mFrz (mLc (miRng1 (mCons (mVar 1) mNil)) (mgName 3) (fun _ h => .ok true h) (mBin subD (mBin subD (mVar 1) (mC (.int 1))) (mVar 3)) [3])) mNil))) mNext)
  (mRet (mCB tupleD (mCons (mFrz (mLc (miU (mFrz (mSlL (mVar 2) (mPart (mC (.int 1))) mNoPart))) (mgName 4) (fun _ h => .ok true h) (mCB intUD (mCons (mVar 4) mNil)) [4])) mNil))))))
def F__law_turn : Fn := mFnT 5 m__law_turn
def m_is_between : MS :=
  (mRet (mAnd (mCallP 1 F_is_integer (mCons (mVar 0) mNil)) (mChain (cmpD fun i j => decide (i ≤ j)) (cmpD fun i j => decide (i ≤ j)) (mVar 1) (mVar 0) (mVar 2))))
def F_is_between : Fn := mFnT 3 m_is_between
def m_turn_in : MS :=
  (mSeq (mAsg (mIf (mTru (mCB isiD (mCons (mVar 0) (mCons (mC (.ty "str")) mNil)))) (mFrz (mSplit (mVar 0) (mC (.str " ")))) (mFrz (mLst (mCons (mC (.str "")) mNil)))) (mgName 2))
  (mSeq (mIfS (mBl (mBin neD (mBin ixUD (mVar 2) (mC (.int 0))) (mC (.str "turn")))) (mRet (mC .non)) mNext)
  (mSeq (mIfS (mBl (mBin eqD (mVar 2) (mFrz (mLst (mCons (mC (.str "turn")) (mCons (mC (.str "ring")) mNil)))))) (mRet (mCB tupleD (mCons (mFrz (mLc (miRng1 (mCons (mVar 1) mNil)) (mgName 4) (fun _ h => .ok true h) (mBin modD (mBin addUD (mVar 4) (mC (.int 1))) (mVar 1)) [4])) mNil))) mNext)
  (mSeq (mIfS (mBl (mBin eqD (mVar 2) (mFrz (mLst (mCons (mC (.str "turn")) (mCons (mC (.str "over")) mNil)))))) (mRet (mRevT (mTupRg (mRg1 (mVar 1))))) mNext)
  (mSeq (mAsg (mFrz (mLc (miU (mFrz (mSlL (mVar 2) (mPart (mC (.int 1))) mNoPart))) (mgName 5) (fun _ h => .ok true h) (mCallP 1 F_number_in (mCons (mVar 5) mNil)) [5])) (mgName 3))
  (mSeq (mIfS (mOrT (mBl (mBin (inUD false) (mC .non) (mVar 3))) (mBl (mBin neD (mFrz (mCBF sortedUD (mCons (mVar 3) mNil))) (mFrz (mLstRg (mRg1 (mVar 1))))))) (mRet (mC .non)) mNext)
  (mRet (mCB tupleD (mCons (mVar 3) mNil)))))))))
def F_turn_in : Fn := mFnT 6 m_turn_in
def m_alike_to : MS :=
  (mRet (mFrz (mCBF listUD (mCons (mDicF (mCm (miU (mVar 2)) (mgName 3) (fun _ h => .ok true h) (ac2 (miRng1 (mCons (mVar 1) mNil)) (mgName 4) (fun _ h => .ok true h) (acD (mCallP 3 F_shifted (mCons (mCallP 2 F_behind_turn (mCons (mVar 0) (mCons (mVar 3) mNil))) (mCons (mVar 4) (mCons (mVar 1) mNil)))) (mC (.bl true))) [4]) [] [3, 4])) mNil))))
def F_alike_to : Fn := mFnT 5 m_alike_to
def m__law_of : MS :=
  (mRet (mBin ixUD (mVar 1) (mCall 2 F__law_draw (mCons (mVar 0) (mCons (mCB lenUD (mCons (mVar 1) mNil)) mNil)))))
def F__law_of : Fn := mFnT 2 m__law_of
def b__law_group_1 : MS :=
  (mSeq (mAsg (mCB tupleD (mCons (mFrz (mLc (miRng1 (mCons (mVar 1) mNil)) (mgName 11) (fun _ h => .ok true h) (mBin ixUD (mVar 8) (mBin ixUD (mVar 7) (mVar 11))) [11])) mNil)) (mgName 9))
  (mIfS (mBl (mBin (inUD true) (mVar 9) (mVar 3))) (mSeq (mDrop (mMethT isLoc appendD (mVar 3) (mCons (mVar 9) mNil)))
  (mDrop (mMethT isLoc appendD (mVar 6) (mCons (mVar 9) mNil)))) mNext))
def b__law_group_2 : MS :=
  (mSeq (mAsg (mOwn (mLst mNil)) (mgName 6))
  (mSeq (mFor (miU (mVar 4)) (mgName 7) (mFor (miU (mVar 2)) (mgName 8) b__law_group_1))
  (mSeq (mIfS (mBl (mBin eqD (mVar 6) (mFrz (mLst mNil)))) (mRet (mFrz (mCBF sortedUD (mCons (mVar 3) mNil)))) mNext)
  (mAsg (mVar 6) (mgName 4)))))
def m__law_group : MS :=
  (mSeq (mAsg (mBin ixUD (mCallP 1 F__law_head (mCons (mVar 0) mNil)) (mC (.int 0))) (mgName 1))
  (mSeq (mAsg (mFrz (mLc (miU (mFrz (mSlL (mVar 0) (mPart (mC (.int 1))) mNoPart))) (mgName 10) (fun _ h => .ok true h) (mCallP 2 F__law_turn (mCons (mVar 10) (mCons (mVar 1) mNil))) [10])) (mgName 2))
  (mSeq (mPar 3 4 (mCons (mOwn (mLst (mCons (mTupRg (mRg1 (mVar 1))) mNil))) (mCons (mFrz (mLst (mCons (mTupRg (mRg1 (mVar 1))) mNil))) mNil)))
  (mSeq (mFor (miRng1 (mCons (mC (.int 720)) mNil)) (mgName 5) b__law_group_2)
  (mRet (mFrz (mCBF sortedUD (mCons (mVar 3) mNil))))))))
def F__law_group : Fn := mFnT 12 m__law_group
def m_head_in : MS :=
  (mSeq (mAsg (mIf (mTru (mCB isiD (mCons (mVar 0) (mCons (mC (.ty "str")) mNil)))) (mFrz (mSplit (mVar 0) (mC (.str " ")))) (mFrz (mLst mNil))) (mgName 1))
  (mSeq (mIfS (mOrT (mBl (mBin neD (mCB lenUD (mCons (mVar 1) mNil)) (mC (.int 4)))) (mOrT (mBl (mBin neD (mBin ixUD (mVar 1) (mC (.int 0))) (mC (.str "dials")))) (mBl (mBin neD (mBin ixUD (mVar 1) (mC (.int 2))) (mC (.str "marks")))))) (mRet (mC .non)) mNext)
  (mSeq (mPar 2 3 (mCons (mCallP 1 F_number_in (mCons (mBin ixUD (mVar 1) (mC (.int 1))) mNil)) (mCons (mCallP 1 F_number_in (mCons (mBin ixUD (mVar 1) (mC (.int 3))) mNil)) mNil)))
  (mSeq (mIfS (mOrT (mNotT (mTru (mCallP 3 F_is_between (mCons (mVar 2) (mCons (mC (.int 1)) (mCons (mC (.int 6)) mNil)))))) (mNotT (mTru (mCallP 3 F_is_between (mCons (mVar 3) (mCons (mC (.int 2)) (mCons (mC (.int 9)) mNil))))))) (mRet (mC .non)) mNext)
  (mRet (mIf (mBl (mBin (cmpD fun i j => decide (i ≤ j)) (mCallP 2 F_power_of (mCons (mVar 3) (mCons (mBin subD (mVar 2) (mC (.int 1))) mNil))) (mC (.int 32)))) (mTup (mCons (mVar 2) (mCons (mVar 3) mNil))) (mC .non)))))))
def F_head_in : Fn := mFnT 4 m_head_in
def m_sweep : MS :=
  (mSeq (mAsg mDNew (mgName 3))
  (mSeq (mFor (miU (mCallP 2 F_all_standings (mCons (mVar 0) (mCons (mVar 1) mNil)))) (mgName 4) (mIfS (mBl (mBin (inUD true) (mVar 4) (mVar 3))) (mFor (miU (mCallP 3 F_alike_to (mCons (mVar 4) (mCons (mVar 1) (mCons (mVar 2) mNil))))) (mgName 5) (mAsg (mVar 4) (mgSubU (mVar 3) (mVar 5)))) mNext))
  (mRet (mVar 3))))
def F_sweep : Fn := mFnT 6 m_sweep
def b__law_rows_1 : MS :=
  (mSeq (mPar 7 8 (mCons (mOwn (mLstRg (mRg1 (mVar 2)))) (mCons (mOwn (mLst mNil)) mNil)))
  (mSeq (mFor (miRng1 (mCons (mVar 2) mNil)) (mgName 9) (mDrop (mMethT isLoc appendD (mVar 8) (mCons (mMethT isLoc popAtD (mVar 7) (mCons (mCall 2 F__law_draw (mCons (mVar 0) (mCons (mCB lenUD (mCons (mVar 7) mNil)) mNil))) mNil)) mNil))))
  (mDrop (mMethT isLoc appendD (mVar 4) (mCons (mBin addUD (mC (.str "turn ")) (mJoin (mC (.str " ")) (mFrz (mLc (miU (mVar 8)) (mgName 10) (fun _ h => .ok true h) (mCB strD (mCons (mVar 10) mNil)) [10])))) mNil)))))
def m__law_rows : MS :=
  (mSeq (mAsg (mFrz (mLst (mCons (mTup (mCons (mC (.int 2)) (mCons (mC (.int 2)) mNil))) (mCons (mTup (mCons (mC (.int 2)) (mCons (mC (.int 3)) mNil))) (mCons (mTup (mCons (mC (.int 2)) (mCons (mC (.int 4)) mNil))) (mCons (mTup (mCons (mC (.int 2)) (mCons (mC (.int 6)) mNil))) (mCons (mTup (mCons (mC (.int 3)) (mCons (mC (.int 2)) mNil))) (mCons (mTup (mCons (mC (.int 3)) (mCons (mC (.int 2)) mNil))) (mCons (mTup (mCons (mC (.int 3)) (mCons (mC (.int 3)) mNil))) (mCons (mTup (mCons (mC (.int 3)) (mCons (mC (.int 4)) mNil))) (mCons (mTup (mCons (mC (.int 4)) (mCons (mC (.int 2)) mNil))) (mCons (mTup (mCons (mC (.int 4)) (mCons (mC (.int 2)) mNil))) (mCons (mTup (mCons (mC (.int 4)) (mCons (mC (.int 3)) mNil))) (mCons (mTup (mCons (mC (.int 5)) (mCons (mC (.int 2)) mNil))) (mCons (mTup (mCons (mC (.int 1)) (mCons (mC (.int 4)) mNil))) mNil))))))))))))))) (mgName 1))
  (mSeq (mAsg (mCall 2 F__law_of (mCons (mVar 0) (mCons (mVar 1) mNil))) (mgSeq 2 (mgCons (mgName 2) (mgCons (mgName 3) mgNil))))
  (mSeq (mAsg (mOwn (mLst (mCons (mBin addUD (mBin addUD (mBin addUD (mC (.str "dials ")) (mCB strD (mCons (mVar 2) mNil))) (mC (.str " marks "))) (mCB strD (mCons (mVar 3) mNil))) mNil))) (mgName 4))
  (mSeq (mAsg (mCall 2 F__law_draw (mCons (mVar 0) (mCons (mC (.int 8)) mNil))) (mgName 5))
  (mSeq (mIfS (mBl (mBin (inUD false) (mVar 5) (mFrz (mLst (mCons (mC (.int 0)) (mCons (mC (.int 1)) (mCons (mC (.int 2)) mNil))))))) (mDrop (mMethT isLoc appendD (mVar 4) (mCons (mC (.str "turn ring")) mNil))) mNext)
  (mSeq (mIfS (mBl (mBin (inUD false) (mVar 5) (mFrz (mLst (mCons (mC (.int 2)) (mCons (mC (.int 3)) mNil)))))) (mDrop (mMethT isLoc appendD (mVar 4) (mCons (mC (.str "turn over")) mNil))) mNext)
  (mSeq (mIfS (mBl (mBin (inUD false) (mVar 5) (mFrz (mLst (mCons (mC (.int 4)) (mCons (mC (.int 5)) mNil)))))) (mFor (miRng1 (mCons (mBin subD (mVar 5) (mC (.int 3))) mNil)) (mgName 6) b__law_rows_1) mNext)
  (mRet (mVar 4)))))))))
def F__law_rows : Fn := mFnT 11 m__law_rows
def m_wrong_rows : MS :=
  (mSeq (mIfS (mNotT (mBl (mChain (cmpD fun i j => decide (i ≤ j)) (cmpD fun i j => decide (i ≤ j)) (mC (.int 1)) (mCB lenUD (mCons (mVar 0) mNil)) (mBin addUD (mC (.int 3)) (mC (.int 1)))))) (mRet (mTup (mCons (mC .non) mNil))) mNext)
  (mSeq (mAsg (mCallP 1 F_head_in (mCons (mBin ixUD (mVar 0) (mC (.int 0))) mNil)) (mgName 1))
  (mSeq (mIfS (mBl (mBin (isND false) (mVar 1) (mC .non))) (mRet (mTup (mCons (mC (.int 0)) mNil))) mNext)
  (mSeq (mFor (miEnum (mCons (mVar 0) mNil)) (mgSeq 2 (mgCons (mgName 2) (mgCons (mgName 3) mgNil))) (mIfS (mAndT (mBl (mBin (cmpD fun i j => decide (j < i)) (mVar 2) (mC (.int 0)))) (mBl (mBin (isND false) (mCallP 2 F_turn_in (mCons (mVar 3) (mCons (mBin ixUD (mVar 1) (mC (.int 0))) mNil))) (mC .non)))) (mRet (mTup (mCons (mVar 2) mNil))) mNext))
  (mRet (mTup mNil))))))
def F_wrong_rows : Fn := mFnT 4 m_wrong_rows
def m_Table___init__ : MS :=
  (mSeq (mAsg (mCallP 1 F_wrong_rows (mCons (mVar 1) mNil)) (mgName 2))
  (mSeq (mIfS (mTru (mVar 2)) (fun _ _ => .bad) mNext)
  (mSeq (mAsg (mVar 1) (mgFld "Table" "told" (mVar 0)))
  (mSeq (mAsg (mCallP 1 F_head_in (mCons (mBin ixUD (mVar 1) (mC (.int 0))) mNil)) (mgSeq 2 (mgCons (mgFld "Table" "many" (mVar 0)) (mgCons (mgFld "Table" "size" (mVar 0)) mgNil))))
  (mSeq (mAsg (mCallP 2 F_all_turns (mCons (mUn (attrD "Table" "many") (mVar 0)) (mCons (mFrz (mLc (miU (mSlU (mVar 1) (mPart (mC (.int 1))) mNoPart)) (mgName 4) (fun _ h => .ok true h) (mCallP 2 F_turn_in (mCons (mVar 4) (mCons (mUn (attrD "Table" "many") (mVar 0)) mNil))) [4])) mNil))) (mgFld "Table" "group" (mVar 0)))
  (mSeq (mAsg (mCallP 3 F_sweep (mCons (mUn (attrD "Table" "many") (mVar 0)) (mCons (mUn (attrD "Table" "size") (mVar 0)) (mCons (mUn (attrD "Table" "group") (mVar 0)) mNil)))) (mgFld "Table" "known" (mVar 0)))
  (mSeq (mAsg (mBin mulUD (mTup (mCons (mC (.int 0)) mNil)) (mUn (attrD "Table" "many") (mVar 0))) (mgName 3))
  (mAsg (mCB tupleD (mCons (mFrz (mSortS (mCm (miU (mUn (attrD "Table" "known") (mVar 0))) (mgName 5) (mBl (mBin neD (mBin ixUD (mUn (attrD "Table" "known") (mVar 0)) (mVar 5)) (mVar 3))) (acS (mBin ixUD (mUn (attrD "Table" "known") (mVar 0)) (mVar 5))) [] [5]))) mNil)) (mgFld "Table" "swept" (mVar 0))))))))))
def F_Table___init__ : Fn := mFnT 6 m_Table___init__
def m_Table_read : MS :=
  (mSeq (mAsg (mIf (mTru (mCB isiD (mCons (mVar 1) (mCons (mC (.ty "str")) mNil)))) (mFrz (mSplit (mVar 1) (mC (.str "
")))) (mFrz (mLst mNil))) (mgName 2))
  (mSeq (mIfS (mTru (mCallP 1 F_wrong_rows (mCons (mVar 2) mNil))) (fun _ _ => .bad) mNext)
  (mRet (mMakeS "Table" F_Table___init__ (mVar 2)))))
def F_Table_read : Fn := mFnT 3 m_Table_read
def m__law_made : MS :=
  (mRet (mCm2 "Table" 1 F_Table_read (mCons (mJoin (mC (.str "
")) (mVar 0)) mNil)))
def F__law_made : Fn := mFnT 1 m__law_made
end Tb

/-! What the table's defs compute, in plain lists. -/
namespace Ab
open PySem PySem.Spec L2
section
variable {γ σ : Type} {h h' : AH} {env : En} {d : D} {ds : List D} {n k : Nat}
theorem for_fold {g : MG} {p : MS} (mk : γ → D) (step : σ → γ → σ) (S : σ → En → AH → Prop) : ∀ {xs : List γ} {s : σ} {env : En} {h : AH}, S s env h → (∀ x ∈ xs, ∀ s env h, S s env h → ∃ env1 h1 env' h', g (mk x) env h = .ok env1 h1 ∧ p env1 h1 = .nx env' h' ∧ S (step s x) env' h') →
    ∃ env' h', forItems g p (xs.map mk) env h = .nx env' h' ∧ S (xs.foldl step s) env' h'
  | [], s, env, h, h0, _ => ⟨env, h, rfl, h0⟩
  | x :: xs, s, env, h, h0, st => by
    obtain ⟨env1, h1, env2, h2, e1, e2, i2⟩ := st x (List.mem_cons_self ..) s env h h0
    obtain ⟨env3, h3, e3, i3⟩ := for_fold mk step S (xs := xs) i2 fun y hy => st y (List.mem_cons_of_mem _ hy)
    exact ⟨env3, h3, by rw [List.map_cons, for_cons, e1]; simp [e2, e3], i3⟩
theorem lc_mapF {g : MG} {e : M D} (mk f : γ → D) : ∀ {xs : List γ}, (∀ x ∈ xs, ∃ env1, g (mk x) env h = .ok env1 h ∧ e env1 h = .ok (f x) h) → lcItems g (fun _ h => .ok true h) e env (xs.map mk) h = .ok (xs.map f) h
  | [], _ => rfl
  | d :: ds, st => by
    obtain ⟨env1, e1, e2⟩ := st d (List.mem_cons_self ..)
    have ih := lc_mapF mk f (xs := ds) fun x hx => st x (List.mem_cons_of_mem _ hx)
    rw [List.map_cons, lc_cons, e1]
    simp [e2, ih]
theorem lc_mapG {δ : Type} {g : MG} {e : M D} (mk : γ → D) (f : γ → δ) (mk2 : δ → D) {xs : List γ} (st : ∀ x ∈ xs, ∃ env1, g (mk x) env h = .ok env1 h ∧ e env1 h = .ok (mk2 (f x)) h) : lcItems g (fun _ h => .ok true h) e env (xs.map mk) h = .ok ((xs.map f).map mk2) h := by
  rw [lc_mapF mk (fun x => mk2 (f x)) st, List.map_map]; rfl
theorem x_cut (hd : below 0 d = true) : exitD 0 d h = .ok d [] := by
  unfold exitD
  simp [hd]
theorem small_line {m : Nat} (h : m ≤ 1000000) : m ≤ sizeLine := Nat.le_trans h (by decide)
abbrev rngI (n : Nat) : List Int := (List.range n).map fun i => ((i : Nat) : Int)
theorem rngD_I (n : Nat) : rngD 0 (n : Int) = (rngI n).map D.int := by simp [rngD, rngI, Function.comp_def]
end
end Ab
namespace Tb
open PySem PySem.Spec L2 Ab
def shiftP (xs : List Int) (b m : Int) : List Int := xs.map fun x => (x + b) % m
/-- found[target] = places[place] -/
def behindP (p t : List Int) : List Int := (t.zipIdx).foldl (fun f q => f.set q.1.toNat (p.getD q.2 0)) p
theorem behindP_len (p t : List Int) : (behindP p t).length = p.length := by
  have : ∀ (l : List (Int × Nat)) (f : List Int), (l.foldl (fun f q => f.set q.1.toNat (p.getD q.2 0)) f).length = f.length := by
    intro l
    induction l with
    | nil => intro f; rfl
    | cons a l ih => intro f; rw [List.foldl_cons, ih, List.length_set]
  exact this _ _
end Tb

/-! Turns, in plain lists of whole numbers: composing, reaching, how many there are. -/
namespace Pl
open Ab
/-- t behind x: (t[x[0]], t[x[1]], ..) -/
def comp (t x : List Int) : List Int := x.map fun i => t.getD i.toNat 0
abbrev rngI (n : Nat) : List Int := (List.range n).map fun i => ((i : Nat) : Int)
structure IsT (n : Nat) (x : List Int) : Prop where
  len : x.length = n
  rng : ∀ i ∈ x, 0 ≤ i ∧ i < n
  nod : x.Nodup
theorem nodup_map {α β : Type} {f : α → β} : ∀ {l : List α}, l.Nodup → (∀ a ∈ l, ∀ b ∈ l, f a = f b → a = b) → (l.map f).Nodup
  | [], _, _ => List.nodup_nil
  | a :: l, h, inj => by
    rw [List.nodup_cons] at h
    rw [List.map_cons, List.nodup_cons]
    refine ⟨fun m => ?_, nodup_map h.2 fun a ha b hb => inj a (List.mem_cons_of_mem _ ha) b (List.mem_cons_of_mem _ hb)⟩
    obtain ⟨b, hb, e⟩ := List.mem_map.mp m
    have := inj b (List.mem_cons_of_mem _ hb) a (List.mem_cons_self ..) e
    exact h.1 (this ▸ hb)
theorem getD_mem {x : List Int} {j : Nat} (hj : j < x.length) : x.getD j 0 ∈ x := by
  rw [List.getD_eq_getElem?_getD, List.getElem?_eq_getElem hj]
  exact List.getElem_mem hj
theorem getD_inj {x : List Int} (h : x.Nodup) {i j : Nat} (hi : i < x.length) (hj : j < x.length) (e : x.getD i 0 = x.getD j 0) : i = j := by
  rw [List.getD_eq_getElem?_getD, List.getD_eq_getElem?_getD, List.getElem?_eq_getElem hi, List.getElem?_eq_getElem hj] at e
  have e : x[i] = x[j] := e
  rcases Nat.lt_trichotomy i j with q | q | q
  · exact absurd e ((List.pairwise_iff_getElem.mp h) i j hi hj q)
  · exact q
  · exact absurd e.symm ((List.pairwise_iff_getElem.mp h) j i hj hi q)
theorem isT_id (n : Nat) : IsT n (rngI n) := by
  refine ⟨by simp, fun i hi => ?_, nodup_map List.nodup_range fun a _ b _ e => by omega⟩
  obtain ⟨k, hk, rfl⟩ := List.mem_map.mp hi
  have := List.mem_range.mp hk
  omega
theorem isT_comp {n : Nat} {t x : List Int} (ht : IsT n t) (hx : IsT n x) : IsT n (comp t x) := by
  refine ⟨by simp [comp, hx.len], fun i hi => ?_, nodup_map hx.nod fun a ha b hb e => ?_⟩
  · obtain ⟨k, hk, rfl⟩ := List.mem_map.mp hi
    have := hx.rng k hk
    exact ht.rng _ (getD_mem (by rw [ht.len]; omega))
  · have h1 := hx.rng a ha
    have h2 := hx.rng b hb
    have := getD_inj ht.nod (i := a.toNat) (j := b.toNat) (by rw [ht.len]; omega) (by rw [ht.len]; omega) e
    omega
/-- all rows of k numbers below n -/
def seqs (n : Nat) : Nat → List (List Int)
  | 0 => [[]]
  | k + 1 => (rngI n).flatMap fun i => (seqs n k).map (i :: ·)
def nodB : List Int → Bool
  | [] => true
  | a :: l => !(l.any fun b => decide (a = b)) && nodB l
def perms (n : Nat) : List (List Int) := (seqs n n).filter nodB
theorem nodup_le {α : Type} [DecidableEq α] : ∀ {l p : List α}, l.Nodup → (∀ x ∈ l, x ∈ p) → l.length ≤ p.length
  | [], _, _, _ => Nat.zero_le _
  | a :: l, p, h, s => by
    rw [List.nodup_cons] at h
    have ha := s a (List.mem_cons_self ..)
    have ih := nodup_le (l := l) (p := p.erase a) h.2 fun x hx => by
      have : x ≠ a := fun e => h.1 (e ▸ hx)
      exact (List.mem_erase_of_ne this).mpr (s x (List.mem_cons_of_mem _ hx))
    rw [List.length_erase_of_mem ha] at ih
    have : 0 < p.length := List.length_pos_of_mem ha
    simp only [List.length_cons]
    omega
/-- what the told turns reach -/
inductive Reach (n : Nat) (told : List (List Int)) : List Int → Prop
  | id : Reach n told (rngI n)
  | step {x t : List Int} : Reach n told x → t ∈ told → Reach n told (comp t x)
theorem Reach.isT {n : Nat} {told : List (List Int)} (h : ∀ t ∈ told, IsT n t) {x : List Int} (r : Reach n told x) : IsT n x := by
  induction r with
  | id => exact isT_id n
  | step _ ht ih => exact isT_comp (h _ ht) ih
/-- all of them, each once -/
structure Closure (n : Nat) (told L : List (List Int)) : Prop where
  nod : L.Nodup
  id : rngI n ∈ L
  rch : ∀ x ∈ L, Reach n told x
  cls : ∀ x ∈ L, ∀ t ∈ told, comp t x ∈ L
theorem Closure.all {n : Nat} {told L : List (List Int)} (c : Closure n told L) {x : List Int} (r : Reach n told x) : x ∈ L := by
  induction r with
  | id => exact c.id
  | step _ ht ih => exact c.cls _ ih _ ht
end Pl

namespace Ab
open PySem PySem.Spec L2
/-! dicts of tuples, lists of tuples -/
section
variable {h : AH} {n : Nat} {v : D} {F : List (List Int)} {x : List Int} {neg : Bool}
def dctK (F : List (List Int)) (v : D) : List (List Key × D) := F.map fun x => (kI x, v)
theorem dctK_get : (fGet (dctK F v) (kI x)).isSome = decide (x ∈ F) := by
  rw [fGet_is]
  unfold dctK
  induction F with
  | nil => simp
  | cons y F ih =>
    simp only [List.map_cons, List.find?_cons]
    by_cases e : y = x
    · subst e; simp
    · have ne : kI y ≠ kI x := fun z => e (kI_inj z)
      have ne2 : ¬ x = y := fun z => e z.symm
      simp only [ne, decide_false]
      rw [show decide (x ∈ y :: F) = decide (x ∈ F) by simp [ne2]]
      exact ih
theorem dctK_put (e : x ∉ F) : fPut (dctK F v) (kI x) v = dctK (F ++ [x]) v := by
  rw [fPut_is, if_neg]
  · simp [dctK]
  · intro z
    obtain ⟨p, hp, q⟩ := List.any_eq_true.mp z
    obtain ⟨y, hy, rfl⟩ := List.mem_map.mp hp
    exact e (kI_inj (of_decide_eq_true q) ▸ hy)
end
end Ab
namespace Tb
open PySem PySem.Spec L2 Ab Pl
section
variable {n : Nat} {told : List (List Int)}
/-- what the search for turns keeps -/
structure Grow (n : Nat) (told F W : List (List Int)) (first : List Int) (k : Nat) : Prop where
  nod : F.Nodup
  wn : W.Nodup
  id : Pl.rngI n ∈ F
  rch : ∀ x ∈ F, Reach n told x
  wf : ∀ x ∈ W, x ∈ F
  ff : first ∈ F
  cls : ∀ x ∈ F, x ∈ W ∨ (∀ t ∈ told, comp t x ∈ F) ∨ (x = first ∧ ∀ t ∈ told.take k, comp t x ∈ F)
theorem Grow.step {F W : List (List Int)} {first t : List Int} {k : Nat} (g : Grow n told F W first k) (ek : told[k]? = some t) : Grow n told (if comp t first ∈ F then F else F ++ [comp t first]) (if comp t first ∈ F then W else W ++ [comp t first]) first (k + 1) := by
  have mt : t ∈ told := List.mem_of_getElem? ek
  have sub : ∀ x ∈ F, x ∈ (if comp t first ∈ F then F else F ++ [comp t first]) := fun x hx => by
    split
    · exact hx
    · exact List.mem_append_left _ hx
  have cin : comp t first ∈ (if comp t first ∈ F then F else F ++ [comp t first]) := by
    split
    · assumption
    · simp
  have tk : told.take (k + 1) = told.take k ++ [t] := by rw [List.take_succ, ek]; rfl
  refine ⟨?_, ?_, sub _ g.id, ?_, ?_, sub _ g.ff, ?_⟩
  · split
    · exact g.nod
    · rename_i q
      rw [List.nodup_append]
      exact ⟨g.nod, List.nodup_cons.mpr ⟨List.not_mem_nil, List.nodup_nil⟩, fun a ha b hb e => by cases List.mem_singleton.mp hb; exact q (e ▸ ha)⟩
  · split
    · exact g.wn
    · rename_i q
      rw [List.nodup_append]
      exact ⟨g.wn, List.nodup_cons.mpr ⟨List.not_mem_nil, List.nodup_nil⟩, fun a ha b hb e => by cases List.mem_singleton.mp hb; exact q (e ▸ g.wf a ha)⟩
  · intro x hx
    split at hx
    · exact g.rch x hx
    · rcases List.mem_append.mp hx with hx | hx
      · exact g.rch x hx
      · rw [List.mem_singleton.mp hx]; exact .step (g.rch _ g.ff) mt
  · intro x hx
    split at hx
    · exact sub _ (g.wf x hx)
    · rcases List.mem_append.mp hx with hx | hx
      · exact sub _ (g.wf x hx)
      · rw [List.mem_singleton.mp hx]; exact cin
  · intro x hx
    have old : x ∈ F → x ∈ (if comp t first ∈ F then W else W ++ [comp t first]) ∨ (∀ t' ∈ told, comp t' x ∈ (if comp t first ∈ F then F else F ++ [comp t first])) ∨ (x = first ∧ ∀ t' ∈ told.take (k + 1), comp t' x ∈ (if comp t first ∈ F then F else F ++ [comp t first])) := fun hx => by
      rcases g.cls x hx with a | a | ⟨a, b⟩
      · refine .inl ?_
        split
        · exact a
        · exact List.mem_append_left _ a
      · exact .inr (.inl fun t' ht' => sub _ (a t' ht'))
      · refine .inr (.inr ⟨a, fun t' ht' => ?_⟩)
        rw [tk] at ht'
        rcases List.mem_append.mp ht' with h | h
        · exact sub _ (b t' h)
        · rw [List.mem_singleton.mp h, a]; exact cin
    by_cases q : comp t first ∈ F
    · rw [if_pos q] at hx; exact old hx
    · rw [if_neg q] at hx
      rcases List.mem_append.mp hx with h | h
      · exact old h
      · refine .inl ?_
        rw [if_neg q, List.mem_singleton.mp h]; simp
abbrev turnE (n : Nat) (told : List (List Int)) (first : List Int) (x5 x6 x7 : Option D) : En := [some (.int n), some (.lst (told.map tupI)), some (.loc 0), some (.loc 1), some (tupI first), x5, x6, x7]
abbrev turnH (F W : List (List Int)) : AH := [.dct (dctK F (.bl true)), .lst (W.map tupI)]
end
end Tb

namespace Tb
open PySem PySem.Spec L2 Ab Pl
section
variable {n : Nat} {told : List (List Int)} {rows : D} {l : Nat} {h : AH}
/-- the law's search: what has been found stands at 0, the next layer at l -/
structure St (l : Nat) (h0 : AH) (F Z : List (List Int)) (h : AH) : Prop where
  a : h[0]? = some (.lst (F.map tupI))
  b : h[l]? = some (.lst (Z.map tupI))
  len : h.length = h0.length
  old : ∀ i, i ≠ 0 → i ≠ l → h[i]? = h0[i]?
abbrev grpE (rows : D) (n : Nat) (told : List (List Int)) (lay : D) (l : Nat) (x5 : Option D) (first : List Int) (x8 x9 x10 x11 : Option D) : En := [some rows, some (.int n), some (.lst (told.map tupI)), some (.loc 0), some lay, x5, some (.loc l), some (tupI first), x8, x9, x10, x11]
theorem toPyL_ints : ∀ ns : List Int, toPyL (ns.map D.int) = some (ns.map PyData.int)
  | [] => rfl
  | a :: ns => by
    show (match toPy0 (.int a), toPyL (ns.map D.int) with
      | some p, some ps => some (p :: ps)
      | _, _ => none) = _
    rw [toPyL_ints ns]; rfl
theorem toPy0_tupI (x : List Int) : toPy0 (tupI x) = some (tupP x) := by
  show (toPyL (x.map D.int)).map PyData.tuple = _
  rw [toPyL_ints]; rfl
theorem canLay_tupP (x : List Int) : (tupP x).canLay0 = true := by simp [tupP, PyData.canLay0, PySem.W.ke_canLayAll0]
theorem depth_tupP (x : List Int) : (tupP x).depth ≤ 2 := by simp [tupP, PyData.depth, PySem.W.ke_depthAll]
theorem shaped_tupP (x : List Int) : SeqAt.shaped (tupP x) = true := by
  have := depth_tupP x
  simp [SeqAt.shaped, canLay_tupP]; omega
theorem eqvAll_ints : ∀ a b : List Int, PyData.eqvAll (a.map PyData.int) (b.map PyData.int) = decide (a = b)
  | [], [] => by simp [PyData.eqvAll]
  | [], _ :: _ => by simp [PyData.eqvAll]
  | _ :: _, [] => by simp [PyData.eqvAll]
  | x :: a, y :: b => by
    have e : PyData.eqv (.int x) (.int y) = decide (x = y) := by
      simp only [PyData.eqv]
      by_cases q : x = y <;> simp [q]
    simp only [List.map_cons, PyData.eqvAll, eqvAll_ints a b, e]
    by_cases q : x = y <;> by_cases r : a = b <;> simp [q, r]
theorem eqv_tupP (a b : List Int) : PyData.eqv (tupP a) (tupP b) = decide (a = b) := by
  simp only [tupP, PyData.eqv]
  exact eqvAll_ints a b
abbrev grpP : MS := mFor (miU (mVar 2)) (mgName 8) b__law_group_1
abbrev grpE7 (rows : D) (n : Nat) (told : List (List Int)) (lay : D) (x5 : Option D) (x6 x7 x8 x9 x10 x11 : Option D) : En := [some rows, some (.int n), some (.lst (told.map tupI)), some (.loc 0), some lay, x5, x6, x7, x8, x9, x10, x11]
/-- how a layer stands -/
def LayAt (lay : D) (W : List (List Int)) (h : AH) : Prop := lay = .lst (W.map tupI) ∨ ∃ j, lay = .loc j ∧ j ≠ 0 ∧ h[j]? = some (.lst (W.map tupI))
end
end Tb

namespace Tb
open PySem PySem.Spec L2 Ab Pl
inductive All2 {α β : Type} (P : α → β → Prop) : List α → List β → Prop
  | nil : All2 P [] []
  | cons {a : α} {b : β} {l : List α} {k : List β} : P a b → All2 P l k → All2 P (a :: l) (b :: k)
theorem below_strs {n : Nat} : ∀ {ts : List Str}, belowL n (ts.map D.str) = true
  | [] => by simp [belowL]
  | a :: ns => by
    have : belowL n (ns.map D.str) = true := below_strs
    simp only [List.map_cons, belowL, this, Bool.and_true, below]
section
variable {n m : Nat} {h : AH}
/-- a row that tells the turn t, to the program and to the law -/
structure RowF (n : Nat) (r : Str) (t : List Int) : Prop where
  is : IsT n t
  law : F__law_turn [.str r, .int n] [] = .ok (tupI t) []
  prg : F_turn_in [.str r, .int n] [] = .ok (tupI t) []
  len : r.length ≤ 100
  nl : (10 : Nat) ∉ r.cps.toList
  ok : ∀ c ∈ r.cps.toList, c < 1114112
structure HeadF (r : Str) (n m : Nat) : Prop where
  n1 : 1 ≤ n
  n5 : n ≤ 5
  m2 : 2 ≤ m
  m9 : m ≤ 9
  few : m ^ (n - 1) ≤ 32
  law : ∀ ds : List D, F__law_head [.lst (.str r :: ds)] [] = .ok (.lst [.int n, .int m]) []
  prg : F_head_in [.str r] [] = .ok (.tup [.int n, .int m]) []
  len : r.length ≤ 100
  nl : (10 : Nat) ∉ r.cps.toList
  ok : ∀ c ∈ r.cps.toList, c < 1114112
/-- rows of a table: the head, and rows with their turns -/
structure Rows (rs : List Str) (n m : Nat) (told : List (List Int)) : Prop where
  ex : ∃ hd ts, rs = hd :: ts ∧ HeadF hd n m ∧ All2 (RowF n) ts told ∧ ts.length ≤ 3
theorem Rows.n1 {rs : List Str} {told : List (List Int)} (r : Rows rs n m told) : 1 ≤ n := by obtain ⟨_, _, _, a, _⟩ := r.ex; exact a.n1
theorem forall2_mem {α β : Type} {P : α → β → Prop} : ∀ {l : List α} {k : List β}, All2 P l k → ∀ b ∈ k, ∃ a ∈ l, P a b
  | _, _, .nil, b, hb => absurd hb List.not_mem_nil
  | _, _, .cons p r, b, hb => by
    rcases List.mem_cons.mp hb with rfl | hb
    · exact ⟨_, List.mem_cons_self .., p⟩
    · obtain ⟨a, ha, q⟩ := forall2_mem r b hb
      exact ⟨a, List.mem_cons_of_mem _ ha, q⟩
theorem Rows.isT {rs : List Str} {told : List (List Int)} (r : Rows rs n m told) : ∀ t ∈ told, IsT n t := by
  obtain ⟨_, ts, _, _, f, _⟩ := r.ex
  intro t ht
  obtain ⟨_, _, q⟩ := forall2_mem f t ht
  exact q.is
end
end Tb

/-! Standings, alike ones, and the sweep, in plain lists. -/
namespace Pl
open Ab
def shiftP (xs : List Int) (b m : Int) : List Int := xs.map fun x => (x + b) % m
def behindP (p t : List Int) : List Int := (t.zipIdx).foldl (fun f q => f.set q.1.toNat (p.getD q.2 0)) p
def allP (m : Nat) : Nat → List (List Int)
  | 0 => [[]]
  | k + 1 => (allP m k).flatMap fun s => (rngI m).map fun i => s ++ [i]
def dd (acc : List (List Int)) (xs : List (List Int)) : List (List Int) := xs.foldl (fun acc x => if x ∈ acc then acc else acc ++ [x]) acc
def orbit (s : List Int) (m : Nat) (G : List (List Int)) : List (List Int) := G.flatMap fun t => (rngI m).map fun b => shiftP (behindP s t) b m
def alikeP (s : List Int) (m : Nat) (G : List (List Int)) : List (List Int) := dd [] (orbit s m G)
abbrev Asc := List (List Int × List Int)
def putP (A : Asc) (k v : List Int) : Asc := if k ∈ A.map (·.1) then A.map (fun p => if p.1 = k then (p.1, v) else p) else A ++ [(k, v)]
def sweepS (m : Nat) (G : List (List Int)) (A : Asc) (s : List Int) : Asc := if s ∈ A.map (·.1) then A else (alikeP s m G).foldl (fun A o => putP A o s) A
def sweepP (n m : Nat) (G : List (List Int)) : Asc := (allP m n).foldl (sweepS m G) []
/-- a standing -/
structure IsS (n m : Nat) (s : List Int) : Prop where
  len : s.length = n
  rng : ∀ i ∈ s, 0 ≤ i ∧ i < m
section
variable {n m : Nat} {G : List (List Int)} {s x k v : List Int} {A : Asc}
theorem mem_rngI {i : Int} : i ∈ rngI m ↔ 0 ≤ i ∧ i < m := by
  constructor
  · intro h
    obtain ⟨j, hj, rfl⟩ := List.mem_map.mp h
    have := List.mem_range.mp hj
    omega
  · rintro ⟨h1, h2⟩
    exact List.mem_map.mpr ⟨i.toNat, List.mem_range.mpr (by omega), by omega⟩
theorem mem_allP : ∀ {n : Nat} {s : List Int}, s ∈ allP m n ↔ IsS n m s
  | 0, s => by
    constructor
    · intro h
      have : s = [] := by simpa [allP] using h
      subst this; exact ⟨rfl, fun i hi => absurd hi List.not_mem_nil⟩
    · intro h
      have : s = [] := List.length_eq_zero_iff.mp h.len
      subst this; simp [allP]
  | n + 1, s => by
    constructor
    · intro h
      obtain ⟨p, hp, h2⟩ := List.mem_flatMap.mp h
      obtain ⟨i, hi, rfl⟩ := List.mem_map.mp h2
      have ih := mem_allP.mp hp
      refine ⟨by simp [ih.len], fun j hj => ?_⟩
      rcases List.mem_append.mp hj with q | q
      · exact ih.rng j q
      · rw [List.mem_singleton.mp q]; exact mem_rngI.mp hi
    · intro h
      rcases List.eq_nil_or_concat s with rfl | ⟨p, i, rfl⟩
      · exact absurd h.len (by simp)
      · rw [List.concat_eq_append] at h ⊢
        refine List.mem_flatMap.mpr ⟨p, mem_allP.mpr ⟨by have := h.len; simp at this; exact this, fun j hj => h.rng j (by simp [hj])⟩, List.mem_map.mpr ⟨i, mem_rngI.mpr (h.rng i (by simp)), rfl⟩⟩
theorem shift_isS (hm : 0 < m) (h : x.length = n) {b : Int} : IsS n m (shiftP x b m) := by
  refine ⟨by simp [shiftP, h], fun i hi => ?_⟩
  obtain ⟨y, _, rfl⟩ := List.mem_map.mp hi
  exact ⟨Int.emod_nonneg _ (by omega), Int.emod_lt_of_pos _ (by omega)⟩
theorem behindP_len (p t : List Int) : (behindP p t).length = p.length := by
  have : ∀ (l : List (Int × Nat)) (f : List Int), (l.foldl (fun f q => f.set q.1.toNat (p.getD q.2 0)) f).length = f.length := by
    intro l
    induction l with
    | nil => intro f; rfl
    | cons a l ih => intro f; rw [List.foldl_cons, ih, List.length_set]
  exact this _ _
theorem behind_id (h : s.length = n) : behindP s (rngI n) = s := by
  have : ∀ (l : List (Int × Nat)), (∀ q ∈ l, q.1 = (q.2 : Int) ∧ q.2 < s.length) → l.foldl (fun f q => f.set q.1.toNat (s.getD q.2 0)) s = s := by
    intro l
    induction l with
    | nil => intro _; rfl
    | cons a l ih =>
      intro hh
      obtain ⟨h1, h2⟩ := hh a (List.mem_cons_self ..)
      rw [List.foldl_cons]
      have e : s.set a.1.toNat (s.getD a.2 0) = s := by
        rw [h1, Int.toNat_natCast, List.getD_eq_getElem?_getD, List.getElem?_eq_getElem h2]
        exact List.set_getElem_self h2
      rw [e]
      exact ih fun q hq => hh q (List.mem_cons_of_mem _ hq)
  refine this _ fun q hq => ?_
  obtain ⟨h1, h2⟩ := List.mem_zipIdx' hq
  have h1' : q.2 < n := by simpa using h1
  refine ⟨by rw [h2]; simp, by omega⟩
theorem shift_0 (h : IsS n m s) : shiftP s 0 m = s := by
  refine (List.map_congr_left fun x hx => ?_).trans (List.map_id s)
  have := h.rng x hx
  show (x + 0) % (m : Int) = x
  rw [Int.add_zero]; exact Int.emod_eq_of_lt this.1 this.2
theorem shift_shift {b c : Int} : shiftP (shiftP x b m) c m = shiftP x ((b + c) % m) m := by
  unfold shiftP
  rw [List.map_map]
  refine List.map_congr_left fun y _ => ?_
  show ((y + b) % (m : Int) + c) % m = (y + (b + c) % m) % m
  rw [Int.emod_add_emod, Int.add_emod_emod, Int.add_assoc]
/-! keys once -/
theorem dd_mem : ∀ {xs acc : List (List Int)}, x ∈ dd acc xs ↔ x ∈ acc ∨ x ∈ xs
  | [], acc => by simp [dd]
  | y :: xs, acc => by
    show x ∈ dd (if y ∈ acc then acc else acc ++ [y]) xs ↔ _
    rw [dd_mem]
    by_cases q : y ∈ acc
    · rw [if_pos q, List.mem_cons]
      constructor
      · rintro (h | h)
        · exact .inl h
        · exact .inr (.inr h)
      · rintro (h | h | h)
        · exact .inl h
        · exact .inl (h ▸ q)
        · exact .inr h
    · rw [if_neg q, List.mem_append, List.mem_singleton, List.mem_cons, or_assoc]
theorem dd_nodup : ∀ {xs acc : List (List Int)}, acc.Nodup → (dd acc xs).Nodup
  | [], acc, h => h
  | y :: xs, acc, h => by
    show (dd (if y ∈ acc then acc else acc ++ [y]) xs).Nodup
    refine dd_nodup ?_
    split
    · exact h
    · rename_i q
      rw [List.nodup_append]
      exact ⟨h, List.nodup_cons.mpr ⟨List.not_mem_nil, List.nodup_nil⟩, fun a ha b hb e => by cases List.mem_singleton.mp hb; exact q (e ▸ ha)⟩
theorem mem_alike : x ∈ alikeP s m G ↔ ∃ t ∈ G, ∃ b : Int, 0 ≤ b ∧ b < m ∧ x = shiftP (behindP s t) b m := by
  unfold alikeP
  rw [dd_mem]
  constructor
  · rintro (h | h)
    · exact absurd h List.not_mem_nil
    · obtain ⟨t, ht, h2⟩ := List.mem_flatMap.mp h
      obtain ⟨b, hb, rfl⟩ := List.mem_map.mp h2
      exact ⟨t, ht, b, (mem_rngI.mp hb).1, (mem_rngI.mp hb).2, rfl⟩
  · rintro ⟨t, ht, b, h1, h2, rfl⟩
    exact .inr (List.mem_flatMap.mpr ⟨t, ht, List.mem_map.mpr ⟨b, mem_rngI.mpr ⟨h1, h2⟩, rfl⟩⟩)
theorem alike_isS (hm : 0 < m) (hs : s.length = n) (h : x ∈ alikeP s m G) : IsS n m x := by
  obtain ⟨t, _, b, _, _, rfl⟩ := mem_alike.mp h
  exact shift_isS hm (by rw [behindP_len, hs])
theorem alike_self (hm : 0 < m) (h : IsS n m s) (hG : rngI n ∈ G) : s ∈ alikeP s m G :=
  mem_alike.mpr ⟨_, hG, 0, Int.le_refl _, by omega, by rw [behind_id h.len, shift_0 h]⟩
theorem alike_shift (hm : 0 < m) (h : x ∈ alikeP s m G) (c : Int) : shiftP x c m ∈ alikeP s m G := by
  obtain ⟨t, ht, b, h1, h2, rfl⟩ := mem_alike.mp h
  exact mem_alike.mpr ⟨t, ht, (b + c) % m, Int.emod_nonneg _ (by omega), Int.emod_lt_of_pos _ (by omega), shift_shift⟩
/-! what is put -/
theorem put_keys : (putP A k v).map (·.1) = if k ∈ A.map (·.1) then A.map (·.1) else A.map (·.1) ++ [k] := by
  unfold putP
  split
  · rename_i h
    rw [List.map_map]
    refine List.map_congr_left fun p _ => ?_
    show (if p.1 = k then (p.1, v) else p).1 = p.1
    split <;> rfl
  · simp
theorem put_mem_key : x ∈ (putP A k v).map (·.1) ↔ x = k ∨ x ∈ A.map (·.1) := by
  rw [put_keys]
  split
  · rename_i h
    constructor
    · exact .inr
    · rintro (rfl | q)
      · exact h
      · exact q
  · rw [List.mem_append, List.mem_singleton, or_comm]
theorem put_nodup (h : (A.map (·.1)).Nodup) : ((putP A k v).map (·.1)).Nodup := by
  rw [put_keys]
  split
  · exact h
  · rename_i q
    rw [List.nodup_append]
    exact ⟨h, List.nodup_cons.mpr ⟨List.not_mem_nil, List.nodup_nil⟩, fun a ha b hb e => by cases List.mem_singleton.mp hb; exact q (e ▸ ha)⟩
theorem put_vals {p : List Int × List Int} (h : p ∈ putP A k v) : p ∈ A ∨ p.2 = v := by
  unfold putP at h
  split at h
  · obtain ⟨q, hq, rfl⟩ := List.mem_map.mp h
    split
    · exact .inr rfl
    · exact .inl hq
  · rcases List.mem_append.mp h with h | h
    · exact .inl h
    · rw [List.mem_singleton.mp h]; exact .inr rfl
theorem puts_key : ∀ {os : List (List Int)} {A : Asc}, x ∈ (os.foldl (fun A o => putP A o s) A).map (·.1) ↔ x ∈ os ∨ x ∈ A.map (·.1)
  | [], A => by simp
  | o :: os, A => by
    rw [List.foldl_cons, puts_key, put_mem_key, List.mem_cons]
    constructor
    · rintro (h | h | h)
      · exact .inl (.inr h)
      · exact .inl (.inl h)
      · exact .inr h
    · rintro ((h | h) | h)
      · exact .inr (.inl h)
      · exact .inl h
      · exact .inr (.inr h)
theorem puts_nodup : ∀ {os : List (List Int)} {A : Asc}, (A.map (·.1)).Nodup → ((os.foldl (fun A o => putP A o s) A).map (·.1)).Nodup
  | [], A, h => h
  | o :: os, A, h => puts_nodup (os := os) (put_nodup h)
theorem puts_vals : ∀ {os : List (List Int)} {A : Asc} {p : List Int × List Int}, p ∈ os.foldl (fun A o => putP A o s) A → p ∈ A ∨ p.2 = s
  | [], A, p, h => .inl h
  | o :: os, A, p, h => by
    rcases puts_vals (os := os) h with h | h
    · exact put_vals h
    · exact .inr h
/-- what the sweep keeps -/
structure Sw (n m : Nat) (G : List (List Int)) (A : Asc) : Prop where
  nod : (A.map (·.1)).Nodup
  key : ∀ x ∈ A.map (·.1), IsS n m x
  val : ∀ p ∈ A, IsS n m p.2
  shf : ∀ x ∈ A.map (·.1), ∀ c : Int, shiftP x c m ∈ A.map (·.1)
theorem Sw.nil : Sw n m G [] := ⟨List.nodup_nil, fun x h => absurd h List.not_mem_nil, fun x h => absurd h List.not_mem_nil, fun x h => absurd h List.not_mem_nil⟩
theorem Sw.step (hm : 0 < m) (w : Sw n m G A) (hs : IsS n m s) : Sw n m G (sweepS m G A s) := by
  unfold sweepS
  split
  · exact w
  · refine ⟨puts_nodup w.nod, fun x hx => ?_, fun p hp => ?_, fun x hx c => ?_⟩
    · rcases puts_key.mp hx with h | h
      · exact alike_isS hm hs.len h
      · exact w.key x h
    · rcases puts_vals hp with h | h
      · exact w.val p h
      · rw [h]; exact hs
    · rcases puts_key.mp hx with h | h
      · exact puts_key.mpr (.inl (alike_shift hm h c))
      · exact puts_key.mpr (.inr (w.shf x h c))
theorem fold_sw (hm : 0 < m) : ∀ {xs : List (List Int)} {A : Asc}, Sw n m G A → (∀ s ∈ xs, IsS n m s) → Sw n m G (xs.foldl (sweepS m G) A)
  | [], _, w, _ => w
  | s :: xs, _, w, h => fold_sw hm (xs := xs) (w.step hm (h s (List.mem_cons_self ..))) fun y hy => h y (List.mem_cons_of_mem _ hy)
theorem sweep_sw (hm : 0 < m) : Sw n m G (sweepP n m G) := fold_sw hm Sw.nil fun s hs => mem_allP.mp hs
end
end Pl

namespace Ab
open PySem PySem.Spec L2
section
variable {γ δ : Type} {h : AH} {env : En}
theorem dctK_put_old {F : List (List Int)} {v : D} {x : List Int} (e : x ∈ F) : fPut (dctK F v) (kI x) v = dctK F v := by
  rw [fPut_is, if_pos]
  · unfold dctK
    rw [List.map_map]
    refine List.map_congr_left fun y _ => ?_
    show (if kI y = kI x then (kI y, v) else (kI y, v)) = _
    split <;> rfl
  · refine List.any_eq_true.mpr ⟨(kI x, v), List.mem_map.mpr ⟨x, e, rfl⟩, by simp⟩
end
end Ab
namespace Tb
open PySem PySem.Spec L2 Ab
open Pl (IsT IsS Sw Asc allP alikeP sweepP sweepS putP orbit dd)
section
variable {n m : Nat} {h : AH} {G : List (List Int)}
theorem allP_len : ∀ n : Nat, (allP m n).length = m ^ n
  | 0 => rfl
  | n + 1 => by
    have : ∀ l : List (List Int), (l.flatMap fun s => (Pl.rngI m).map fun i => s ++ [i]).length = l.length * m := by
      intro l
      induction l with
      | nil => simp
      | cons a l ih => simp only [List.flatMap_cons, List.length_append, ih, List.length_map, List.length_range, List.length_cons, Nat.succ_mul]; omega
    show ((allP m n).flatMap fun s => (Pl.rngI m).map fun i => s ++ [i]).length = _
    rw [this, allP_len n, Nat.pow_succ]
end
end Tb

namespace Tb
open PySem PySem.Spec L2 Ab
open Pl (IsT IsS Sw Asc allP alikeP sweepP sweepS putP orbit dd)
section
variable {n m : Nat} {h : AH} {G : List (List Int)} {A : Asc} {x k v : List Int}
def dctP (A : Asc) : List (List Key × D) := A.map fun p => (kI p.1, tupI p.2)
theorem dctP_at : ∀ {A : Asc}, (A.map (·.1)).Nodup → ∀ p ∈ A, fGet (dctP A) (kI p.1) = some (tupI p.2)
  | [], _, p, hp => absurd hp List.not_mem_nil
  | q :: A, nd, p, hp => by
    rw [List.map_cons, List.nodup_cons] at nd
    rw [fGet_is]
    unfold dctP
    rw [List.map_cons, List.find?_cons]
    rcases List.mem_cons.mp hp with rfl | hp
    · simp
    · have ne : kI q.1 ≠ kI p.1 := fun z => nd.1 (kI_inj z ▸ List.mem_map.mpr ⟨p, hp, rfl⟩)
      have ih := dctP_at nd.2 p hp
      rw [fGet_is] at ih
      simp only [ne, decide_false]
      exact ih
theorem keys_len (hp : m ^ n ≤ 288) (nd : (A.map (·.1)).Nodup) (ik : ∀ x ∈ A.map (·.1), IsS n m x) : A.length ≤ 288 := by
  have := Pl.nodup_le (p := allP m n) nd fun y hy => Pl.mem_allP.mpr (ik y hy)
  rw [allP_len, List.length_map] at this; omega
/-! rows that are right -/
end
end Tb

namespace Tb
open PySem PySem.Spec L2 Ab
open Pl (IsT IsS Sw Asc allP alikeP sweepP sweepS putP orbit dd Closure)
section
variable {n m : Nat} {h : AH} {G : List (List Int)} {env : En} {d : D} {fs : List (Str × D)} {c f : Str}
abbrev zeroP (n : Nat) : List Int := List.replicate n 0
/-- the kinds of a table, in the order of their coming up -/
def kindsP (n m : Nat) (G : List (List Int)) : List (List Int) := dd [] (((sweepP n m G).map (·.2)).filter fun v => decide (v ≠ zeroP n))
def tblNs : List Str := ["told", "many", "size", "group", "known", "swept"]
def tblD (rs : List Str) (n m : Nat) (G : List (List Int)) : D := .obj "Table" tblNs [.tup (rs.map D.str), .int n, .int m, .tup (G.map tupI), .dic ((sweepP n m G).map fun p => kI p.1) ((sweepP n m G).map fun p => tupI p.2), .tup ((sortT (kindsP n m G)).map tupI)]
theorem mul_zero (h1 : 1 ≤ n) (hn : n ≤ 5) : mulUD (.tup [.int 0]) (.int n) h = .ok (tupI (zeroP n)) h := by
  have : n = 1 ∨ n = 2 ∨ n = 3 ∨ n = 4 ∨ n = 5 := by omega
  rcases this with rfl | rfl | rfl | rfl | rfl <;> rfl
theorem kinds_mem {v : List Int} : v ∈ kindsP n m G ↔ v ∈ (sweepP n m G).map (·.2) ∧ v ≠ zeroP n := by
  unfold kindsP
  rw [Pl.dd_mem, List.mem_filter]
  simp
theorem kinds_isS (hm : 0 < m) {v : List Int} (hv : v ∈ kindsP n m G) : IsS n m v := by
  obtain ⟨p, hp, rfl⟩ := List.mem_map.mp (kinds_mem.mp hv).1
  exact (Pl.sweep_sw hm).val p hp
theorem zip_maps {α β γ : Type} {f : α → β} {g : α → γ} : ∀ l : List α, (l.map f).zip (l.map g) = l.map fun p => (f p, g p)
  | [] => rfl
  | a :: l => by simp [zip_maps l]
end
end Tb

namespace Tb
open PySem PySem.Spec L2 Ab
open Pl (IsT IsS Sw Asc allP alikeP sweepP sweepS putP orbit dd Closure)
theorem below_tupF {α : Type} {n : Nat} (f : α → List Int) : ∀ l : List α, belowL n (l.map fun p => tupI (f p)) = true
  | [] => by simp [belowL]
  | a :: l => by simp only [List.map_cons, belowL, below_tupF f l, below_tupI, Bool.and_true]
section
variable {n m : Nat} {h : AH}
def nlS : Str := "\n"
end
end Tb

namespace Pl
end Pl
namespace Tb
open PySem PySem.Spec L2 Ab
open Pl (IsT IsS perms)
section
variable {n m : Nat} {h : AH}
abbrev strI (i : Int) : Str := toString i
def headS (d m : Int) : Str := (("dials " ++ strI d : Str) ++ (" marks " : Str)) ++ strI m
def rowS (p : List Int) : Str := ("turn " : Str) ++ Txt.join " " (p.map strI)
def spS : Str := " "
def headOk (r : Str) (n m : Nat) : Bool := (match Txt.split r spS with
  | [_, w1, _, w3] => (match intUD [.str w1] [], intUD [.str w3] [] with
    | .ok (.int a) [], .ok (.int b) [] => decide (a = n) && decide (b = m)
    | _, _ => false)
  | _ => false) && ((match F_head_in [.str r] [] with
  | .ok (.tup [.int a, .int b]) [] => decide (a = n) && decide (b = m)
  | _ => false) && (decide (r.length ≤ 100) && (!(r.cps.toList.any fun c => decide (c = 10 ∨ 1114112 ≤ c)) && (decide (1 ≤ n ∧ n ≤ 5 ∧ 2 ≤ m ∧ m ≤ 9) && decide (m ^ (n - 1) ≤ 32)))))
def turnOk (r : R D) (p : List Int) : Bool := match r with
  | .ok (.tup ds) [] => (match intsD ds with
    | some ns => decide (ns = p)
    | none => false)
  | _ => false
def rowOk (n : Nat) (r : Str) (p : List Int) : Bool := turnOk (F__law_turn [.str r, .int n] []) p && (turnOk (F_turn_in [.str r, .int n] []) p && (decide (r.length ≤ 100) && !(r.cps.toList.any fun c => decide (c = 10 ∨ 1114112 ≤ c))))
def ringP (n : Nat) : List Int := (Pl.rngI n).map fun i => (i + 1) % n
def overP (n : Nat) : List Int := (Pl.rngI n).reverse
def menuH : List (Nat × Nat) := [(2, 2), (2, 3), (2, 4), (2, 6), (3, 2), (3, 2), (3, 3), (3, 4), (4, 2), (4, 2), (4, 3), (5, 2), (1, 4)]
end
end Tb

/-! The law's spring, draws and menus. -/
namespace Tb
open PySem PySem.Spec L2 Ab
section
variable {h h' : AH} {n m : Nat} {x y z d : D} {env : En} {a b c k : Int}
theorem uix0 (e : h[n]? = some (.lst [x, y, z])) : ixUD (.loc n) (.int 0) h = .ok x h := by rw [u_ix (by simp [dctD, e])]; exact ix_0 e
theorem uix1 (e : h[n]? = some (.lst [x, y, z])) : ixUD (.loc n) (.int 1) h = .ok y h := by rw [u_ix (by simp [dctD, e])]; exact ix_1 e
theorem uix2 (e : h[n]? = some (.lst [x, y, z])) : ixUD (.loc n) (.int 2) h = .ok z h := by rw [u_ix (by simp [dctD, e])]; exact ix_2 e
theorem ksub0 (e : h[n]? = some (.lst [x, y, z])) : kSubU env d (.loc n) (.int 0) h = .ok env (h.set n (.lst [d, y, z])) := k_SubUL (i := 0) e (by simp)
theorem ksub1 (e : h[n]? = some (.lst [x, y, z])) : kSubU env d (.loc n) (.int 1) h = .ok env (h.set n (.lst [x, d, z])) := k_SubUL (i := 1) e (by simp)
theorem ksub2 (e : h[n]? = some (.lst [x, y, z])) : kSubU env d (.loc n) (.int 2) h = .ok env (h.set n (.lst [x, y, d])) := k_SubUL (i := 2) e (by simp)
theorem draw_run (e : h[n]? = some (.lst [.int a, .int b, .int c])) (ha : 0 ≤ a) (hb : 0 ≤ b) (hb2 : b < 2147483647) (hk : 0 < k) (hk2 : k < 1073741824) :
    ∃ d a' b' c' : Int, F__law_draw [.loc n, .int k] h = .ok (.int d) (h.set n (.lst [.int a', .int b', .int c'])) ∧ 0 ≤ d ∧ d < k ∧ 0 ≤ a' ∧ 0 ≤ b' ∧ b' < 2147483647 := by
  have hn := lt_of_get e
  have m1 : ∀ {h : AH}, mulUD (.int b) (.int 69621) h = .ok (.int (b * 69621)) h := o_mulR (by decide) (by decide)
  have m2 : ∀ {h : AH}, mulUD (.int 40503) (.int (c + 1)) h = .ok (.int (40503 * (c + 1))) h := o_mulL (by decide) (by decide)
  have d1 : ∀ {i : Int} {h : AH}, modD (.int i) (.int 2147483647) h = .ok (.int (i % 2147483647)) h := o_mod (by decide)
  have d2 : ∀ {i : Int} {h : AH}, modD (.int i) (.int 2147483629) h = .ok (.int (i % 2147483629)) h := o_mod (by decide)
  have d3 : ∀ {i : Int} {h : AH}, divD (.int i) (.int 256) h = .ok (.int (i / 256)) h := o_div (by decide) (by decide)
  have d4 : ∀ {i : Int} {h : AH}, modD (.int i) (.int k) h = .ok (.int (i % k)) h := o_mod hk
  have d5 : ∀ {h : AH}, divmodD [.int a, .int k] h = .ok (.tup [.int (a / k), .int (a % k)]) h := o_divmod hk hk2
  have nb := Int.emod_nonneg (b * 69621 + 40503 * (c + 1) + 1) (show (2147483647 : Int) ≠ 0 by decide)
  have lb := Int.emod_lt_of_pos (b * 69621 + 40503 * (c + 1) + 1) (show (0 : Int) < 2147483647 by decide)
  generalize eB : (b * 69621 + 40503 * (c + 1) + 1) % 2147483647 = B at *
  have m3 : ∀ {h : AH}, mulUD (.int (B + 12345)) (.int B) h = .ok (.int ((B + 12345) * B)) h := o_mulR (by omega) (by omega)
  have i2 := uix2 e
  have s1 : ∀ {env : En}, kSubU env (.int (c + 1)) (.loc n) (.int 2) h = .ok env (h.set n (.lst [.int a, .int b, .int (c + 1)])) := ksub2 e
  have e1 : (h.set n (.lst [.int a, .int b, .int (c + 1)]))[n]? = some (.lst [.int a, .int b, .int (c + 1)]) := List.getElem?_set_self hn
  generalize eh1 : h.set n (.lst [.int a, .int b, .int (c + 1)]) = h1 at *
  have s2 : ∀ {env : En}, kSubU env (.int B) (.loc n) (.int 1) h1 = .ok env (h1.set n (.lst [.int a, .int B, .int (c + 1)])) := ksub1 e1
  have e2 : (h1.set n (.lst [.int a, .int B, .int (c + 1)]))[n]? = some (.lst [.int a, .int B, .int (c + 1)]) := List.getElem?_set_self (lt_of_get e1)
  have j1 := uix1 e1
  have j2 := uix2 e1
  generalize eh2 : h1.set n (.lst [.int a, .int B, .int (c + 1)]) = h2 at *
  have q0 := uix0 e2
  have q1 := uix1 e2
  have q2 := uix2 e2
  have l2 : h2.length = h.length := by rw [← eh2, ← eh1]; simp
  have hs : ∀ u : AO, h2.set n u = h.set n u := fun u => by rw [← eh2, ← eh1, List.set_set, List.set_set]
  have s3 : ∀ {env : En} {z : Int}, kSubU env (.int z) (.loc n) (.int 0) h2 = .ok env (h.set n (.lst [.int z, .int B, .int (c + 1)])) := fun {env z} => by rw [ksub0 e2, hs]
  have e2s : h2 = h.set n (.lst [.int a, .int B, .int (c + 1)]) := by rw [← eh2, ← eh1, List.set_set]
  have ei : initE 5 [D.loc n, .int k] = [some (.loc n), some (.int k), none, none, none] := rfl
  by_cases h0 : 0 < a
  · refine ⟨a % k, a / k, B, c + 1, ?_, Int.emod_nonneg _ (by omega), Int.emod_lt_of_pos _ hk, Int.ediv_nonneg ha (by omega), nb, lb⟩
    simp only [F__law_draw, m__law_draw, f_T, ei, e_Seq, e_Asg, e_Bin, e_V0, b_ok, k_Q, e_C, i2, u_add, t_ok, k_Asg, e_SubU, s1, k_Nx, go_nx, e_CB, e_Cons, j1, m1, j2, m2, e_Nil, k_Cons, u_int, d1, eB, s2, e_IfS, e_Bl, q0, o_cmp, h0, decide_true, k_Bl, k_IfS1, e_V1, d5, g_Seq2T, g_Cons, s3, g_Name, g_Nil, List.set_cons_succ, List.set_cons_zero, e_Ret, e_V2, k_Ret, go_rt, r_rt, x_ok]
    exact x_same (by simp) (by simp)
  · refine ⟨((B + 12345) * B + (c + 1)) % 2147483629 / 256 % k, a, B, c + 1, ?_, Int.emod_nonneg _ (by omega), Int.emod_lt_of_pos _ hk, ha, nb, lb⟩
    simp only [F__law_draw, m__law_draw, f_T, ei, e_Seq, e_Asg, e_Bin, e_V0, b_ok, k_Q, e_C, i2, u_add, t_ok, k_Asg, e_SubU, s1, k_Nx, go_nx, e_CB, e_Cons, j1, m1, j2, m2, e_Nil, k_Cons, u_int, d1, eB, s2, e_IfS, e_Bl, q0, o_cmp, h0, decide_false, k_Bl, k_IfS0, e_Next, q1, q2, g_Name, List.set_cons_succ, List.set_cons_zero, e_V3, m3, d2, e_V4, d3, e_V1, d4, e_Ret, k_Ret, r_rt, x_ok]
    rw [← e2s]
    exact x_same l2 (by simp)
theorem draw_ok (s : Sp3 h n) (hk : 0 < k) (hk2 : k < 1073741824) : ∃ (d : Int) (h' : AH), F__law_draw [.loc n, .int k] h = .ok (.int d) h' ∧ 0 ≤ d ∧ d < k ∧ Dr h n h' := by
  obtain ⟨a, b, c, e, ha, hb, hb2⟩ := s
  obtain ⟨d, a', b', c', q, h1, h2, h3, h4, h5⟩ := draw_run e ha hb hb2 hk hk2
  exact ⟨d, _, q, h1, h2, ⟨a', b', c', List.getElem?_set_self (lt_of_get e), h3, h4, h5⟩, List.length_set, fun i hi => List.getElem?_set_ne (Ne.symm hi)⟩
theorem of_ok {ds : List D} (s : Sp3 h n) (hk : 0 < ds.length) (hk2 : ds.length < 1000000) (hp : ∀ x ∈ ds, ∀ m, below m x = true) : ∃ (x : D) (h' : AH), F__law_of [.loc n, .lst ds] h = .ok x h' ∧ x ∈ ds ∧ Dr h n h' := by
  obtain ⟨d, h', e, h1, h2, t⟩ := draw_ok (k := (ds.length : Int)) s (by omega) (by omega)
  obtain ⟨x, ex, mx⟩ := atI_mem (l := ds) h1 (by omega)
  have hx : ixUD (.lst ds) (.int d) h' = .ok x h' := u_ixL ex
  have hb : below h.length x = true := hp x mx _
  have ei : initE 2 [D.loc n, .lst ds] = [some (.loc n), some (.lst ds)] := rfl
  have kc : kCall 2 F__law_draw [.loc n, .int ds.length] h = .ok (.int d) h' := (k_Call rfl).trans e
  refine ⟨x, h', ?_, mx, t⟩
  simp only [F__law_of, m__law_of, f_T, ei, e_Ret, e_Bin, e_V1, b_ok, k_Q, e_Call, e_Cons, e_V0, e_CB, e_Nil, k_Cons, u_lenL, kc, hx, t_ok, k_Ret, r_rt, x_ok]
  exact x_same t.2.1 hb
theorem spring_ok {ns : List Int} (hk : 0 ≤ k) (hk2 : k < 1000) (hl : ns.length ≤ 63) : ∃ a b c : Int, F__law_spring [.scr (ns.map .int), .int k] h = .ok (.loc h.length) (h ++ [.lst [.int a, .int b, .int c]]) ∧ 0 ≤ a ∧ 0 ≤ b ∧ b < 2147483647 := by
  have l1 : lenUD [.scr (ns.map .int)] h = .ok (.int ns.length) h := by simp
  have m1 : ∀ {h : AH}, mulUD (.int 7) (.int k) h = .ok (.int (7 * k)) h := o_mulL (by decide) (by decide)
  have m2 : ∀ {h : AH}, mulUD (.int 7919) (.int k) h = .ok (.int (7919 * k)) h := o_mulL (by decide) (by decide)
  have m4 : ∀ {h : AH}, mulUD (.int 11) (.int k) h = .ok (.int (11 * k)) h := o_mulL (by decide) (by decide)
  have m3 : ∀ {i : Int} {h : AH}, mulUD (.int i) (.int 48271) h = .ok (.int (i * 48271)) h := o_mulR (by decide) (by decide)
  have d1 : ∀ {i : Int} {h : AH}, modD (.int i) (.int 2147483647) h = .ok (.int (i % 2147483647)) h := o_mod (by decide)
  have p1 : ∀ {h : AH}, powD (.int 10) (.int 18) h = .ok (.int 1000000000000000000) h := fun {h} => (o_pow (by unfold CPow; decide)).trans rfl
  have hc : ∃ cell : Int, mIf (mBl (mBin (cmpD fun i j => decide (i < j)) (mVar 1) (mCB lenUD (mCons (mVar 0) mNil)))) (mBin ixUD (mVar 0) (mVar 1)) (mBin addUD (mBin mulUD (mC (.int 7)) (mVar 1)) (mC (.int 2))) (initE 5 [.scr (ns.map .int), .int k]) h = .ok (.int cell) h := by
    by_cases q : k < ns.length
    · obtain ⟨x, ex, mx⟩ := atI_mem (l := ns.map D.int) hk (by simpa using q)
      obtain ⟨i, _, rfl⟩ := List.mem_map.mp mx
      have hx : ixUD (.scr (ns.map .int)) (.int k) h = .ok (.int i) h := u_ixS ex
      exact ⟨i, by simp [initE, q, hx]⟩
    · exact ⟨7 * k + 2, by simp [initE, q, m1]⟩
  obtain ⟨cell, hc⟩ := hc
  have ct : catD (.lst (cutL (ns.map .int) none (some 8))) (.lst [.int cell]) h = .ok (cutL (ns.map .int) none (some 8) ++ [.int cell]) h := by
    rw [o_cat, if_pos]
    have : (cutL (ns.map D.int) none (some 8)).length ≤ 63 := by
      unfold cutL
      simp only [List.length_take, List.length_drop, List.length_map]
      omega
    have : (63 : Nat) + 1 ≤ sizeLine := by decide
    simp
    omega
  have hi : ∀ d ∈ cutL (ns.map D.int) none (some 8) ++ [.int cell], ∃ i, d = .int i := by
    intro d m
    rcases List.mem_append.mp m with m | m
    · obtain ⟨i, _, e⟩ := List.mem_map.mp (List.mem_of_mem_drop (List.mem_of_mem_take m))
      exact ⟨i, e.symm⟩
    · exact ⟨cell, List.mem_singleton.mp m⟩
  obtain ⟨env', h', ef, ⟨b, x, rfl, rfl, hb, hb2⟩⟩ := for_inv (g := mgName 4) (p := mAsg (mBin modD (mCB intUD (mCons (mBin addUD (mBin addUD (mBin mulUD (mVar 3) (mC (.int 48271))) (mCB intUD (mCons (mVar 4) mNil))) (mBin mulUD (mC (.int 11)) (mVar 1))) mNil)) (mC (.int 2147483647))) (mgName 3))
    (fun env h' => ∃ (b : Int) (x : Option D), env = [some (.scr (ns.map .int)), some (.int k), some (.int cell), some (.int b), x] ∧ h' = h ∧ 0 ≤ b ∧ b < 2147483647) (ds := cutL (ns.map D.int) none (some 8) ++ [.int cell])
    (env := [some (.scr (ns.map .int)), some (.int k), some (.int cell), some (.int (90001 + 7919 * k)), none]) (h := h) ⟨_, _, rfl, rfl, by omega, by omega⟩ (by
      intro d md env h1 ⟨b, x, e1, e2, h3, h4⟩
      subst e1 e2
      obtain ⟨i, rfl⟩ := hi d md
      refine ⟨_, _, _, _, rfl, ?_, (b * 48271 + i + 11 * k) % 2147483647, some (.int i), rfl, rfl, Int.emod_nonneg _ (by decide), Int.emod_lt_of_pos _ (by decide)⟩
      simp [m3, m4, d1])
  refine ⟨if cell < 0 ∨ cell ≥ 1000000000000000000 then (if cell < 0 then -cell else cell) else 0, b, 0, ?_, ?_, hb, hb2⟩
  · simp only [F__law_spring, m__law_spring, f_K, e_Seq, e_Asg, hc]
    by_cases q1 : cell < 0 <;> by_cases q2 : (1000000000000000000 : Int) ≤ cell <;> simp [initE, m2, ct, ef, p1, q1, q2]
  · split
    · split <;> omega
    · omega
end
end Tb

/-! The law's rows. -/
namespace Tb
open PySem PySem.Spec L2 Ab
open Pl (IsT IsS perms)
section
variable {h H : AH} {n m k N M : Nat} {env : En} {w : Int} {d : D}
/-- a heap of lists of things that nobody changes -/
def Fl (h : AH) : Prop := ∀ (i : Nat) (o : AO), h[i]? = some o → ∃ ds : List D, o = .lst ds ∧ ∀ q, belowL q ds = true
theorem Fl.below (f : Fl h) : h.all (AO.below n) = true := by
  rw [List.all_eq_true]
  intro o ho
  obtain ⟨i, hi, e⟩ := List.mem_iff_getElem.mp ho
  obtain ⟨ds, rfl, b⟩ := f i o (by rw [← e]; exact List.getElem?_eq_getElem hi)
  simp [AO.below, b]
theorem Sp3.fl (s : Sp3 h k) : ∃ ns : List Int, h[k]? = some (.lst (ns.map D.int)) := by
  obtain ⟨a, b, c, e, _⟩ := s
  exact ⟨[a, b, c], e⟩
theorem Fl.dr {h' : AH} (f : Fl h) (t : Dr h k h') : Fl h' := fun i o e => by
  by_cases q : i = k
  · subst q
    obtain ⟨ns, e2⟩ := Sp3.fl t.1
    rw [e] at e2; cases e2; exact ⟨_, rfl, fun q => below_ints⟩
  · rw [t.2.2 i q] at e; exact f i o e
theorem Fl.app {ns : List Int} (f : Fl h) : Fl (h ++ [.lst (ns.map D.int)]) := fun i o e => by
  rcases Nat.lt_trichotomy i h.length with q | q | q
  · rw [List.getElem?_append_left q] at e; exact f i o e
  · subst q; simp at e; exact ⟨_, e.symm, fun q => below_ints⟩
  · rw [List.getElem?_eq_none (by simp; omega)] at e; cases e
/-- while rows are drawn: the spring at k, the rows at N, all below N as it was -/
structure Lr (h : AH) (k : Nat) (rows : List Str) (H : AH) : Prop where
  sp : Sp3 H k
  len : h.length < H.length
  old : ∀ i, i < h.length → i ≠ k → H[i]? = h[i]?
  rws : H[h.length]? = some (.lst (rows.map D.str))
  kl : k < h.length
variable {rows : List Str}
theorem Lr.dr {H' : AH} (a : Lr h k rows H) (t : Dr H k H') : Lr h k rows H' := ⟨t.1, by rw [t.2.1]; exact a.len, fun i h1 h2 => (t.2.2 i h2).trans (a.old i h1 h2), (t.2.2 _ (by have := a.kl; omega)).trans a.rws, a.kl⟩
theorem Lr.app {o : AO} (a : Lr h k rows H) : Lr h k rows (H ++ [o]) := by
  have l1 := lt_of_get a.rws
  have hk := a.kl
  exact ⟨a.sp.app, by simp; omega, fun i h1 h2 => by rw [List.getElem?_append_left (by omega)]; exact a.old i h1 h2, by rw [List.getElem?_append_left l1]; exact a.rws, hk⟩
theorem Lr.set {o : AO} {M : Nat} (a : Lr h k rows H) (hM : h.length < M) : Lr h k rows (H.set M o) := by
  have hk := a.kl
  exact ⟨a.sp.set (by omega), by simp; exact a.len, fun i h1 h2 => by rw [List.getElem?_set_ne (by omega)]; exact a.old i h1 h2, by rw [List.getElem?_set_ne (by omega)]; exact a.rws, hk⟩
theorem Lr.add {s : Str} (a : Lr h k rows H) (hl : rows.length < 1000) : appendD (.loc h.length) [.str s] H = .ok .non (H.set h.length (.lst ((rows ++ [s]).map D.str))) ∧ Lr h k (rows ++ [s]) (H.set h.length (.lst ((rows ++ [s]).map D.str))) := by
  have hk := a.kl
  refine ⟨?_, a.sp.set (by omega), by simp; exact a.len, fun i h1 h2 => by rw [List.getElem?_set_ne (by omega)]; exact a.old i h1 h2, by rw [List.getElem?_set_self a.len], hk⟩
  rw [append_ok a.rws (by rw [List.length_map]; exact hl)]
  simp
abbrev rwE (k n m N : Nat) (w : Int) (x6 x7 x8 x9 x10 : Option D) : En := [some (.loc k), some (.lst (menuH.map fun p => D.tup [.int p.1, .int p.2])), some (.int n), some (.int m), some (.loc N), some (.int w), x6, x7, x8, x9, x10]
abbrev pickP : MS := mDrop (mMethT isLoc appendD (mVar 8) (mCons (mMethT isLoc popAtD (mVar 7) (mCons (mCall 2 F__law_draw (mCons (mVar 0) (mCons (mCB lenUD (mCons (mVar 7) mNil)) mNil))) mNil)) mNil))
end
end Tb

namespace Tb
open PySem PySem.Spec L2 Ab
open Pl (IsT IsS perms)
section
variable {h H : AH} {n m k c : Nat} {w : Int} {rws : List Str}
/-- a head and at most c rows -/
def Rw (rws : List Str) (n m c : Nat) : Prop := ∃ hd ts told, rws = hd :: ts ∧ HeadF hd n m ∧ All2 (RowF n) ts told ∧ ts.length ≤ c
theorem Rw.le {c' : Nat} (r : Rw rws n m c) (h : c ≤ c') : Rw rws n m c' := by
  obtain ⟨hd, ts, told, e, h1, h2, h3⟩ := r
  exact ⟨hd, ts, told, e, h1, h2, by omega⟩
theorem Rw.len (r : Rw rws n m c) : rws.length ≤ c + 1 := by
  obtain ⟨hd, ts, told, rfl, h1, h2, h3⟩ := r
  simp; omega
abbrev menuM : Ab.M D := (mFrz (mLst (mCons (mTup (mCons (mC (.int 2)) (mCons (mC (.int 2)) mNil))) (mCons (mTup (mCons (mC (.int 2)) (mCons (mC (.int 3)) mNil))) (mCons (mTup (mCons (mC (.int 2)) (mCons (mC (.int 4)) mNil))) (mCons (mTup (mCons (mC (.int 2)) (mCons (mC (.int 6)) mNil))) (mCons (mTup (mCons (mC (.int 3)) (mCons (mC (.int 2)) mNil))) (mCons (mTup (mCons (mC (.int 3)) (mCons (mC (.int 2)) mNil))) (mCons (mTup (mCons (mC (.int 3)) (mCons (mC (.int 3)) mNil))) (mCons (mTup (mCons (mC (.int 3)) (mCons (mC (.int 4)) mNil))) (mCons (mTup (mCons (mC (.int 4)) (mCons (mC (.int 2)) mNil))) (mCons (mTup (mCons (mC (.int 4)) (mCons (mC (.int 2)) mNil))) (mCons (mTup (mCons (mC (.int 4)) (mCons (mC (.int 3)) mNil))) (mCons (mTup (mCons (mC (.int 5)) (mCons (mC (.int 2)) mNil))) (mCons (mTup (mCons (mC (.int 1)) (mCons (mC (.int 4)) mNil))) mNil)))))))))))))))
theorem menu_is {env : En} {h : AH} : menuM env h = .ok (.lst (menuH.map fun p => D.tup [.int p.1, .int p.2])) h := by
  have kt : ∀ (x y : Int) (hh : AH), kTup [D.int x, D.int y] hh = .ok (.tup [.int x, .int y]) hh := fun x y hh => k_Tup (by simp)
  simp only [menuM, e_Frz, e_Lst, e_Cons, e_Tup, e_C, e_Nil, b_ok, k_Q, k_Cons, kt]
  rw [k_Lst (by simp)]
  rfl
abbrev ifAdd (l : List Int) (s : Str) : MS := mIfS (mBl (mBin (inUD false) (mVar 5) (mC (.lst (l.map D.int))))) (mDrop (mMethT isLoc appendD (mVar 4) (mCons (mC (.str s)) mNil))) mNext
end
end Tb

namespace Tb
open PySem PySem.Spec L2 Ab
def m_is_bell : MS :=
  (mRet (mCB (allD false) (mCons (mFrz (mLc (miU (mVar 0)) (mgName 1) (fun _ h => .ok true h) (mBin eqD (mVar 1) (mBin ixUD (mVar 0) (mC (.int 0)))) [1])) mNil)))
def F_is_bell : Fn := mFnT 2 m_is_bell
def m_added : MS :=
  (mRet (mCB tupleD (mCons (mFrz (mLc (miZip (mCons (mVar 0) (mCons (mVar 1) mNil))) (mgSeq 2 (mgCons (mgName 3) (mgCons (mgName 4) mgNil))) (fun _ h => .ok true h) (mBin modD (mBin addUD (mVar 3) (mVar 4)) (mVar 2)) [3, 4])) mNil)))
def F_added : Fn := mFnT 5 m_added
def m_kind_of : MS :=
  (mRet (mBin ixUD (mUn (attrD "Table" "known") (mVar 0)) (mVar 1)))
def F_kind_of : Fn := mFnT 2 m_kind_of
def m_zeros : MS :=
  (mRet (mBin mulUD (mTup (mCons (mC (.int 0)) mNil)) (mUn (attrD "Table" "many") (mVar 0))))
def F_zeros : Fn := mFnT 1 m_zeros
def m__law_behind : MS :=
  (mSeq (mAsg (mOwn (mBinF repD (mFrz (mLst (mCons (mC (.int 0)) mNil))) (mCB lenUD (mCons (mVar 1) mNil)))) (mgName 2))
  (mSeq (mFor (miRng1 (mCons (mCB lenUD (mCons (mVar 1) mNil)) mNil)) (mgName 3) (mAsg (mBin ixUD (mVar 0) (mVar 3)) (mgSubU (mVar 2) (mBin ixUD (mVar 1) (mVar 3)))))
  (mRet (mCB tupleD (mCons (mVar 2) mNil)))))
def F__law_behind : Fn := mFnT 4 m__law_behind
def m__law_sum : MS :=
  (mRet (mCB tupleD (mCons (mFrz (mLc (miRng1 (mCons (mCB lenUD (mCons (mVar 0) mNil)) mNil)) (mgName 3) (fun _ h => .ok true h) (mBin modD (mCB intUD (mCons (mBin addUD (mBin ixUD (mVar 0) (mVar 3)) (mBin ixUD (mVar 1) (mVar 3))) mNil)) (mVar 2)) [3])) mNil)))
def F__law_sum : Fn := mFnT 4 m__law_sum
def b__law_all_1 : MS :=
  (mSeq (mAsg (mFrz (mLst mNil)) (mgName 4))
  (mSeq (mFor (miU (mVar 2)) (mgName 5) (mAsg (mFrz (mBinF catD (mVar 4) (mFrz (mLc (miRng1 (mCons (mVar 1) mNil)) (mgName 6) (fun _ h => .ok true h) (mBin addUD (mVar 5) (mTup (mCons (mVar 6) mNil))) [6])))) (mgName 4)))
  (mAsg (mVar 4) (mgName 2))))
def m__law_all : MS :=
  (mSeq (mAsg (mFrz (mLst (mCons (mTup mNil) mNil))) (mgName 2))
  (mSeq (mFor (miRng1 (mCons (mVar 0) mNil)) (mgName 3) b__law_all_1)
  (mRet (mVar 2))))
def F__law_all : Fn := mFnT 7 m__law_all
def m_kinds : MS :=
  (mSeq (mDrop (mCallP 1 F_check_table (mCons (mVar 0) mNil)))
  (mRet (mUn (attrD "Table" "swept") (mVar 0))))
def F_kinds : Fn := mFnT 1 m_kinds
def b__law_class_1 : MS :=
  (mSeq (mAsg (mCallP 2 F__law_behind (mCons (mVar 2) (mCons (mVar 5) mNil))) (mgName 6))
  (mFor (miRng1 (mCons (mVar 3) mNil)) (mgName 7) (mDrop (mMethT isLoc appendD (mVar 4) (mCons (mCB tupleD (mCons (mFrz (mLc (miU (mVar 6)) (mgName 8) (fun _ h => .ok true h) (mBin modD (mCB intUD (mCons (mBin addUD (mVar 8) (mVar 7)) mNil)) (mVar 3)) [8])) mNil)) mNil)))))
def m__law_class : MS :=
  (mSeq (mAsg (mTup (mCons (mBin ixUD (mCallP 1 F__law_head (mCons (mVar 0) mNil)) (mC (.int 1))) (mCons (mOwn (mLst mNil)) mNil))) (mgSeq 2 (mgCons (mgName 3) (mgCons (mgName 4) mgNil))))
  (mSeq (mFor (miU (mVar 1)) (mgName 5) b__law_class_1)
  (mRet (mVar 4))))
def F__law_class : Fn := mFnT 9 m__law_class
def m__law_standing : MS :=
  (mSeq (mAsg (mCallP 1 F__law_head (mCons (mVar 1) mNil)) (mgSeq 2 (mgCons (mgName 2) (mgCons (mgName 3) mgNil))))
  (mRet (mCB tupleD (mCons (mFrz (mLc (miRng1 (mCons (mVar 2) mNil)) (mgName 4) (fun _ h => .ok true h) (mCall 2 F__law_draw (mCons (mVar 0) (mCons (mVar 3) mNil))) [4])) mNil))))
def F__law_standing : Fn := mFnT 5 m__law_standing
def m_are_marks : MS :=
  (mSeq (mIfS (mOrT (mNotT (mTru (mCB isiD (mCons (mVar 1) (mCons (mC (.ty "tuple")) mNil))))) (mBl (mBin neD (mCB lenUD (mCons (mVar 1) mNil)) (mUn (attrD "Table" "many") (mVar 0))))) (mRet (mC (.bl false))) mNext)
  (mRet (mCB (allD false) (mCons (mFrz (mLc (miU (mVar 1)) (mgName 2) (fun _ h => .ok true h) (mCallP 3 F_is_between (mCons (mVar 2) (mCons (mC (.int 0)) (mCons (mBin subD (mUn (attrD "Table" "size") (mVar 0)) (mC (.int 1))) mNil)))) [2])) mNil))))
def F_are_marks : Fn := mFnT 3 m_are_marks
def m_is_turn : MS :=
  (mSeq (mIfS (mOrT (mNotT (mTru (mCB isiD (mCons (mVar 1) (mCons (mC (.ty "tuple")) mNil))))) (mNotT (mTru (mCB (allD false) (mCons (mFrz (mLc (miU (mVar 1)) (mgName 2) (fun _ h => .ok true h) (mCallP 3 F_is_between (mCons (mVar 2) (mCons (mC (.int 0)) (mCons (mBin subD (mUn (attrD "Table" "many") (mVar 0)) (mC (.int 1))) mNil)))) [2])) mNil))))) (mRet (mC (.bl false))) mNext)
  (mRet (mBin (inUD false) (mVar 1) (mUn (attrD "Table" "group") (mVar 0)))))
def F_is_turn : Fn := mFnT 3 m_is_turn
def m__law_kinds_by : MS :=
  (mSeq (mAsg (mCallP 1 F__law_head (mCons (mVar 0) mNil)) (mgSeq 2 (mgCons (mgName 1) (mgCons (mgName 2) mgNil))))
  (mSeq (mPar 3 4 (mCons (mCallP 1 F__law_group (mCons (mVar 0) mNil)) (mCons mDNew mNil)))
  (mSeq (mFor (miU (mCallP 2 F__law_all (mCons (mVar 1) (mCons (mVar 2) mNil)))) (mgName 5) (mIfS (mBl (mBin (inUD true) (mVar 5) (mVar 4))) (mFor (miU (mCallP 3 F__law_class (mCons (mVar 0) (mCons (mVar 3) (mCons (mVar 5) mNil))))) (mgName 6) (mAsg (mVar 5) (mgSubU (mVar 4) (mVar 6)))) mNext))
  (mRet (mVar 4)))))
def F__law_kinds_by : Fn := mFnT 7 m__law_kinds_by
def m_check_standing : MS :=
  (mIfS (mNotT (mTru (mCallP 2 F_are_marks (mCons (mVar 0) (mCons (mVar 1) mNil))))) (fun _ _ => .bad) mNext)
def F_check_standing : Fn := mFnT 2 m_check_standing
def m_check_move : MS :=
  (mIfS (mNotT (mTru (mCallP 2 F_are_marks (mCons (mVar 0) (mCons (mVar 1) mNil))))) (fun _ _ => .bad) mNext)
def F_check_move : Fn := mFnT 2 m_check_move
def m_check_kind : MS :=
  (mIfS (mOrT (mNotT (mTru (mCallP 2 F_are_marks (mCons (mVar 0) (mCons (mVar 1) mNil))))) (mAndT (mBl (mBin (inUD true) (mVar 1) (mUn (attrD "Table" "swept") (mVar 0)))) (mBl (mBin neD (mVar 1) (mCallP 1 F_zeros (mCons (mVar 0) mNil)))))) (fun _ _ => .bad) mNext)
def F_check_kind : Fn := mFnT 2 m_check_kind
def m__law_kinds : MS :=
  (mSeq (mAsg (mCallP 1 F__law_kinds_by (mCons (mVar 0) mNil)) (mgName 1))
  (mSeq (mAsg (mFrz (mCBF sortedUD (mCons (mFrz (mLc (miU (mVar 1)) (mgName 3) (mBl (mBin eqD (mBin ixUD (mVar 1) (mVar 3)) (mVar 3))) (mVar 3) [3])) mNil))) (mgName 2))
  (mRet (mCB tupleD (mCons (mFrz (mSlL (mVar 2) (mPart (mC (.int 1))) mNoPart)) mNil)))))
def F__law_kinds : Fn := mFnT 4 m__law_kinds
def m_rings : MS :=
  (mSeq (mDrop (mCallP 1 F_check_table (mCons (mVar 0) mNil)))
  (mSeq (mDrop (mCallP 2 F_check_standing (mCons (mVar 0) (mCons (mVar 1) mNil))))
  (mRet (mCallP 1 F_is_bell (mCons (mVar 1) mNil)))))
def F_rings : Fn := mFnT 2 m_rings
def m_turned : MS :=
  (mSeq (mDrop (mCallP 1 F_check_table (mCons (mVar 0) mNil)))
  (mSeq (mDrop (mCallP 2 F_check_standing (mCons (mVar 0) (mCons (mVar 1) mNil))))
  (mSeq (mIfS (mNotT (mTru (mCallP 2 F_is_turn (mCons (mVar 0) (mCons (mVar 2) mNil))))) (fun _ _ => .bad) mNext)
  (mRet (mCallP 2 F_behind_turn (mCons (mVar 1) (mCons (mVar 2) mNil)))))))
def F_turned : Fn := mFnT 3 m_turned
def m_moved : MS :=
  (mSeq (mDrop (mCallP 1 F_check_table (mCons (mVar 0) mNil)))
  (mSeq (mDrop (mCallP 2 F_check_standing (mCons (mVar 0) (mCons (mVar 1) mNil))))
  (mSeq (mDrop (mCallP 2 F_check_move (mCons (mVar 0) (mCons (mVar 2) mNil))))
  (mRet (mCallP 3 F_added (mCons (mVar 1) (mCons (mVar 2) (mCons (mUn (attrD "Table" "size") (mVar 0)) mNil))))))))
def F_moved : Fn := mFnT 3 m_moved
def m_kind : MS :=
  (mSeq (mDrop (mCallP 1 F_check_table (mCons (mVar 0) mNil)))
  (mSeq (mDrop (mCallP 2 F_check_standing (mCons (mVar 0) (mCons (mVar 1) mNil))))
  (mRet (mCallP 2 F_kind_of (mCons (mVar 0) (mCons (mVar 1) mNil))))))
def F_kind : Fn := mFnT 2 m_kind
def m_alike : MS :=
  (mSeq (mDrop (mCallP 1 F_check_table (mCons (mVar 0) mNil)))
  (mSeq (mDrop (mCallP 2 F_check_standing (mCons (mVar 0) (mCons (mVar 1) mNil))))
  (mSeq (mDrop (mCallP 2 F_check_standing (mCons (mVar 0) (mCons (mVar 2) mNil))))
  (mRet (mBin eqD (mCallP 2 F_kind_of (mCons (mVar 0) (mCons (mVar 1) mNil))) (mCallP 2 F_kind_of (mCons (mVar 0) (mCons (mVar 2) mNil))))))))
def F_alike : Fn := mFnT 3 m_alike
def m_many : MS :=
  (mSeq (mDrop (mCallP 1 F_check_table (mCons (mVar 0) mNil)))
  (mSeq (mDrop (mCallP 2 F_check_kind (mCons (mVar 0) (mCons (mVar 1) mNil))))
  (mRet (mCB lenUD (mCons (mCallP 3 F_alike_to (mCons (mVar 1) (mCons (mUn (attrD "Table" "size") (mVar 0)) (mCons (mUn (attrD "Table" "group") (mVar 0)) mNil)))) mNil)))))
def F_many : Fn := mFnT 2 m_many
end Tb

/-! Groups of turns, alike standings, what the sweep tells. -/
namespace Pl
open Ab
section
variable {n m : Nat} {G : List (List Int)} {s t u x y z : List Int}
theorem nodup_full {α : Type} [DecidableEq α] : ∀ {l p : List α}, l.Nodup → (∀ x ∈ l, x ∈ p) → p.length ≤ l.length → ∀ x ∈ p, x ∈ l
  | [], p, _, _, hl, x, hx => by
    have : p = [] := List.length_eq_zero_iff.mp (Nat.le_zero.mp hl)
    rw [this] at hx; exact absurd hx List.not_mem_nil
  | a :: l, p, h, s, hl, x, hx => by
    rw [List.nodup_cons] at h
    have ha := s a (List.mem_cons_self ..)
    by_cases e : x = a
    · exact e ▸ List.mem_cons_self ..
    · refine List.mem_cons_of_mem _ (nodup_full (p := p.erase a) h.2 (fun y hy => (List.mem_erase_of_ne (show y ≠ a from fun e => h.1 (by rw [← e]; exact hy))).mpr (s y (List.mem_cons_of_mem _ hy))) ?_ x ((List.mem_erase_of_ne e).mpr hx))
      rw [List.length_erase_of_mem ha]
      simp only [List.length_cons] at hl
      omega
/-- every place is some place's target -/
theorem isT_onto (h : IsT n t) {i : Nat} (hi : i < n) : ∃ p, p < n ∧ t.getD p 0 = (i : Int) := by
  have := nodup_full (p := rngI n) h.nod (fun x hx => mem_rngI.mpr (h.rng x hx)) (by simp [h.len]) (i : Int) (mem_rngI.mpr ⟨by omega, by omega⟩)
  obtain ⟨p, hp, e⟩ := List.mem_iff_getElem.mp this
  refine ⟨p, by rw [← h.len]; exact hp, ?_⟩
  rw [List.getD_eq_getElem?_getD, List.getElem?_eq_getElem hp]; exact e
theorem set_getD {l : List Int} {i j : Nat} {v : Int} (hj : i < l.length) : (l.set i v).getD j 0 = if i = j then v else l.getD j 0 := by
  rw [List.getD_eq_getElem?_getD, List.getElem?_set, List.getD_eq_getElem?_getD]
  by_cases e : i = j
  · subst e; simp [hj]
  · simp [e]
/-- the mark of a place goes to its target -/
theorem behind_get (h : IsT n t) (hx : x.length = n) {p : Nat} (hp : p < n) : (behindP x t).getD (t.getD p 0).toNat 0 = x.getD p 0 := by
  have tg : ∀ j, j < n → 0 ≤ t.getD j 0 ∧ t.getD j 0 < n := fun j hj => h.rng _ (getD_mem (by rw [h.len]; exact hj))
  have key : ∀ (c : Nat) (l : List (Int × Nat)) (f : List Int), (∀ q ∈ l, q.2 < n ∧ q.1 = t.getD q.2 0) → f.length = n → (∀ j, j < n → (∃ q ∈ l, q.2 = j) ∨ f.getD (t.getD j 0).toNat 0 = x.getD j 0) →
      (l.foldl (fun f q => f.set q.1.toNat (x.getD q.2 0)) f).getD (t.getD p 0).toNat 0 = x.getD p 0 := by
    intro c l
    induction l with
    | nil =>
      intro f _ _ hf
      rcases hf p hp with ⟨q, hq, _⟩ | e
      · exact absurd hq List.not_mem_nil
      · exact e
    | cons a l ih =>
      intro f hl hlen hf
      obtain ⟨a1, a2⟩ := hl a (List.mem_cons_self ..)
      have ta := tg a.2 a1
      rw [List.foldl_cons]
      refine ih _ (fun q hq => hl q (List.mem_cons_of_mem _ hq)) (by rw [List.length_set]; exact hlen) fun j hj => ?_
      rw [set_getD (by rw [hlen, a2]; omega)]
      by_cases e : a.2 = j
      · subst e
        refine .inr ?_
        rw [if_pos (by rw [a2])]
      · rcases hf j hj with ⟨q, hq, e2⟩ | e2
        · rcases List.mem_cons.mp hq with rfl | hq
          · exact absurd e2 e
          · exact .inl ⟨q, hq, e2⟩
        · refine .inr ?_
          have tj := tg j hj
          rw [if_neg (fun z => e ?_)]
          · exact e2
          · rw [a2] at z
            exact getD_inj h.nod (by rw [h.len]; exact a1) (by rw [h.len]; exact hj) (by omega)
  refine key 0 t.zipIdx x (fun q hq => ?_) hx fun j hj => .inl ⟨(t.getD j 0, j), ?_, rfl⟩
  · obtain ⟨h1, h2⟩ := List.mem_zipIdx' hq
    refine ⟨by rw [← h.len]; exact h1, ?_⟩
    rw [h2, List.getD_eq_getElem?_getD, List.getElem?_eq_getElem h1]; rfl
  · have hj' : j < t.length := by rw [h.len]; exact hj
    rw [List.getD_eq_getElem?_getD, List.getElem?_eq_getElem hj']
    exact List.mem_zipIdx_iff_getElem?.mpr (by simp [hj'])
theorem ext_getD {a b : List Int} (h : a.length = n) (h' : b.length = n) (e : ∀ i, i < n → a.getD i 0 = b.getD i 0) : a = b := by
  apply List.ext_getElem (by rw [h, h'])
  intro i h1 h2
  have := e i (by rw [← h]; exact h1)
  rw [List.getD_eq_getElem?_getD, List.getD_eq_getElem?_getD, List.getElem?_eq_getElem h1, List.getElem?_eq_getElem h2] at this
  exact this
/-- standings agree if they do at all targets -/
theorem ext_turn (ht : IsT n t) {a b : List Int} (h : a.length = n) (h' : b.length = n) (e : ∀ p, p < n → a.getD (t.getD p 0).toNat 0 = b.getD (t.getD p 0).toNat 0) : a = b :=
  ext_getD h h' fun i hi => by
    obtain ⟨p, hp, e2⟩ := isT_onto ht hi
    have := e p hp
    rw [e2] at this
    simpa using this
theorem comp_getD (hx : IsT n x) {p : Nat} (hp : p < n) : (comp t x).getD p 0 = t.getD (x.getD p 0).toNat 0 := by
  have hp' : p < x.length := by rw [hx.len]; exact hp
  unfold comp
  rw [List.getD_eq_getElem?_getD, List.getElem?_map, List.getD_eq_getElem?_getD (l := x), List.getElem?_eq_getElem hp']
  rfl
theorem behind_behind (ht : IsT n t) (hu : IsT n u) (hx : x.length = n) : behindP (behindP x t) u = behindP x (comp u t) := by
  have hc := isT_comp hu ht
  refine ext_turn hc (by rw [behindP_len, behindP_len, hx]) (by rw [behindP_len, hx]) fun p hp => ?_
  have tp := ht.rng _ (getD_mem (x := t) (j := p) (by rw [ht.len]; exact hp))
  rw [behind_get hc hx hp, comp_getD ht hp]
  have h1 := behind_get hu (x := behindP x t) (by rw [behindP_len, hx]) (p := (t.getD p 0).toNat) (by omega)
  rw [h1, behind_get ht hx hp]
theorem shift_getD {b : Int} {i : Nat} (hi : i < x.length) : (shiftP x b m).getD i 0 = (x.getD i 0 + b) % m := by
  unfold shiftP
  rw [List.getD_eq_getElem?_getD, List.getElem?_map, List.getD_eq_getElem?_getD, List.getElem?_eq_getElem hi]
  rfl
theorem shift_len {b : Int} : (shiftP x b m).length = x.length := by simp [shiftP]
theorem behind_shift (ht : IsT n t) (hx : x.length = n) {b : Int} : behindP (shiftP x b m) t = shiftP (behindP x t) b m := by
  refine ext_turn ht (by rw [behindP_len, shift_len, hx]) (by rw [shift_len, behindP_len, hx]) fun p hp => ?_
  have tp := ht.rng _ (getD_mem (x := t) (j := p) (by rw [ht.len]; exact hp))
  rw [behind_get ht (by rw [shift_len, hx]) hp, shift_getD (by rw [hx]; exact hp), shift_getD (by rw [behindP_len, hx]; omega), behind_get ht hx hp]
/-! groups -/
theorem comp_assoc (hx : IsT n x) (hy : IsT n y) : comp (comp t x) y = comp t (comp x y) := by
  have e1 : (comp (comp t x) y).length = n := by simp [comp, hy.len]
  have e2 : (comp t (comp x y)).length = n := by simp [comp, hy.len]
  refine ext_getD e1 e2 fun i hi => ?_
  have yi := hy.rng _ (getD_mem (x := y) (j := i) (by rw [hy.len]; exact hi))
  rw [comp_getD hy hi, comp_getD hx (by omega), comp_getD (isT_comp hx hy) hi, comp_getD hy hi]
theorem id_comp (hx : IsT n x) : comp (rngI n) x = x := by
  refine ext_getD (by simp [comp, hx.len]) hx.len fun i hi => ?_
  have xi := hx.rng _ (getD_mem (x := x) (j := i) (by rw [hx.len]; exact hi))
  have hk : (x.getD i 0).toNat < n := by omega
  rw [comp_getD hx hi, List.getD_eq_getElem?_getD]
  unfold rngI
  rw [List.getElem?_map, List.getElem?_range hk]
  show ((x.getD i 0).toNat : Int) = _
  omega
/-- a group of turns -/
structure Grp (n : Nat) (G : List (List Int)) : Prop where
  nod : G.Nodup
  is : ∀ t ∈ G, IsT n t
  id : rngI n ∈ G
  mul : ∀ t ∈ G, ∀ u ∈ G, comp t u ∈ G
theorem Grp.inv (g : Grp n G) (ht : t ∈ G) : ∃ u ∈ G, comp u t = rngI n := by
  -- y ↦ t ∘ y is one to one on G, so it reaches the identity; what it reaches it by is t's inverse on the right, and so on the left
  have inj : ∀ t ∈ G, ∃ u ∈ G, comp t u = rngI n := fun t ht => by
    have nd : (G.map (comp t)).Nodup := nodup_map g.nod fun a ha b hb e => by
      have ia := g.is a ha
      have ib := g.is b hb
      refine ext_getD ia.len ib.len fun i hi => ?_
      have a1 := ia.rng _ (getD_mem (x := a) (j := i) (by rw [ia.len]; exact hi))
      have b1 := ib.rng _ (getD_mem (x := b) (j := i) (by rw [ib.len]; exact hi))
      have e2 : (comp t a).getD i 0 = (comp t b).getD i 0 := by rw [e]
      rw [comp_getD ia hi, comp_getD ib hi] at e2
      have it := g.is t ht
      have := getD_inj it.nod (by rw [it.len]; omega) (by rw [it.len]; omega) e2
      omega
    have := nodup_full nd (fun x hx => by
      obtain ⟨y, hy, rfl⟩ := List.mem_map.mp hx
      exact g.mul t ht y hy) (by simp) (rngI n) g.id
    obtain ⟨y, hy, e⟩ := List.mem_map.mp this
    exact ⟨y, hy, e⟩
  obtain ⟨u, hu, e⟩ := inj t ht
  obtain ⟨v, hv, e2⟩ := inj u hu
  refine ⟨u, hu, ?_⟩
  -- u t = u t (u v) = u (t u) v = u v = id
  have it := g.is t ht
  have iu := g.is u hu
  have iv := g.is v hv
  have c1 : comp (comp u t) (comp u v) = comp u t := by
    rw [e2]
    refine ext_getD (n := n) (by simp [comp, it.len]) (by simp [comp, it.len]) fun i hi => ?_
    rw [comp_getD (isT_id n) hi]
    congr 1
    rw [List.getD_eq_getElem?_getD]
    unfold rngI
    rw [List.getElem?_map, List.getElem?_range hi]
    rfl
  rw [← c1, comp_assoc it (isT_comp iu iv), ← comp_assoc iu iv, e, id_comp iv, e2]
theorem Closure.grp {told L : List (List Int)} (c : Closure n told L) (ht : ∀ t ∈ told, IsT n t) : Grp n L := by
  refine ⟨c.nod, fun t h => (c.rch t h).isT ht, c.id, fun t h u hu => ?_⟩
  have ru := c.rch u hu
  have iu := ru.isT ht
  have : ∀ {x}, Reach n told x → Reach n told (comp x u) := by
    intro x r
    induction r with
    | id => rw [id_comp iu]; exact ru
    | step r h ih => rw [comp_assoc (r.isT ht) iu]; exact .step ih h
  exact c.all (this (c.rch t h))
/-! alike -/
theorem alike_trans (g : Grp n G) (hm : 0 < m) (hx : x.length = n) (h1 : y ∈ alikeP x m G) (h2 : z ∈ alikeP y m G) : z ∈ alikeP x m G := by
  obtain ⟨t, ht, b, b0, b1, rfl⟩ := mem_alike.mp h1
  obtain ⟨u, hu, c, c0, c1, rfl⟩ := mem_alike.mp h2
  refine mem_alike.mpr ⟨comp u t, g.mul u hu t ht, (b + c) % m, Int.emod_nonneg _ (by omega), Int.emod_lt_of_pos _ (by omega), ?_⟩
  rw [behind_shift (g.is u hu) (by rw [behindP_len, hx]), behind_behind (g.is t ht) (g.is u hu) hx, shift_shift]
theorem alike_sym (g : Grp n G) (hm : 0 < m) (hx : IsS n m x) (h : y ∈ alikeP x m G) : x ∈ alikeP y m G := by
  obtain ⟨t, ht, b, b0, b1, rfl⟩ := mem_alike.mp h
  obtain ⟨u, hu, e⟩ := g.inv ht
  refine mem_alike.mpr ⟨u, hu, (-b) % m, Int.emod_nonneg _ (by omega), Int.emod_lt_of_pos _ (by omega), ?_⟩
  rw [behind_shift (g.is u hu) (by rw [behindP_len, hx.len]), behind_behind (g.is t ht) (g.is u hu) hx.len, e, behind_id hx.len, shift_shift]
  have : (b + -b % (m : Int)) % m = 0 := by
    rw [Int.add_emod_emod, show b + -b = 0 by omega]; simp
  rw [this, shift_0 hx]
end
end Pl

/-! What the sweep by a group tells: each standing's first alike one. -/
namespace Pl
open Ab
section
variable {n m : Nat} {G : List (List Int)} {s t u x y z : List Int} {A : Asc}
theorem puts_new : ∀ {os : List (List Int)} {A : Asc}, os.Nodup → (∀ o ∈ os, o ∉ A.map (·.1)) → os.foldl (fun A o => putP A o s) A = A ++ os.map fun o => (o, s)
  | [], A, _, _ => by simp
  | o :: os, A, nd, h => by
    rw [List.nodup_cons] at nd
    have h0 := h o (List.mem_cons_self ..)
    have e : putP A o s = A ++ [(o, s)] := by unfold putP; rw [if_neg h0]
    rw [List.foldl_cons, e, puts_new nd.2 fun q hq => ?_, List.map_cons, List.append_assoc]
    · rfl
    · rw [List.map_append, List.mem_append]
      rintro (z | z)
      · exact h q (List.mem_cons_of_mem _ hq) z
      · have : q = o := by simpa using z
        exact nd.1 (this ▸ hq)
structure Part (n m : Nat) (G : List (List Int)) (A : Asc) : Prop where
  sw : Sw n m G A
  cls : ∀ x ∈ A.map (·.1), ∀ y ∈ alikeP x m G, y ∈ A.map (·.1)
  rel : ∀ p ∈ A, p.1 ∈ alikeP p.2 m G
  slf : ∀ p ∈ A, (p.2, p.2) ∈ A
  inv : ∀ p ∈ A, ∀ y ∈ alikeP p.2 m G, (y, p.2) ∈ A
theorem alike_nodup : (alikeP s m G).Nodup := dd_nodup List.nodup_nil
theorem step_new (g : Grp n G) (hm : 0 < m) (w : Part n m G A) (hs : IsS n m s) (h : s ∉ A.map (·.1)) : sweepS m G A s = A ++ (alikeP s m G).map fun o => (o, s) := by
  unfold sweepS
  rw [if_neg h]
  exact puts_new alike_nodup fun o ho z => h (w.cls o z s (alike_sym g hm hs ho))
theorem Part.nil : Part n m G [] := ⟨Sw.nil, fun x h => absurd h List.not_mem_nil, fun x h => absurd h List.not_mem_nil, fun x h => absurd h List.not_mem_nil, fun x h => absurd h List.not_mem_nil⟩
theorem Part.step (g : Grp n G) (hm : 0 < m) (w : Part n m G A) (hs : IsS n m s) : Part n m G (sweepS m G A s) := by
  by_cases h : s ∈ A.map (·.1)
  · have e : sweepS m G A s = A := by unfold sweepS; rw [if_pos h]
    rw [e]; exact w
  · have e := step_new g hm w hs h
    have sw := w.sw.step (G := G) hm hs
    rw [e] at sw ⊢
    have self := alike_self (G := G) hm hs g.id
    refine ⟨sw, fun x hx y hy => ?_, fun p hp => ?_, fun p hp => ?_, fun p hp y hy => ?_⟩
    · rw [List.map_append, List.mem_append] at hx ⊢
      rcases hx with hx | hx
      · exact .inl (w.cls x hx y hy)
      · refine .inr ?_
        have hx : x ∈ alikeP s m G := by simpa using hx
        have := alike_trans g hm hs.len hx hy
        simpa using this
    · rcases List.mem_append.mp hp with hp | hp
      · exact w.rel p hp
      · obtain ⟨o, ho, rfl⟩ := List.mem_map.mp hp
        exact ho
    · rcases List.mem_append.mp hp with hp | hp
      · exact List.mem_append_left _ (w.slf p hp)
      · obtain ⟨o, ho, rfl⟩ := List.mem_map.mp hp
        exact List.mem_append_right _ (List.mem_map.mpr ⟨s, self, rfl⟩)
    · rcases List.mem_append.mp hp with hp | hp
      · exact List.mem_append_left _ (w.inv p hp y hy)
      · obtain ⟨o, ho, rfl⟩ := List.mem_map.mp hp
        exact List.mem_append_right _ (List.mem_map.mpr ⟨y, hy, rfl⟩)
theorem sweep_part (g : Grp n G) (hm : 0 < m) : Part n m G (sweepP n m G) := by
  have : ∀ (xs : List (List Int)) (A : Asc), Part n m G A → (∀ s ∈ xs, IsS n m s) → Part n m G (xs.foldl (sweepS m G) A) := by
    intro xs
    induction xs with
    | nil => intro A w _; exact w
    | cons s xs ih => intro A w h; exact ih _ (w.step g hm (h s (List.mem_cons_self ..))) fun y hy => h y (List.mem_cons_of_mem _ hy)
  exact this _ _ Part.nil fun s hs => mem_allP.mp hs
end
end Pl

/-! The law's own turning, rows of marks, classes. -/
namespace Tb
open PySem PySem.Spec L2 Ab
open Pl (IsT IsS Sw Asc allP alikeP sweepP sweepS putP orbit dd Closure)
section
variable {n m : Nat} {h : AH} {x t : List Int}
theorem u_addT {a b : List D} (hl : a.length + b.length ≤ 1000000) : addUD (.tup a) (.tup b) h = .ok (.tup (a ++ b)) h := by
  show (if a.length + b.length ≤ sizeLine then Ab.R.ok (D.tup (a ++ b)) h else Ab.R.bad) = _
  rw [if_pos (small_line hl)]
theorem fold_flat {α β : Type} {f : α → List β} : ∀ (l : List α) (acc : List β), l.foldl (fun a s => a ++ f s) acc = acc ++ l.flatMap f
  | [], acc => by simp
  | a :: l, acc => by rw [List.foldl_cons, fold_flat l, List.flatMap_cons, List.append_assoc]
end
end Tb

namespace Tb
open PySem PySem.Spec L2 Ab
open Pl (IsT IsS Sw Asc allP alikeP sweepP sweepS putP orbit dd Closure)
section
variable {n m : Nat} {h : AH} {G : List (List Int)} {s : List Int}
end
end Tb

namespace Pl
open Ab
section
variable {s x : List Int} {A : Asc}
/-- x has the value s -/
def Has (s x : List Int) (A : Asc) : Prop := x ∈ A.map (·.1) ∧ ∀ p ∈ A, p.1 = x → p.2 = s
end
end Pl
namespace Tb
open PySem PySem.Spec L2 Ab
open Pl (IsT IsS Sw Asc allP alikeP sweepP sweepS putP orbit dd Closure)
section
variable {n m : Nat} {h : AH}
end
end Tb

namespace Pl
open Ab
section
variable {n m : Nat} {G : List (List Int)} {A : Asc}
end
end Pl
namespace Tb
open PySem PySem.Spec L2 Ab
open Pl (IsT IsS Sw Asc allP alikeP sweepP sweepS putP orbit dd Closure Grp)
section
variable {n m : Nat} {h : AH} {G : List (List Int)}
theorem lc_filt2 {γ : Type} {env : En} {g : MG} {cc : Ab.M Bool} {e : Ab.M D} (mk : γ → D) (t : γ → Bool) : ∀ {xs : List γ}, (∀ x ∈ xs, ∃ env1, g (mk x) env h = .ok env1 h ∧ cc env1 h = .ok (t x) h ∧ e env1 h = .ok (mk x) h) → lcItems g cc e env (xs.map mk) h = .ok ((xs.filter t).map mk) h
  | [], _ => rfl
  | x :: xs, st => by
    obtain ⟨env1, e1, e2, e3⟩ := st x (List.mem_cons_self ..)
    have ih := lc_filt2 mk t (xs := xs) fun y hy => st y (List.mem_cons_of_mem _ hy)
    rw [List.map_cons, lc_cons, e1, List.filter_cons]
    cases q : t x with
    | true => simp [e2, e3, ih, q]
    | false => simp [e2, ih, q]
end
end Tb

namespace Tb
open PySem PySem.Spec L2 Ab
open Pl (IsT IsS Sw Asc allP alikeP sweepP sweepS putP orbit dd Closure Grp Part)
section
variable {n m : Nat} {h : AH} {G : List (List Int)} {rs : List Str} {s : List Int}
theorem tbl_below0 {q : Nat} : below q (tblD rs n m G) = true := by
  have bs : ∀ k, belowL k (rs.map D.str) = true := fun k => below_strs
  have bk : ∀ k, belowL k ((sweepP n m G).map fun p => tupI p.2) = true := fun k => below_tupF _ _
  unfold tblD
  simp [below, belowL, bs, bk]
theorem swept_of : attrD "Table" "swept" (tblD rs n m G) h = .ok (.tup ((sortT (kindsP n m G)).map tupI)) h := rfl
theorem check_c : ∀ h, callP 1 F_check_table [tblD rs n m G] h = .ok .non h := fun h => by
  have e : F_check_table [tblD rs n m G] [] = .ok .non [] := by
    have ei : initE 1 [tblD rs n m G] = [some (tblD rs n m G)] := rfl
    have ic : isiCD "Table" [tblD rs n m G, .glo "Table"] ([] : AH) = .ok (.bl true) [] := rfl
    simp only [F_check_table, m_check_table, f_T, ei, e_IfS, e_NotT, e_Tru, e_CB, e_Cons, e_V0, b_ok, k_Q, e_C, e_Nil, k_Cons, ic, k_TruB, k_NotT, Bool.not_true, t_ok, k_IfS0, e_Next, r_nx, x_ok, List.length_nil]
    exact x_cut (by simp)
  exact c_P e rfl (by simp only [belowL, tbl_below0, Bool.and_true]) (by simp)
end
end Tb

namespace Tb
open PySem PySem.Spec L2 Ab
open Pl (IsT IsS Sw Asc allP alikeP sweepP sweepS putP orbit dd Closure Grp Part)
section
variable {n m : Nat} {h : AH} {G : List (List Int)} {rs : List Str} {s t : List Int}
theorem kinds_c : ∀ h, callP 1 F_kinds [tblD rs n m G] h = .ok (.tup ((sortT (kindsP n m G)).map tupI)) h := fun h => by
  have e : F_kinds [tblD rs n m G] [] = .ok (.tup ((sortT (kindsP n m G)).map tupI)) [] := by
    have ei : initE 1 [tblD rs n m G] = [some (tblD rs n m G)] := rfl
    simp only [F_kinds, m_kinds, f_T, ei, e_Seq, e_Drop, e_CallP, e_Cons, e_V0, b_ok, k_Q, e_Nil, k_Cons, check_c, t_ok, k_Drop, go_nx, e_Ret, e_Un, swept_of, k_Ret, r_rt, x_ok, List.length_nil]
    exact x_cut (by simp [below])
  exact c_P e rfl (by simp only [belowL, tbl_below0, Bool.and_true]) (by simp [below])
end
end Tb

namespace Tb
open PySem PySem.Spec L2 Ab
open Pl (IsT IsS Sw Asc allP alikeP sweepP sweepS putP orbit dd Closure Grp Part)
section
variable {n m : Nat} {h : AH} {G : List (List Int)} {rs : List Str} {s t k : List Int}
end
end Tb

namespace Tb
open PySem PySem.Spec L2 Ab
open Pl (IsT IsS Sw Asc allP alikeP sweepP sweepS putP orbit dd Closure Grp Part)
section
variable {n m : Nat} {h : AH} {G : List (List Int)} {rs : List Str} {s : List Int}
def bellB (s : List Int) : Bool := (s.map fun x => decide (x = s.getD 0 0)).all id
end
end Tb

namespace Tb
open PySem PySem.Spec L2 Ab
open Pl (IsT IsS Sw Asc allP alikeP sweepP sweepS putP orbit dd Closure Grp Part)
section
variable {n m : Nat} {h : AH} {G : List (List Int)} {rs : List Str} {s v : List Int}
/-- one mark to the other -/
def addP (s v : List Int) (m : Nat) : List Int := (Pl.rngI s.length).map fun k => (s.getD k.toNat 0 + v.getD k.toNat 0) % m
end
end Tb

namespace Tb
open PySem PySem.Spec L2 Ab
open Pl (IsT IsS Sw Asc allP alikeP sweepP sweepS putP orbit dd Closure Grp Part)
section
variable {n m : Nat} {h : AH} {G : List (List Int)} {rs : List Str} {s v : List Int}
end
end Tb

namespace Tb
open PySem PySem.Spec L2 Ab
open Pl (IsT IsS Sw Asc allP alikeP sweepP sweepS putP orbit dd Closure Grp Part)
section
variable {n m k : Nat} {h : AH}
end
end Tb

/-! Counting by value; alike standings have one kind. -/
namespace Pl
open Ab
section
variable {n m : Nat} {G : List (List Int)} {A : Asc} {x y v : List Int}
/-- alike standings have one kind -/
theorem Part.same (w : Part n m G A) (g : Grp n G) (hm : 0 < m) (hx : (x, v) ∈ A) (hy : y ∈ alikeP x m G) : (y, v) ∈ A := by
  have iv := w.sw.val _ hx
  exact w.inv _ hx y (alike_trans g hm iv.len (w.rel _ hx) hy)
end
end Pl

namespace Ab
open PySem PySem.Spec L2
theorem e_V11 {o0 o1 o2 o3 o4 o5 o6 o7 o8 o9 o10 : Option D} {r : En} {d : D} {h : AH} : mVar 11 (o0 :: o1 :: o2 :: o3 :: o4 :: o5 :: o6 :: o7 :: o8 :: o9 :: o10 :: some d :: r) h = .ok d h := rfl.trans rfl
theorem e_V12 {o0 o1 o2 o3 o4 o5 o6 o7 o8 o9 o10 o11 : Option D} {r : En} {d : D} {h : AH} : mVar 12 (o0 :: o1 :: o2 :: o3 :: o4 :: o5 :: o6 :: o7 :: o8 :: o9 :: o10 :: o11 :: some d :: r) h = .ok d h := rfl.trans rfl
theorem e_V13 {o0 o1 o2 o3 o4 o5 o6 o7 o8 o9 o10 o11 o12 : Option D} {r : En} {d : D} {h : AH} : mVar 13 (o0 :: o1 :: o2 :: o3 :: o4 :: o5 :: o6 :: o7 :: o8 :: o9 :: o10 :: o11 :: o12 :: some d :: r) h = .ok d h := rfl.trans rfl
theorem e_V14 {o0 o1 o2 o3 o4 o5 o6 o7 o8 o9 o10 o11 o12 o13 : Option D} {r : En} {d : D} {h : AH} : mVar 14 (o0 :: o1 :: o2 :: o3 :: o4 :: o5 :: o6 :: o7 :: o8 :: o9 :: o10 :: o11 :: o12 :: o13 :: some d :: r) h = .ok d h := rfl.trans rfl
theorem e_V15 {o0 o1 o2 o3 o4 o5 o6 o7 o8 o9 o10 o11 o12 o13 o14 : Option D} {r : En} {d : D} {h : AH} : mVar 15 (o0 :: o1 :: o2 :: o3 :: o4 :: o5 :: o6 :: o7 :: o8 :: o9 :: o10 :: o11 :: o12 :: o13 :: o14 :: some d :: r) h = .ok d h := rfl.trans rfl
theorem e_V16 {o0 o1 o2 o3 o4 o5 o6 o7 o8 o9 o10 o11 o12 o13 o14 o15 : Option D} {r : En} {d : D} {h : AH} : mVar 16 (o0 :: o1 :: o2 :: o3 :: o4 :: o5 :: o6 :: o7 :: o8 :: o9 :: o10 :: o11 :: o12 :: o13 :: o14 :: o15 :: some d :: r) h = .ok d h := rfl.trans rfl
theorem e_V17 {o0 o1 o2 o3 o4 o5 o6 o7 o8 o9 o10 o11 o12 o13 o14 o15 o16 : Option D} {r : En} {d : D} {h : AH} : mVar 17 (o0 :: o1 :: o2 :: o3 :: o4 :: o5 :: o6 :: o7 :: o8 :: o9 :: o10 :: o11 :: o12 :: o13 :: o14 :: o15 :: o16 :: some d :: r) h = .ok d h := rfl.trans rfl
theorem e_V18 {o0 o1 o2 o3 o4 o5 o6 o7 o8 o9 o10 o11 o12 o13 o14 o15 o16 o17 : Option D} {r : En} {d : D} {h : AH} : mVar 18 (o0 :: o1 :: o2 :: o3 :: o4 :: o5 :: o6 :: o7 :: o8 :: o9 :: o10 :: o11 :: o12 :: o13 :: o14 :: o15 :: o16 :: o17 :: some d :: r) h = .ok d h := rfl.trans rfl
theorem e_V19 {o0 o1 o2 o3 o4 o5 o6 o7 o8 o9 o10 o11 o12 o13 o14 o15 o16 o17 o18 : Option D} {r : En} {d : D} {h : AH} : mVar 19 (o0 :: o1 :: o2 :: o3 :: o4 :: o5 :: o6 :: o7 :: o8 :: o9 :: o10 :: o11 :: o12 :: o13 :: o14 :: o15 :: o16 :: o17 :: o18 :: some d :: r) h = .ok d h := rfl.trans rfl
theorem e_V20 {o0 o1 o2 o3 o4 o5 o6 o7 o8 o9 o10 o11 o12 o13 o14 o15 o16 o17 o18 o19 : Option D} {r : En} {d : D} {h : AH} : mVar 20 (o0 :: o1 :: o2 :: o3 :: o4 :: o5 :: o6 :: o7 :: o8 :: o9 :: o10 :: o11 :: o12 :: o13 :: o14 :: o15 :: o16 :: o17 :: o18 :: o19 :: some d :: r) h = .ok d h := rfl.trans rfl
theorem e_V21 {o0 o1 o2 o3 o4 o5 o6 o7 o8 o9 o10 o11 o12 o13 o14 o15 o16 o17 o18 o19 o20 : Option D} {r : En} {d : D} {h : AH} : mVar 21 (o0 :: o1 :: o2 :: o3 :: o4 :: o5 :: o6 :: o7 :: o8 :: o9 :: o10 :: o11 :: o12 :: o13 :: o14 :: o15 :: o16 :: o17 :: o18 :: o19 :: o20 :: some d :: r) h = .ok d h := rfl.trans rfl
theorem e_V22 {o0 o1 o2 o3 o4 o5 o6 o7 o8 o9 o10 o11 o12 o13 o14 o15 o16 o17 o18 o19 o20 o21 : Option D} {r : En} {d : D} {h : AH} : mVar 22 (o0 :: o1 :: o2 :: o3 :: o4 :: o5 :: o6 :: o7 :: o8 :: o9 :: o10 :: o11 :: o12 :: o13 :: o14 :: o15 :: o16 :: o17 :: o18 :: o19 :: o20 :: o21 :: some d :: r) h = .ok d h := rfl.trans rfl
theorem e_V23 {o0 o1 o2 o3 o4 o5 o6 o7 o8 o9 o10 o11 o12 o13 o14 o15 o16 o17 o18 o19 o20 o21 o22 : Option D} {r : En} {d : D} {h : AH} : mVar 23 (o0 :: o1 :: o2 :: o3 :: o4 :: o5 :: o6 :: o7 :: o8 :: o9 :: o10 :: o11 :: o12 :: o13 :: o14 :: o15 :: o16 :: o17 :: o18 :: o19 :: o20 :: o21 :: o22 :: some d :: r) h = .ok d h := rfl.trans rfl
theorem e_V24 {o0 o1 o2 o3 o4 o5 o6 o7 o8 o9 o10 o11 o12 o13 o14 o15 o16 o17 o18 o19 o20 o21 o22 o23 : Option D} {r : En} {d : D} {h : AH} : mVar 24 (o0 :: o1 :: o2 :: o3 :: o4 :: o5 :: o6 :: o7 :: o8 :: o9 :: o10 :: o11 :: o12 :: o13 :: o14 :: o15 :: o16 :: o17 :: o18 :: o19 :: o20 :: o21 :: o22 :: o23 :: some d :: r) h = .ok d h := rfl.trans rfl
theorem e_V25 {o0 o1 o2 o3 o4 o5 o6 o7 o8 o9 o10 o11 o12 o13 o14 o15 o16 o17 o18 o19 o20 o21 o22 o23 o24 : Option D} {r : En} {d : D} {h : AH} : mVar 25 (o0 :: o1 :: o2 :: o3 :: o4 :: o5 :: o6 :: o7 :: o8 :: o9 :: o10 :: o11 :: o12 :: o13 :: o14 :: o15 :: o16 :: o17 :: o18 :: o19 :: o20 :: o21 :: o22 :: o23 :: o24 :: some d :: r) h = .ok d h := rfl.trans rfl
theorem e_V26 {o0 o1 o2 o3 o4 o5 o6 o7 o8 o9 o10 o11 o12 o13 o14 o15 o16 o17 o18 o19 o20 o21 o22 o23 o24 o25 : Option D} {r : En} {d : D} {h : AH} : mVar 26 (o0 :: o1 :: o2 :: o3 :: o4 :: o5 :: o6 :: o7 :: o8 :: o9 :: o10 :: o11 :: o12 :: o13 :: o14 :: o15 :: o16 :: o17 :: o18 :: o19 :: o20 :: o21 :: o22 :: o23 :: o24 :: o25 :: some d :: r) h = .ok d h := rfl.trans rfl
theorem e_V27 {o0 o1 o2 o3 o4 o5 o6 o7 o8 o9 o10 o11 o12 o13 o14 o15 o16 o17 o18 o19 o20 o21 o22 o23 o24 o25 o26 : Option D} {r : En} {d : D} {h : AH} : mVar 27 (o0 :: o1 :: o2 :: o3 :: o4 :: o5 :: o6 :: o7 :: o8 :: o9 :: o10 :: o11 :: o12 :: o13 :: o14 :: o15 :: o16 :: o17 :: o18 :: o19 :: o20 :: o21 :: o22 :: o23 :: o24 :: o25 :: o26 :: some d :: r) h = .ok d h := rfl.trans rfl
theorem e_V28 {o0 o1 o2 o3 o4 o5 o6 o7 o8 o9 o10 o11 o12 o13 o14 o15 o16 o17 o18 o19 o20 o21 o22 o23 o24 o25 o26 o27 : Option D} {r : En} {d : D} {h : AH} : mVar 28 (o0 :: o1 :: o2 :: o3 :: o4 :: o5 :: o6 :: o7 :: o8 :: o9 :: o10 :: o11 :: o12 :: o13 :: o14 :: o15 :: o16 :: o17 :: o18 :: o19 :: o20 :: o21 :: o22 :: o23 :: o24 :: o25 :: o26 :: o27 :: some d :: r) h = .ok d h := rfl.trans rfl
theorem e_V29 {o0 o1 o2 o3 o4 o5 o6 o7 o8 o9 o10 o11 o12 o13 o14 o15 o16 o17 o18 o19 o20 o21 o22 o23 o24 o25 o26 o27 o28 : Option D} {r : En} {d : D} {h : AH} : mVar 29 (o0 :: o1 :: o2 :: o3 :: o4 :: o5 :: o6 :: o7 :: o8 :: o9 :: o10 :: o11 :: o12 :: o13 :: o14 :: o15 :: o16 :: o17 :: o18 :: o19 :: o20 :: o21 :: o22 :: o23 :: o24 :: o25 :: o26 :: o27 :: o28 :: some d :: r) h = .ok d h := rfl.trans rfl
theorem e_V30 {o0 o1 o2 o3 o4 o5 o6 o7 o8 o9 o10 o11 o12 o13 o14 o15 o16 o17 o18 o19 o20 o21 o22 o23 o24 o25 o26 o27 o28 o29 : Option D} {r : En} {d : D} {h : AH} : mVar 30 (o0 :: o1 :: o2 :: o3 :: o4 :: o5 :: o6 :: o7 :: o8 :: o9 :: o10 :: o11 :: o12 :: o13 :: o14 :: o15 :: o16 :: o17 :: o18 :: o19 :: o20 :: o21 :: o22 :: o23 :: o24 :: o25 :: o26 :: o27 :: o28 :: o29 :: some d :: r) h = .ok d h := rfl.trans rfl
theorem len5 {l : En} (e : l.length = 5) : ∃ x1 x2 x3 x4 x5 : Option D, l = [x1, x2, x3, x4, x5] := by
  match l, e with
  | [x1, x2, x3, x4, x5], _ => exact ⟨_, _, _, _, _, rfl⟩
/-- a spring's def: at place 0 the spring -/
def Ev (N k : Nat) (E : En) : Prop := ∃ l : En, E = some (.loc k) :: l ∧ l.length = N
theorem k_L0 {h : AH} : kLst [] h = .ok [] h := k_Lst (by simp)
theorem k_T0 {h : AH} : kTup [] h = .ok (.tup []) h := k_Tup (by simp)
theorem k_L1 {a0 : D} {h : AH} : kLst [a0] h = .ok [a0] h := k_Lst (by simp)
theorem k_T1 {a0 : D} {h : AH} : kTup [a0] h = .ok (.tup [a0]) h := k_Tup (by simp)
theorem k_L2 {a0 a1 : D} {h : AH} : kLst [a0, a1] h = .ok [a0, a1] h := k_Lst (by simp)
theorem k_T2 {a0 a1 : D} {h : AH} : kTup [a0, a1] h = .ok (.tup [a0, a1]) h := k_Tup (by simp)
theorem k_L3 {a0 a1 a2 : D} {h : AH} : kLst [a0, a1, a2] h = .ok [a0, a1, a2] h := k_Lst (by simp)
theorem k_T3 {a0 a1 a2 : D} {h : AH} : kTup [a0, a1, a2] h = .ok (.tup [a0, a1, a2]) h := k_Tup (by simp)
theorem k_L4 {a0 a1 a2 a3 : D} {h : AH} : kLst [a0, a1, a2, a3] h = .ok [a0, a1, a2, a3] h := k_Lst (by simp)
theorem k_T4 {a0 a1 a2 a3 : D} {h : AH} : kTup [a0, a1, a2, a3] h = .ok (.tup [a0, a1, a2, a3]) h := k_Tup (by simp)
theorem k_L5 {a0 a1 a2 a3 a4 : D} {h : AH} : kLst [a0, a1, a2, a3, a4] h = .ok [a0, a1, a2, a3, a4] h := k_Lst (by simp)
theorem k_T5 {a0 a1 a2 a3 a4 : D} {h : AH} : kTup [a0, a1, a2, a3, a4] h = .ok (.tup [a0, a1, a2, a3, a4]) h := k_Tup (by simp)
theorem k_L6 {a0 a1 a2 a3 a4 a5 : D} {h : AH} : kLst [a0, a1, a2, a3, a4, a5] h = .ok [a0, a1, a2, a3, a4, a5] h := k_Lst (by simp)
theorem k_T6 {a0 a1 a2 a3 a4 a5 : D} {h : AH} : kTup [a0, a1, a2, a3, a4, a5] h = .ok (.tup [a0, a1, a2, a3, a4, a5]) h := k_Tup (by simp)
theorem k_L7 {a0 a1 a2 a3 a4 a5 a6 : D} {h : AH} : kLst [a0, a1, a2, a3, a4, a5, a6] h = .ok [a0, a1, a2, a3, a4, a5, a6] h := k_Lst (by simp)
theorem k_T7 {a0 a1 a2 a3 a4 a5 a6 : D} {h : AH} : kTup [a0, a1, a2, a3, a4, a5, a6] h = .ok (.tup [a0, a1, a2, a3, a4, a5, a6]) h := k_Tup (by simp)
theorem k_L8 {a0 a1 a2 a3 a4 a5 a6 a7 : D} {h : AH} : kLst [a0, a1, a2, a3, a4, a5, a6, a7] h = .ok [a0, a1, a2, a3, a4, a5, a6, a7] h := k_Lst (by simp)
theorem k_T8 {a0 a1 a2 a3 a4 a5 a6 a7 : D} {h : AH} : kTup [a0, a1, a2, a3, a4, a5, a6, a7] h = .ok (.tup [a0, a1, a2, a3, a4, a5, a6, a7]) h := k_Tup (by simp)
theorem p_1_0 {a0 d : D} : permL 0 1 [0] d [] [a0] = [a0] := rfl.trans rfl
theorem p_2_01 {a0 a1 d : D} : permL 0 2 [0, 1] d [] [a0, a1] = [a0, a1] := rfl.trans rfl
theorem p_2_10 {a0 a1 d : D} : permL 0 2 [1, 0] d [] [a0, a1] = [a1, a0] := rfl.trans rfl
theorem p_3_012 {a0 a1 a2 d : D} : permL 0 3 [0, 1, 2] d [] [a0, a1, a2] = [a0, a1, a2] := rfl.trans rfl
theorem p_3_021 {a0 a1 a2 d : D} : permL 0 3 [0, 2, 1] d [] [a0, a1, a2] = [a0, a2, a1] := rfl.trans rfl
theorem p_3_102 {a0 a1 a2 d : D} : permL 0 3 [1, 0, 2] d [] [a0, a1, a2] = [a1, a0, a2] := rfl.trans rfl
theorem p_3_120 {a0 a1 a2 d : D} : permL 0 3 [1, 2, 0] d [] [a0, a1, a2] = [a1, a2, a0] := rfl.trans rfl
theorem p_3_201 {a0 a1 a2 d : D} : permL 0 3 [2, 0, 1] d [] [a0, a1, a2] = [a2, a0, a1] := rfl.trans rfl
theorem p_3_210 {a0 a1 a2 d : D} : permL 0 3 [2, 1, 0] d [] [a0, a1, a2] = [a2, a1, a0] := rfl.trans rfl
end Ab
namespace Tb
open PySem PySem.Spec L2 Ab
open Pl (IsT IsS Sw Asc allP alikeP sweepP sweepS putP orbit dd Closure Grp Part)
section
variable {n m k : Nat} {h : AH} {G : List (List Int)} {rs : List Str} {s v : List Int}
/-- a table as the laws draw it -/
structure Tab (rs : List Str) (n m : Nat) (G : List (List Int)) : Prop where
  r : ∃ told, Rows rs n m told
  rw : Rw rs n m 3
  h1 : 1 ≤ n
  hn : n ≤ 5
  m2 : 2 ≤ m
  m9 : m ≤ 9
  hp : m ^ n ≤ 288
  g : Grp n G
  lg : G.length ≤ 120
  so : sortT G = G
  made : ∀ h, callP 1 F__law_made [.lst (rs.map D.str)] h = .ok (tblD rs n m G) h
  grp : ∀ h, callP 1 F__law_group [.lst (rs.map D.str)] h = .ok (.lst (G.map tupI)) h
  head : ∀ h, callP 1 F__law_head [.lst (rs.map D.str)] h = .ok (.lst [.int n, .int m]) h
  kby : ∀ h, callP 1 F__law_kinds_by [.lst (rs.map D.str)] h = .ok (.dic ((sweepP n m G).map fun p => kI p.1) ((sweepP n m G).map fun p => tupI p.2)) h
  knd : ∀ h, callP 1 F__law_kinds [.lst (rs.map D.str)] h = .ok (.tup ((sortT (kindsP n m G)).map tupI)) h
theorem Tab.m0 (T : Tab rs n m G) : 0 < m := by have := T.m2; omega
theorem Tab.part (T : Tab rs n m G) : Part n m G (sweepP n m G) := Pl.sweep_part T.g T.m0
theorem Tab.len (T : Tab rs n m G) : (sweepP n m G).length ≤ 288 := by
  have w := T.part.sw
  have := keys_len T.hp w.nod w.key
  simpa using this
/-- known[each] -/
theorem Tab.ix (T : Tab rs n m G) (hv : (s, v) ∈ sweepP n m G) : ∀ h, ixUD (.dic ((sweepP n m G).map fun p => kI p.1) ((sweepP n m G).map fun p => tupI p.2)) (tupI s) h = .ok (tupI v) h := fun h => by
  refine u_ixD keyT_tupI ?_
  rw [show ((sweepP n m G).map fun p => kI p.1).zip ((sweepP n m G).map fun p => tupI p.2) = dctP (sweepP n m G) from zip_maps _]
  exact dctP_at T.part.sw.nod (s, v) hv
end
end Tb

namespace Ab
open PySem PySem.Spec L2
mutual
theorem below_mono {q : Nat} : ∀ {d : D}, below 0 d = true → below q d = true
  | .tup ds, h => by simp only [below] at h ⊢; exact belowL_mono h
  | .lst ds, h => by simp only [below] at h ⊢; exact belowL_mono h
  | .scr ds, h => by simp only [below] at h ⊢; exact belowL_mono h
  | .obj _ _ ds, h => by simp only [below] at h ⊢; exact belowL_mono h
  | .dic _ ds, h => by simp only [below] at h ⊢; exact belowL_mono h
  | .nd _ ds, h => by simp only [below] at h ⊢; exact belowL_mono h
  | .exv _ _ ds, h => by simp only [below] at h ⊢; exact belowL_mono h
  | .loc n, h => by simp [below] at h
  | .fn _, _ => by simp [below]
  | .dk _, _ => by simp [below]
  | .dv _ ds, h => by simp only [below] at h ⊢; exact belowL_mono h
  | .non, _ => by simp [below]
  | .bl _, _ => by simp [below]
  | .int _, _ => by simp [below]
  | .str _, _ => by simp [below]
  | .ty _, _ => by simp [below]
  | .glo _, _ => by simp [below]
theorem belowL_mono {q : Nat} : ∀ {ds : List D}, belowL 0 ds = true → belowL q ds = true
  | [], _ => rfl
  | d :: ds, h => by
    simp only [belowL, Bool.and_eq_true] at h ⊢
    exact ⟨below_mono h.1, belowL_mono h.2⟩
end
end Ab
namespace Tb
open PySem PySem.Spec L2 Ab
section
theorem lc_trueI {env : En} {g : MG} {e : Ab.M D} (I : AH → Prop) : ∀ {ds : List D} {h : AH}, I h → (∀ d ∈ ds, ∀ h, I h → ∃ env1 h1 h', g d env h = .ok env1 h1 ∧ e env1 h1 = .ok (.bl true) h' ∧ I h') → ∃ h', lcItems g (fun _ h => .ok true h) e env ds h = .ok (List.replicate ds.length (.bl true)) h'
  | [], h, _, _ => ⟨h, rfl⟩
  | d :: ds, h, i, st => by
    obtain ⟨env1, h1, h2, e1, e2, i2⟩ := st d (List.mem_cons_self ..) h i
    obtain ⟨h3, e3⟩ := lc_trueI I (ds := ds) (h := h2) i2 fun d hd => st d (List.mem_cons_of_mem _ hd)
    exact ⟨h3, by rw [lc_cons, e1]; simp [e2, e3, List.replicate_succ]⟩
theorem manyW {L : Nat} {W : Int} (hW : 2 ≤ W) : ∃ w : Int, 2 ≤ w ∧ w ≤ W ∧ ∀ h, max2D [.int 2, .int (if W < L then W else L)] h = .ok (.int w) h := by
  have hle : (if W < (L : Int) then W else (L : Int)) ≤ W := by
    by_cases p : W < (L : Int)
    · rw [if_pos p]; omega
    · rw [if_neg p]; omega
  generalize (if W < (L : Int) then W else (L : Int)) = x at *
  by_cases q : (2 : Int) < x
  · exact ⟨x, by omega, hle, fun h => by rw [o_max2, if_pos q]⟩
  · exact ⟨2, by omega, hW, fun h => by rw [o_max2, if_neg q]⟩
abbrev tailP (W : Int) (iv : Nat) (FR FS : Fn) : MS := mRet (mCB (allD false) (mCons (mFrz (mLc (miRng1 (mCons (mCB max2D (mCons (mC (.int 2)) (mCons (mCB min2D (mCons (mCB lenUD (mCons (mVar 0) mNil)) (mCons (mC (.int W)) mNil))) mNil))) mNil)) (mgName iv) (fun _ h => .ok true h) (mCall 1 FR (mCons (mCall 2 FS (mCons (mVar 0) (mCons (mVar iv) mNil))) mNil)) [iv])) mNil))
theorem fl_nil : Fl [] := fun i o e => by cases e
/-- the law's last row: all springs -/
theorem tail {FR FS : Fn} (hS : FS = F__law_spring) (hR : ∀ h k, Sp3 h k → Fl h → ∃ h', FR [.loc k] h = .ok (.bl true) h' ∧ Fl h') {W : Int} (hW : 2 ≤ W) (hW2 : W ≤ 20) {iv : Nat} {r : En} {ns : List Int} (hl : ns.length ≤ 63) (hi : iv ≤ r.length) (h0 : iv ≠ 0) {h : AH} (fl0 : Fl h) : ∃ h', tailP W iv FR FS (some (.scr (ns.map .int)) :: r) h = .rt (.bl true) h' := by
  subst hS
  obtain ⟨w, w1, w2, ew⟩ := manyW (L := ns.length) hW
  have l1 : lenUD [.scr (ns.map .int)] h = .ok (.int ns.length) h := by simp
  have l2 : min2D [.int ns.length, .int W] h = .ok (.int (if W < ns.length then W else ns.length)) h := rfl
  have hr : (rngD 0 w).length ≤ sizeLine := by rw [rngD_len]; exact small_line (by omega)
  obtain ⟨j, rfl⟩ : ∃ j, iv = j + 1 := ⟨iv - 1, by omega⟩
  obtain ⟨h', lc⟩ := lc_trueI (g := mgName (j + 1)) (e := mCall 1 FR (mCons (mCall 2 F__law_spring (mCons (mVar 0) (mCons (mVar (j + 1)) mNil))) mNil)) (env := some (.scr (ns.map .int)) :: r.set j none) Fl (ds := rngD 0 w) (h := h) fl0 (by
    intro d md h fh
    obtain ⟨i, rfl, i1, i2⟩ := rngD_mem md
    obtain ⟨a, b, c, e, a1, b1, b2⟩ := spring_ok (h := h) (ns := ns) (k := i) i1 (by omega) hl
    have f2 : Fl (h ++ [.lst [.int a, .int b, .int c]]) := fh.app (ns := [a, b, c])
    obtain ⟨h2, e2, f3⟩ := hR _ _ (sp3_new (h := h) (c := c) a1 b1 b2) f2
    have k1 : kCall 2 F__law_spring [.scr (ns.map .int), .int i] h = .ok (.loc h.length) (h ++ [.lst [.int a, .int b, .int c]]) := (k_Call rfl).trans e
    have k2 : kCall 1 FR [.loc h.length] (h ++ [.lst [.int a, .int b, .int c]]) = .ok (.bl true) h2 := (k_Call rfl).trans e2
    refine ⟨some (.scr (ns.map .int)) :: (r.set j none).set j (some (.int i)), _, h2, rfl, ?_, f3⟩
    have ev : ∀ h, mVar (j + 1) (some (.scr (ns.map .int)) :: (r.set j none).set j (some (.int i))) h = .ok (.int i) h := fun h => e_V (by
      rw [List.getElem?_cons_succ, List.getElem?_set_self (by rw [List.length_set]; omega)])
    simp only [e_Call, e_Cons, e_V0, ev, b_ok, k_Q, e_Nil, k_Cons, k1, k2])
  refine ⟨h', ?_⟩
  simp only [e_Ret, e_CB, e_Cons, e_Frz, e_Lc, i_R1, e_C, e_V0, b_ok, k_Q, e_Nil, k_Cons, l1, l2, ew, k_R1 (show -(2 ^ 62) ≤ w by omega) (show w < 2 ^ 62 by omega), wipe_cons, wipe_nil, List.set_cons_succ, k_Lc hr]
  rw [lc]
  simp only [b_ok, k_Frz, k_Q, e_Nil, k_Cons, all_true, t_ok, k_Ret]
/-- a law, behind its closed rows -/
theorem law_of {F : Fn} {N : Nat} {m : MS} {ns : List Int} {h2 : AH} (hF : F = mFnT N m) (e : m (initE N [.scr (ns.map .int)]) [] = .rt (.bl true) h2) : ∃ h', F [.scr (ns.map Ab.D.int)] [] = .ok (.bl true) h' := by
  obtain ⟨h3, e3⟩ := x_bl (h := h2) (n := ([] : AH).length) (b := true)
  exact ⟨h3, by rw [hF, f_T, e, r_rt, x_ok, e3]⟩
end
end Tb

namespace Tb
open PySem PySem.Spec L2 Ab
open Pl (IsT IsS dd allP)
section
variable {γ : Type} {h : AH} {env : En} {n m : Nat}
abbrev ddS (acc : List (List Int)) (x : List Int) : List (List Int) := if x ∈ acc then acc else acc ++ [x]
end
end Tb

/-! Kinds, what may be left: plain. -/
namespace Tb
open PySem PySem.Spec L2 Ab
open Pl (IsT IsS Sw Asc allP alikeP sweepP dd Grp Part comp)
section
variable {n m : Nat} {G lot : List (List Int)} {rs : List Str} {s t u v x y : List Int}
/-- the kind of a standing -/
def kindP (n m : Nat) (G : List (List Int)) (s : List Int) : List Int := match (sweepP n m G).find? (fun p => decide (p.1 = s)) with
  | some p => p.2
  | none => []
theorem Tab.kinds_isS (T : Tab rs n m G) (h : v ∈ kindsP n m G) : IsS n m v := Tb.kinds_isS T.m0 h
/-! sums -/
theorem addP_len : (addP s v m).length = s.length := by simp [addP]
theorem addP_getD {i : Nat} (hi : i < s.length) : (addP s v m).getD i 0 = (s.getD i 0 + v.getD i 0) % m := by
  unfold addP Pl.rngI
  rw [List.getD_eq_getElem?_getD, List.getElem?_map, List.getElem?_map, List.getElem?_range hi]
  simp
/-! the bell -/
theorem zero_getD {i : Nat} : (zeroP n).getD i 0 = 0 := by
  rw [List.getD_eq_getElem?_getD, List.getElem?_replicate]
  split <;> rfl
/-! what may be left -/
def outP (m : Nat) (G : List (List Int)) (k v : List Int) : List (List Int) := dd [] (G.map fun t => addP (Pl.behindP k t) v m)
def someP (m : Nat) (G lot : List (List Int)) (v : List Int) : List (List Int) := lot.flatMap fun k => (outP m G k v).filter fun s => !bellB s
def leftP (n m : Nat) (G lot : List (List Int)) (v : List Int) : List (List Int) := sortT (dd [] ((someP m G lot v).map (kindP n m G)))
/-- a lot: kinds, none twice -/
structure Lot (n m : Nat) (G lot : List (List Int)) : Prop where
  sub : ∀ k ∈ lot, k ∈ kindsP n m G
  nod : lot.Nodup
  up : UpT lot
theorem Lot.nil : Lot n m G [] := ⟨fun k h => absurd h List.not_mem_nil, List.nodup_nil, .nil⟩
theorem Lot.filter (l : Lot n m G lot) (p : List Int → Bool) : Lot n m G (lot.filter p) := ⟨fun k h => l.sub k (List.mem_filter.mp h).1, l.nod.sublist List.filter_sublist, List.Pairwise.sublist List.filter_sublist l.up⟩
theorem Lot.sublist {l2 : List (List Int)} (l : Lot n m G lot) (p : l2.Sublist lot) : Lot n m G l2 := ⟨fun k h => l.sub k (p.subset h), l.nod.sublist p, List.Pairwise.sublist p l.up⟩
theorem Lot.is (T : Tab rs n m G) (l : Lot n m G lot) : ∀ k ∈ lot, IsS n m k := fun k h => T.kinds_isS (l.sub k h)
end
end Tb

namespace Tb
open PySem PySem.Spec L2 Ab
def m_coming_from : MS :=
  (mRet (mFrz (mCBF listUD (mCons (mDicF (mCm (miU (mUn (attrD "Table" "group") (mVar 0))) (mgName 3) (fun _ h => .ok true h) (acD (mCallP 3 F_added (mCons (mCallP 2 F_behind_turn (mCons (mVar 1) (mCons (mVar 3) mNil))) (mCons (mVar 2) (mCons (mUn (attrD "Table" "size") (mVar 0)) mNil)))) (mC (.bl true))) [] [3])) mNil))))
def F_coming_from : Fn := mFnT 4 m_coming_from
def m_left_of : MS :=
  (mSeq (mAsg (mFrz (mLc2 (miU (mVar 1)) (mgName 4) (fun _ h => .ok true h) (miU (mCallP 3 F_coming_from (mCons (mVar 0) (mCons (mVar 4) (mCons (mVar 2) mNil))))) (mgName 5) (mNotT (mTru (mCallP 1 F_is_bell (mCons (mVar 5) mNil)))) (mVar 5) [4, 5] [5])) (mgName 3))
  (mRet (mCB tupleD (mCons (mFrz (mSortS (mCm (miU (mVar 3)) (mgName 5) (fun _ h => .ok true h) (acS (mCallP 2 F_kind_of (mCons (mVar 0) (mCons (mVar 5) mNil)))) [] [5]))) mNil))))
def F_left_of : Fn := mFnT 6 m_left_of
def b__law_behind_all_1 : MS :=
  (mSeq (mAsg (mBin ixUD (mVar 1) (mCallP 3 F__law_sum (mCons (mCallP 2 F__law_behind (mCons (mVar 7) (mCons (mVar 8) mNil))) (mCons (mVar 3) (mCons (mVar 4) mNil))))) (mgName 9))
  (mIfS (mAndT (mBl (mBin neD (mVar 9) (mBin mulUD (mTup (mCons (mC (.int 0)) mNil)) (mCB lenUD (mCons (mVar 7) mNil))))) (mBl (mBin (inUD true) (mVar 9) (mVar 5)))) (mDrop (mMethT isLoc appendD (mVar 5) (mCons (mVar 9) mNil))) mNext))
def m__law_behind_all : MS :=
  (mSeq (mPar3 4 5 6 (mCons (mBin ixUD (mCallP 1 F__law_head (mCons (mVar 0) mNil)) (mC (.int 1))) (mCons (mOwn (mLst mNil)) (mCons (mCallP 1 F__law_group (mCons (mVar 0) mNil)) mNil))))
  (mSeq (mFor (miU (mVar 1)) (mgName 7) (mIfS (mBl (mBin (inUD false) (mBin ixUD (mVar 1) (mVar 7)) (mVar 2))) (mFor (miU (mVar 6)) (mgName 8) b__law_behind_all_1) mNext))
  (mRet (mCB tupleD (mCons (mFrz (mCBF sortedUD (mCons (mVar 5) mNil))) mNil)))))
def F__law_behind_all : Fn := mFnT 10 m__law_behind_all
def m_is_lot : MS :=
  (mSeq (mIfS (mOrT (mNotT (mTru (mCB isiD (mCons (mVar 1) (mCons (mC (.ty "tuple")) mNil))))) (mNotT (mTru (mCB (allD false) (mCons (mFrz (mLc (miU (mVar 1)) (mgName 2) (fun _ h => .ok true h) (mAnd (mCallP 2 F_are_marks (mCons (mVar 0) (mCons (mVar 2) mNil))) (mBin (inUD false) (mVar 2) (mUn (attrD "Table" "swept") (mVar 0)))) [2])) mNil))))) (mRet (mC (.bl false))) mNext)
  (mRet (mCB (allD false) (mCons (mFrz (mLc (miRng1 (mCons (mBin subD (mCB lenUD (mCons (mVar 1) mNil)) (mC (.int 1))) mNil)) (mgName 3) (fun _ h => .ok true h) (mBin ltUD (mBin ixUD (mVar 1) (mVar 3)) (mBin ixUD (mVar 1) (mBin addUD (mVar 3) (mC (.int 1))))) [3])) mNil))))
def F_is_lot : Fn := mFnT 4 m_is_lot
def m_check_lot : MS :=
  (mIfS (mNotT (mTru (mCallP 2 F_is_lot (mCons (mVar 0) (mCons (mVar 1) mNil))))) (fun _ _ => .bad) mNext)
def F_check_lot : Fn := mFnT 2 m_check_lot
def m_after : MS :=
  (mSeq (mDrop (mCallP 1 F_check_table (mCons (mVar 0) mNil)))
  (mSeq (mDrop (mCallP 2 F_check_lot (mCons (mVar 0) (mCons (mVar 1) mNil))))
  (mSeq (mDrop (mCallP 2 F_check_move (mCons (mVar 0) (mCons (mVar 2) mNil))))
  (mRet (mCallP 3 F_left_of (mCons (mVar 0) (mCons (mVar 1) (mCons (mVar 2) mNil))))))))
def F_after : Fn := mFnT 3 m_after
end Tb

/-! after, of a lot. -/
namespace Tb
open PySem PySem.Spec L2 Ab
open Pl (IsT IsS Sw Asc allP alikeP sweepP dd Grp Part comp)
section
variable {n m : Nat} {h : AH} {G lot : List (List Int)} {rs : List Str} {s t v k : List Int}
end
end Tb

/-! What sums reach: plain. -/
namespace Tb
open PySem PySem.Spec L2 Ab
open Pl (IsT IsS allP dd)
section
variable {n m : Nat} {R : List (List Int)} {s t u v x y z : List Int}
/-- x and v, j times -/
def mvP (n m : Nat) (x v : List Int) (j : Int) : List Int := (Pl.rngI n).map fun i => (x.getD i.toNat 0 + j * v.getD i.toNat 0) % m
/-- what is closed under sums -/
structure Span (n m : Nat) (R : List (List Int)) : Prop where
  nod : R.Nodup
  is : ∀ x ∈ R, IsS n m x
  zero : zeroP n ∈ R
  add : ∀ x ∈ R, ∀ y ∈ R, addP x y m ∈ R
theorem Span.len (r : Span n m R) : R.length ≤ m ^ n := by
  have := Pl.nodup_le (p := allP m n) r.nod fun y hy => Pl.mem_allP.mpr (r.is y hy)
  rwa [allP_len] at this
/-- one round: all that is reached, and the move more -/
def rndP (m : Nat) (v : List Int) (R : List (List Int)) : List (List Int) := dd R (R.map fun x => addP x v m)
def rndsP (m : Nat) (v : List Int) : Nat → List (List Int) → List (List Int)
  | 0, R => R
  | k + 1, R => rndsP m v k (rndP m v R)
/-- a valid step: the move p times is reached, not sooner -/
structure Step1 (n m : Nat) (R : List (List Int)) (v : List Int) (p : Nat) : Prop where
  is : IsS n m v
  p1 : 1 ≤ p
  hit : mvP n m (zeroP n) v (p : Nat) ∈ R
  no : ∀ s : Nat, 1 ≤ s → s < p → mvP n m (zeroP n) v (s : Nat) ∉ R
end
end Tb

namespace Tb
open PySem PySem.Spec L2 Ab
def m__law_same : MS :=
  (mRet (mFrz (mLc (miRng1 (mCons (mVar 1) mNil)) (mgName 2) (fun _ h => .ok true h) (mBin mulUD (mTup (mCons (mVar 2) mNil)) (mVar 0)) [2])))
def F__law_same : Fn := mFnT 3 m__law_same
def m__law_next_step : MS :=
  (mSeq (mFor (miU (mCallP 2 F__law_all (mCons (mVar 0) (mCons (mVar 1) mNil)))) (mgName 4) (mIfS (mBl (mBin (inUD true) (mVar 4) (mVar 3))) (mSeq (mAsg (mCB tupleD (mCons (mFrz (mLc (miU (mVar 4)) (mgName 9) (fun _ h => .ok true h) (mUn negD (mVar 9)) [9])) mNil)) (mgName 5))
  (mIfS (mTru (mCB (allD false) (mCons (mFrz (mLc (miU (mVar 2)) (mgName 10) (fun _ h => .ok true h) (mBin (inUD false) (mCallP 3 F__law_sum (mCons (mCallP 2 F__law_behind (mCons (mVar 4) (mCons (mVar 10) mNil))) (mCons (mVar 5) (mCons (mVar 1) mNil)))) (mVar 3)) [10])) mNil))) (mSeq (mPar 6 7 (mCons (mC (.int 1)) (mCons (mVar 4) mNil)))
  (mSeq (mFor (miRng1 (mCons (mVar 1) mNil)) (mgName 8) (mIfS (mBl (mBin (inUD true) (mVar 7) (mVar 3))) (mPar 6 7 (mCons (mBin addUD (mVar 6) (mC (.int 1))) (mCons (mCallP 3 F__law_sum (mCons (mVar 7) (mCons (mVar 4) (mCons (mVar 1) mNil)))) mNil))) mNext))
  (mIfS (mBl (mBin (inUD false) (mVar 6) (mFrz (mLst (mCons (mC (.int 2)) (mCons (mC (.int 3)) (mCons (mC (.int 5)) (mCons (mC (.int 7)) mNil)))))))) (mRet (mFrz (mLst (mCons (mVar 6) (mCons (mVar 4) mNil))))) mNext))) mNext)) mNext))
  (mRet (mC .non)))
def F__law_next_step : Fn := mFnT 11 m__law_next_step
def m__law_path : MS :=
  (mSeq (mAsg (mOwn (mLst (mCons (mVar 1) mNil))) (mgName 4))
  (mSeq (mFor (miZip (mCons (mVar 0) (mCons (mVar 2) mNil))) (mgSeq 2 (mgCons (mgName 5) (mgCons (mgName 6) mgNil))) (mDrop (mMethT isLoc appendD (mVar 4) (mCons (mCallP 3 F__law_sum (mCons (mCallP 2 F__law_behind (mCons (mBin ixUD (mVar 4) (mUn negD (mC (.int 1)))) (mCons (mVar 6) mNil))) (mCons (mVar 5) (mCons (mVar 3) mNil)))) mNil))))
  (mRet (mVar 4))))
def F__law_path : Fn := mFnT 7 m__law_path
def m__law_plan : MS :=
  (mRet (mCB tupleD (mCons (mFrz (mLc (miRng1 (mCons (mCall 2 F__law_draw (mCons (mVar 0) (mCons (mBin addUD (mVar 2) (mC (.int 1))) mNil))) mNil)) (mgName 3) (fun _ h => .ok true h) (mCall 2 F__law_standing (mCons (mVar 0) (mCons (mVar 1) mNil))) [3])) mNil)))
def F__law_plan : Fn := mFnT 4 m__law_plan
def b__law_known_plan_1 : MS :=
  (mSeq (mAsg (mCall 4 F__law_next_step (mCons (mVar 1) (mCons (mVar 2) (mCons (mVar 3) (mCons (mVar 4) mNil))))) (mgName 8))
  (mSeq (mIfS (mBl (mBin (isND false) (mVar 8) (mC .non))) (mRet (mIf (mBl (mBin eqD (mCB lenUD (mCons (mVar 4) mNil)) (mCB lenUD (mCons (mCallP 2 F__law_all (mCons (mVar 1) (mCons (mVar 2) mNil))) mNil)))) (mVar 5) (mC .non))) mNext)
  (mSeq (mAsg (mBin addUD (mVar 5) (mBin mulUD (mBin addUD (mTup (mCons (mBin ixUD (mVar 8) (mC (.int 1))) mNil)) (mVar 5)) (mBin subD (mBin ixUD (mVar 8) (mC (.int 0))) (mC (.int 1))))) (mgName 5))
  (mFor (miRng1 (mCons (mBin ixUD (mVar 8) (mC (.int 0))) mNil)) (mgName 9) (mFor (miU (mFrz (mCBF listUD (mCons (mVar 4) mNil)))) (mgName 6) (mAsg (mC (.bl true)) (mgSubU (mVar 4) (mCallP 3 F__law_sum (mCons (mVar 6) (mCons (mBin ixUD (mVar 8) (mC (.int 1))) (mCons (mVar 2) mNil)))))))))))
def m__law_known_plan : MS :=
  (mSeq (mAsg (mCallP 1 F__law_head (mCons (mVar 0) mNil)) (mgSeq 2 (mgCons (mgName 1) (mgCons (mgName 2) mgNil))))
  (mSeq (mPar3 3 4 5 (mCons (mCallP 1 F__law_group (mCons (mVar 0) mNil)) (mCons mDNew (mCons (mTup mNil) mNil))))
  (mSeq (mFor (miU (mCallP 2 F__law_same (mCons (mVar 1) (mCons (mVar 2) mNil)))) (mgName 6) (mAsg (mC (.bl true)) (mgSubU (mVar 4) (mVar 6))))
  (mSeq (mFor (miRng1 (mCons (mC (.int 64)) mNil)) (mgName 7) b__law_known_plan_1)
  (mRet (mC .non))))))
def F__law_known_plan : Fn := mFnT 10 m__law_known_plan
def m__law_good_plan : MS :=
  (mSeq (mPar 2 3 (mCons (mCallP 1 F__law_known_plan (mCons (mVar 1) mNil)) (mCons (mCall 2 F__law_draw (mCons (mVar 0) (mCons (mC (.int 5)) mNil))) mNil)))
  (mSeq (mIfS (mOrT (mBl (mBin (isND false) (mVar 2) (mC .non))) (mBl (mBin eqD (mVar 3) (mC (.int 0))))) (mRet (mCall 3 F__law_plan (mCons (mVar 0) (mCons (mVar 1) (mCons (mC (.int 6)) mNil))))) mNext)
  (mSeq (mAsg (mCall 2 F__law_draw (mCons (mVar 0) (mCons (mBin addUD (mCB lenUD (mCons (mVar 2) mNil)) (mC (.int 1))) mNil))) (mgName 4))
  (mSeq (mIfS (mBl (mBin eqD (mVar 3) (mC (.int 1)))) (mRet (mBin addUD (mSlU (mVar 2) mNoPart (mPart (mVar 4))) (mSlU (mVar 2) (mPart (mBin addUD (mVar 4) (mC (.int 1)))) mNoPart))) mNext)
  (mSeq (mIfS (mBl (mBin eqD (mVar 3) (mC (.int 2)))) (mRet (mBin addUD (mBin addUD (mSlU (mVar 2) mNoPart (mPart (mVar 4))) (mTup (mCons (mCall 2 F__law_standing (mCons (mVar 0) (mCons (mVar 1) mNil))) mNil))) (mSlU (mVar 2) (mPart (mVar 4)) mNoPart))) mNext)
  (mRet (mBin addUD (mVar 2) (mCall 3 F__law_plan (mCons (mVar 0) (mCons (mVar 1) (mCons (mC (.int 2)) mNil)))))))))))
def F__law_good_plan : Fn := mFnT 5 m__law_good_plan
end Tb

/-! The laws' own plans. -/
namespace Tb
open PySem PySem.Spec L2 Ab
open Pl (IsT IsS allP dd sweepP Grp)
section
variable {n m : Nat} {h : AH} {G R : List (List Int)} {rs : List Str} {s t v x : List Int} {k : Nat}
def sameP (n m : Nat) : List (List Int) := (Pl.rngI m).map fun i => List.replicate n i
/-- a dict of standings -/
abbrev setH (R : List (List Int)) : AH := [.dct (dctK R (.bl true))]
theorem zero_add (hv : IsS n m v) : addP (zeroP n) v m = v := by
  refine Pl.ext_getD (n := n) (by rw [addP_len]; simp) hv.len fun i hi => ?_
  have h1 := hv.rng _ (Pl.getD_mem (x := v) (j := i) (by rw [hv.len]; exact hi))
  rw [addP_getD (by simpa using hi), zero_getD, Int.zero_add]
  exact Int.emod_eq_of_lt h1.1 h1.2
end
end Tb

/-! The laws' own plans, drawn. -/
namespace Tb
open PySem PySem.Spec L2 Ab
open Pl (IsT IsS allP dd sweepP Grp)
section
variable {n m : Nat} {h : AH} {G R : List (List Int)} {rs : List Str} {s t v x : List Int} {k : Nat}
/-- a plan -/
def Plan (n m : Nat) (P : List (List Int)) (c : Nat) : Prop := (∀ x ∈ P, IsS n m x) ∧ P.length ≤ c
end
end Tb

/-! Drawn plans. -/
namespace Tb
open PySem PySem.Spec L2 Ab
open Pl (IsT IsS allP dd sweepP Grp)
section
variable {n m : Nat} {h : AH} {G R : List (List Int)} {rs : List Str} {s t v x : List Int} {k : Nat}
theorem Plan.le {P : List (List Int)} {c d : Nat} (p : Plan n m P c) (h : c ≤ d) : Plan n m P d := ⟨p.1, Nat.le_trans p.2 h⟩
end
end Tb

/-! Data that are alike just if what they stand for is. -/
namespace Ab
open PySem PySem.Spec L2
section
variable {α : Type} [DecidableEq α] {f : α → D} {g : α → PyData} {k : Nat} {h : AH}
theorem eqb_of {a b : D} {p q : PyData} {r : Bool} (e1 : toPy h a = some p) (e2 : toPy h b = some q) (e : eqB a b h = (match toPy h a, toPy h b with
    | some p, some q => if SeqAt.shaped p = true ∧ SeqAt.shaped q = true then some (PyData.eqv p q) else none
    | _, _ => none)) (s1 : SeqAt.shaped p = true) (s2 : SeqAt.shaped q = true) (ev : PyData.eqv p q = r) : eqB a b h = some r := by
  rw [e, e1, e2]
  simp only [s1, s2, and_self, if_true, ev]
structure Enc {α : Type} [DecidableEq α] (f : α → D) (g : α → PyData) (k : Nat) : Prop where
  py : ∀ a, toPy0 (f a) = some (g a)
  pyh : ∀ h a, toPy h (f a) = some (g a)
  lay : ∀ a, (g a).canLay0 = true
  dep : ∀ a, (g a).depth ≤ k
  eqv : ∀ a b, PyData.eqv (g a) (g b) = decide (a = b)
  eqb : ∀ h a b, eqB (f a) (f b) h = some (decide (a = b))
theorem Enc.int : Enc D.int PyData.int 1 := ⟨fun a => by simp [toPy0], fun h a => by simp [toPy, toPy0], fun a => by simp [PyData.canLay0], fun a => by simp [PyData.depth], fun a b => by
  simp only [PyData.eqv]
  by_cases q : a = b <;> simp [q], fun h a b => rfl⟩
theorem Enc.bl : Enc D.bl PyData.bool 1 := ⟨fun a => by simp [toPy0], fun h a => by simp [toPy, toPy0], fun a => by simp [PyData.canLay0], fun a => by simp [PyData.depth], fun a b => by
  cases a <;> cases b <;> rfl, fun h a b => rfl⟩
theorem Enc.tupI : Enc tupI tupP 2 := ⟨Tb.toPy0_tupI, fun h a => Tb.toPy0_tupI a, Tb.canLay_tupP, Tb.depth_tupP, Tb.eqv_tupP, fun h a b => eqb_of (Tb.toPy0_tupI a) (Tb.toPy0_tupI b) rfl (Tb.shaped_tupP a) (Tb.shaped_tupP b) (Tb.eqv_tupP a b)⟩
theorem Enc.pyL (e : Enc f g k) : ∀ l : List α, toPyL (l.map f) = some (l.map g)
  | [] => rfl
  | a :: l => by
    show (match toPy0 (f a), toPyL (l.map f) with
      | some p, some ps => some (p :: ps)
      | _, _ => none) = _
    rw [e.py a, e.pyL l]; rfl
theorem Enc.layL (e : Enc f g k) : ∀ l : List α, PyData.canLayAll0 (l.map g) = true
  | [] => rfl
  | a :: l => by simp [PyData.canLayAll0, e.lay a, e.layL l]
theorem Enc.depL (e : Enc f g k) : ∀ l : List α, PyData.depthAll (l.map g) ≤ k
  | [] => by simp [PyData.depthAll]
  | a :: l => by
    have h1 := e.depL l
    have h2 := e.dep a
    simp only [List.map_cons, PyData.depthAll]
    omega
theorem Enc.eqvL (e : Enc f g k) : ∀ a b : List α, PyData.eqvAll (a.map g) (b.map g) = decide (a = b)
  | [], [] => by simp [PyData.eqvAll]
  | [], _ :: _ => by simp [PyData.eqvAll]
  | _ :: _, [] => by simp [PyData.eqvAll]
  | x :: a, y :: b => by
    simp only [List.map_cons, PyData.eqvAll, e.eqvL a b, e.eqv x y]
    by_cases q : x = y <;> by_cases r : a = b <;> simp [q, r]
theorem Enc.tup (e : Enc f g k) (hk : k ≤ 39 := by decide) : Enc (fun l : List α => D.tup (l.map f)) (fun l => PyData.tuple (l.map g)) (k + 1) := by
  refine ⟨fun l => ?_, fun h l => ?_, fun l => by simp [PyData.canLay0, e.layL], fun l => by have := e.depL l; simp only [PyData.depth]; omega, fun a b => by simp only [PyData.eqv]; exact e.eqvL a b, fun h a b => eqb_of (p := PyData.tuple (a.map g)) (q := PyData.tuple (b.map g)) (by
    show (toPyL _).map PyData.tuple = _
    rw [e.pyL]; rfl) (by
    show (toPyL _).map PyData.tuple = _
    rw [e.pyL]; rfl) rfl (by have := e.depL a; simp [SeqAt.shaped, PyData.canLay0, e.layL, PyData.depth]; omega) (by have := e.depL b; simp [SeqAt.shaped, PyData.canLay0, e.layL, PyData.depth]; omega) (by simp only [PyData.eqv]; exact e.eqvL a b)⟩
  · show (toPyL _).map PyData.tuple = _
    rw [e.pyL]; rfl
  · show (toPyL _).map PyData.tuple = _
    rw [e.pyL]; rfl
theorem Enc.lst (e : Enc f g k) (hk : k ≤ 39 := by decide) : Enc (fun l : List α => D.lst (l.map f)) (fun l => PyData.list (l.map g)) (k + 1) := by
  refine ⟨fun l => ?_, fun h l => ?_, fun l => by simp [PyData.canLay0, e.layL], fun l => by have := e.depL l; simp only [PyData.depth]; omega, fun a b => by simp only [PyData.eqv]; exact e.eqvL a b, fun h a b => eqb_of (p := PyData.list (a.map g)) (q := PyData.list (b.map g)) (by
    show (toPyL _).map PyData.list = _
    rw [e.pyL]; rfl) (by
    show (toPyL _).map PyData.list = _
    rw [e.pyL]; rfl) rfl (by have := e.depL a; simp [SeqAt.shaped, PyData.canLay0, e.layL, PyData.depth]; omega) (by have := e.depL b; simp [SeqAt.shaped, PyData.canLay0, e.layL, PyData.depth]; omega) (by simp only [PyData.eqv]; exact e.eqvL a b)⟩
  · show (toPyL _).map PyData.list = _
    rw [e.pyL]; rfl
  · show (toPyL _).map PyData.list = _
    rw [e.pyL]; rfl
theorem Enc.eq (e : Enc f g k) (a b : α) : eqD (f a) (f b) h = .ok (.bl (decide (a = b))) h := by simp [eqD, e.eqb]
/-- the first place of a thing -/
def idxP {α : Type} [DecidableEq α] (x : α) : List α → Nat
  | [] => 0
  | y :: l => if y = x then 0 else idxP x l + 1
abbrev lotD (l : List (List Int)) : D := .tup (l.map tupI)
end
end Ab

/-! Divisors, powers, the mean number, the number of kinds of a ring. -/
namespace K69
open PySem PySem.Spec L2 Ab
section
variable {h : AH} {n m a b : Nat}
abbrev cGcd : Ab.M Bool := mBl (mBin (cmpD fun i j => decide (j < i)) (mVar 1) (mC (.int 0)))
abbrev bGcd : MS := mPar 0 1 (mCons (mVar 1) (mCons (mBin modD (mVar 0) (mVar 1)) mNil))
theorem mod_nat {x y : Nat} (hy : 0 < y) : modD (.int x) (.int y) h = .ok (.int ((x % y : Nat) : Int)) h := by
  rw [o_mod (by omega), Int.natCast_emod]
theorem gcd_loop : ∀ (k fuel a b : Nat), b ≤ k → k < fuel → mWhile cGcd bGcd fuel [some (.int a), some (.int b)] h = .nx [some (.int ((Nat.gcd a b : Nat) : Int)), some (.int 0)] h
  | 0, fuel, a, b, hb, hf => by
    obtain ⟨g, rfl⟩ : ∃ g, fuel = g + 1 := ⟨fuel - 1, by omega⟩
    obtain rfl : b = 0 := by omega
    rw [wh_step]
    simp only [b_ok, b_bad, t_ok, t_bad, e_C, e_V0, e_V1, e_V2, e_V3, e_V4, e_V5, e_V6, e_V7, e_V8, e_V9, e_V10, k_Q, k_Bl, k_TruB, k_TruI, k_TruN, k_NotT, k_AndT1, k_AndT0, k_OrT1, k_OrT0, k_And1, k_And0, k_Or1, k_Or0, k_Not, k_If1, k_If0, k_Cons, k_Tup, k_Lst, k_Frz, k_Own, k_Call, k_CallK, k_Chain1, k_Chain0, k_Chain2, e_Chain, e_Bin, e_BinF, e_Un, e_Bl, e_Tru, e_NotT, e_AndT, e_OrT, e_And, e_Or, e_Not, e_If, e_Nil, e_Cons, e_Tup, e_Lst, e_Frz, e_Own, e_CB, e_CBF, e_Call, e_CallP, k_CallKP, e_CallKP, e_CallK, go_nx, go_rt, go_bk, go_ct, e_Next, e_Seq, k_Drop, e_Drop, k_Ret, e_Ret, k_IfS1, k_IfS0, e_IfS, g_Name, g_Nil, g_Cons, g_Tup, k_Nx, k_Asg, e_Asg, k_Par, e_Par, k_Par3, e_Par3, k_Aug2, k_Aug, e_Aug, k_SeqL, k_SeqS, k_SeqT, i_Seq, k_R1, i_R1, k_R2, i_R2, k_For, e_For, k_Turn, k_Lc, e_Lc, k_Wh1, k_Wh0, r_nx, r_rt, x_ok, x_same, k_RevT, e_RevT, k_RevL, e_RevL, k_Rg1, e_Rg1, k_Rg2, e_Rg2, e_LstRg, e_TupRg, k_EnumT, k_EnumL, e_Enum, k_UL, k_US, k_UT, i_U, e_Disp, e_DNew, k_StarT, e_Star, e_NoPart, k_Part, e_Part, k_SlUT, k_SlUL, k_Sl1, e_SlU, k_SlLL, k_SlLS, e_SlL, k_Split, e_Split, k_Join2, k_Join, e_Join, e_Meth0, g_Seq2T, g_Seq2L, g_Seq3L, g_Seq3T, e_SubU, e_Fld, e_MakeS, k_Cm2, e_Cm2, k_DicF, e_DicF, e_SortS, e_Meth, e_V11, e_V12, e_V13, e_V14, e_V15, e_V16, e_V17, e_V18, e_V19, e_V20, e_V21, e_V22, e_V23, e_V24, e_V25, e_V26, e_V27, e_V28, e_V29, e_V30, k_L0, k_L1, k_L2, k_L3, k_L4, k_L5, k_L6, k_L7, k_L8, k_T0, k_T1, k_T2, k_T3, k_T4, k_T5, k_T6, k_T7, k_T8, lp_nx, lp_ct, u_add, u_int, o_sub, o_cmp, o_neg, o_isN0, o_isN1, o_isI0, o_isI1, p_1_0, p_2_01, p_2_10, p_3_012, p_3_021, p_3_102, p_3_120, p_3_201, p_3_210, List.set_cons_succ, List.set_cons_zero, wipe_cons, wipe_nil, tupl_L, x_ok, k_And0, k_And1, k_Or0, k_Or1, Nat.gcd_zero_right]
    rfl
  | k + 1, fuel, a, b, hb, hf => by
    obtain ⟨g, rfl⟩ : ∃ g, fuel = g + 1 := ⟨fuel - 1, by omega⟩
    by_cases z : b = 0
    · subst z
      rw [wh_step]
      simp only [b_ok, b_bad, t_ok, t_bad, e_C, e_V0, e_V1, e_V2, e_V3, e_V4, e_V5, e_V6, e_V7, e_V8, e_V9, e_V10, k_Q, k_Bl, k_TruB, k_TruI, k_TruN, k_NotT, k_AndT1, k_AndT0, k_OrT1, k_OrT0, k_And1, k_And0, k_Or1, k_Or0, k_Not, k_If1, k_If0, k_Cons, k_Tup, k_Lst, k_Frz, k_Own, k_Call, k_CallK, k_Chain1, k_Chain0, k_Chain2, e_Chain, e_Bin, e_BinF, e_Un, e_Bl, e_Tru, e_NotT, e_AndT, e_OrT, e_And, e_Or, e_Not, e_If, e_Nil, e_Cons, e_Tup, e_Lst, e_Frz, e_Own, e_CB, e_CBF, e_Call, e_CallP, k_CallKP, e_CallKP, e_CallK, go_nx, go_rt, go_bk, go_ct, e_Next, e_Seq, k_Drop, e_Drop, k_Ret, e_Ret, k_IfS1, k_IfS0, e_IfS, g_Name, g_Nil, g_Cons, g_Tup, k_Nx, k_Asg, e_Asg, k_Par, e_Par, k_Par3, e_Par3, k_Aug2, k_Aug, e_Aug, k_SeqL, k_SeqS, k_SeqT, i_Seq, k_R1, i_R1, k_R2, i_R2, k_For, e_For, k_Turn, k_Lc, e_Lc, k_Wh1, k_Wh0, r_nx, r_rt, x_ok, x_same, k_RevT, e_RevT, k_RevL, e_RevL, k_Rg1, e_Rg1, k_Rg2, e_Rg2, e_LstRg, e_TupRg, k_EnumT, k_EnumL, e_Enum, k_UL, k_US, k_UT, i_U, e_Disp, e_DNew, k_StarT, e_Star, e_NoPart, k_Part, e_Part, k_SlUT, k_SlUL, k_Sl1, e_SlU, k_SlLL, k_SlLS, e_SlL, k_Split, e_Split, k_Join2, k_Join, e_Join, e_Meth0, g_Seq2T, g_Seq2L, g_Seq3L, g_Seq3T, e_SubU, e_Fld, e_MakeS, k_Cm2, e_Cm2, k_DicF, e_DicF, e_SortS, e_Meth, e_V11, e_V12, e_V13, e_V14, e_V15, e_V16, e_V17, e_V18, e_V19, e_V20, e_V21, e_V22, e_V23, e_V24, e_V25, e_V26, e_V27, e_V28, e_V29, e_V30, k_L0, k_L1, k_L2, k_L3, k_L4, k_L5, k_L6, k_L7, k_L8, k_T0, k_T1, k_T2, k_T3, k_T4, k_T5, k_T6, k_T7, k_T8, lp_nx, lp_ct, u_add, u_int, o_sub, o_cmp, o_neg, o_isN0, o_isN1, o_isI0, o_isI1, p_1_0, p_2_01, p_2_10, p_3_012, p_3_021, p_3_102, p_3_120, p_3_201, p_3_210, List.set_cons_succ, List.set_cons_zero, wipe_cons, wipe_nil, tupl_L, x_ok, k_And0, k_And1, k_Or0, k_Or1, Nat.gcd_zero_right]
      rfl
    · have z1 : (0 : Int) < b := by omega
      have m1 : ∀ {h : AH}, modD (.int a) (.int b) h = .ok (.int ((a % b : Nat) : Int)) h := mod_nat (by omega)
      have lt := Nat.mod_lt a (show 0 < b by omega)
      have ih := gcd_loop k g b (a % b) (by omega) (by omega)
      have eg : Nat.gcd a b = Nat.gcd b (a % b) := by rw [Nat.gcd_comm a b, Nat.gcd_rec b a, Nat.gcd_comm]
      rw [eg, wh_step]
      simp only [b_ok, b_bad, t_ok, t_bad, e_C, e_V0, e_V1, e_V2, e_V3, e_V4, e_V5, e_V6, e_V7, e_V8, e_V9, e_V10, k_Q, k_Bl, k_TruB, k_TruI, k_TruN, k_NotT, k_AndT1, k_AndT0, k_OrT1, k_OrT0, k_And1, k_And0, k_Or1, k_Or0, k_Not, k_If1, k_If0, k_Cons, k_Tup, k_Lst, k_Frz, k_Own, k_Call, k_CallK, k_Chain1, k_Chain0, k_Chain2, e_Chain, e_Bin, e_BinF, e_Un, e_Bl, e_Tru, e_NotT, e_AndT, e_OrT, e_And, e_Or, e_Not, e_If, e_Nil, e_Cons, e_Tup, e_Lst, e_Frz, e_Own, e_CB, e_CBF, e_Call, e_CallP, k_CallKP, e_CallKP, e_CallK, go_nx, go_rt, go_bk, go_ct, e_Next, e_Seq, k_Drop, e_Drop, k_Ret, e_Ret, k_IfS1, k_IfS0, e_IfS, g_Name, g_Nil, g_Cons, g_Tup, k_Nx, k_Asg, e_Asg, k_Par, e_Par, k_Par3, e_Par3, k_Aug2, k_Aug, e_Aug, k_SeqL, k_SeqS, k_SeqT, i_Seq, k_R1, i_R1, k_R2, i_R2, k_For, e_For, k_Turn, k_Lc, e_Lc, k_Wh1, k_Wh0, r_nx, r_rt, x_ok, x_same, k_RevT, e_RevT, k_RevL, e_RevL, k_Rg1, e_Rg1, k_Rg2, e_Rg2, e_LstRg, e_TupRg, k_EnumT, k_EnumL, e_Enum, k_UL, k_US, k_UT, i_U, e_Disp, e_DNew, k_StarT, e_Star, e_NoPart, k_Part, e_Part, k_SlUT, k_SlUL, k_Sl1, e_SlU, k_SlLL, k_SlLS, e_SlL, k_Split, e_Split, k_Join2, k_Join, e_Join, e_Meth0, g_Seq2T, g_Seq2L, g_Seq3L, g_Seq3T, e_SubU, e_Fld, e_MakeS, k_Cm2, e_Cm2, k_DicF, e_DicF, e_SortS, e_Meth, e_V11, e_V12, e_V13, e_V14, e_V15, e_V16, e_V17, e_V18, e_V19, e_V20, e_V21, e_V22, e_V23, e_V24, e_V25, e_V26, e_V27, e_V28, e_V29, e_V30, k_L0, k_L1, k_L2, k_L3, k_L4, k_L5, k_L6, k_L7, k_L8, k_T0, k_T1, k_T2, k_T3, k_T4, k_T5, k_T6, k_T7, k_T8, lp_nx, lp_ct, u_add, u_int, o_sub, o_cmp, o_neg, o_isN0, o_isN1, o_isI0, o_isI1, p_1_0, p_2_01, p_2_10, p_3_012, p_3_021, p_3_102, p_3_120, p_3_201, p_3_210, List.set_cons_succ, List.set_cons_zero, wipe_cons, wipe_nil, tupl_L, x_ok, k_And0, k_And1, k_Or0, k_Or1, z1, decide_true, m1, ih]
theorem divisor_c (hb : b ≤ 1000) : ∀ h, callP 2 F_divisor [.int a, .int b] h = .ok (.int ((Nat.gcd a b : Nat) : Int)) h := fun h => by
  refine c_P (h' := []) ?_ rfl (by simp [belowL]) (by simp)
  have e := gcd_loop (h := []) 1000 100000 a b hb (by decide)
  have ei : initE 2 [D.int (a : Nat), .int (b : Nat)] = [some (.int (a : Nat)), some (.int (b : Nat))] := rfl
  simp only [F_divisor, m_divisor, f_T, ei, b_ok, b_bad, t_ok, t_bad, e_C, e_V0, e_V1, e_V2, e_V3, e_V4, e_V5, e_V6, e_V7, e_V8, e_V9, e_V10, k_Q, k_Bl, k_TruB, k_TruI, k_TruN, k_NotT, k_AndT1, k_AndT0, k_OrT1, k_OrT0, k_And1, k_And0, k_Or1, k_Or0, k_Not, k_If1, k_If0, k_Cons, k_Tup, k_Lst, k_Frz, k_Own, k_Call, k_CallK, k_Chain1, k_Chain0, k_Chain2, e_Chain, e_Bin, e_BinF, e_Un, e_Bl, e_Tru, e_NotT, e_AndT, e_OrT, e_And, e_Or, e_Not, e_If, e_Nil, e_Cons, e_Tup, e_Lst, e_Frz, e_Own, e_CB, e_CBF, e_Call, e_CallP, k_CallKP, e_CallKP, e_CallK, go_nx, go_rt, go_bk, go_ct, e_Next, e_Seq, k_Drop, e_Drop, k_Ret, e_Ret, k_IfS1, k_IfS0, e_IfS, g_Name, g_Nil, g_Cons, g_Tup, k_Nx, k_Asg, e_Asg, k_Par, e_Par, k_Par3, e_Par3, k_Aug2, k_Aug, e_Aug, k_SeqL, k_SeqS, k_SeqT, i_Seq, k_R1, i_R1, k_R2, i_R2, k_For, e_For, k_Turn, k_Lc, e_Lc, k_Wh1, k_Wh0, r_nx, r_rt, x_ok, x_same, k_RevT, e_RevT, k_RevL, e_RevL, k_Rg1, e_Rg1, k_Rg2, e_Rg2, e_LstRg, e_TupRg, k_EnumT, k_EnumL, e_Enum, k_UL, k_US, k_UT, i_U, e_Disp, e_DNew, k_StarT, e_Star, e_NoPart, k_Part, e_Part, k_SlUT, k_SlUL, k_Sl1, e_SlU, k_SlLL, k_SlLS, e_SlL, k_Split, e_Split, k_Join2, k_Join, e_Join, e_Meth0, g_Seq2T, g_Seq2L, g_Seq3L, g_Seq3T, e_SubU, e_Fld, e_MakeS, k_Cm2, e_Cm2, k_DicF, e_DicF, e_SortS, e_Meth, e_V11, e_V12, e_V13, e_V14, e_V15, e_V16, e_V17, e_V18, e_V19, e_V20, e_V21, e_V22, e_V23, e_V24, e_V25, e_V26, e_V27, e_V28, e_V29, e_V30, k_L0, k_L1, k_L2, k_L3, k_L4, k_L5, k_L6, k_L7, k_L8, k_T0, k_T1, k_T2, k_T3, k_T4, k_T5, k_T6, k_T7, k_T8, lp_nx, lp_ct, u_add, u_int, o_sub, o_cmp, o_neg, o_isN0, o_isN1, o_isI0, o_isI1, p_1_0, p_2_01, p_2_10, p_3_012, p_3_021, p_3_102, p_3_120, p_3_201, p_3_210, List.set_cons_succ, List.set_cons_zero, wipe_cons, wipe_nil, tupl_L, x_ok, k_And0, k_And1, k_Or0, k_Or1, e]
  exact x_cut (by simp)
theorem pow_ok (r : Nat) (hm : m ≤ 1000) (hr : r ≤ 1000) : F_power_of [.int m, .int r] [] = .ok (.int ((m ^ r : Nat) : Int)) [] := by
  obtain ⟨env', h', e, x, rfl, rfl⟩ := for_ix (g := mgName 3) (p := mAsg (mBin mulUD (mVar 2) (mVar 0)) (mgName 2))
    (fun i env h' => ∃ (x : Option D), env = [some (.int m), some (.int r), some (.int ((m ^ i : Nat) : Int)), x] ∧ h' = []) (ds := rngD 0 r) (i := 0)
    (env := [some (.int m), some (.int r), some (.int 1), none]) (h := []) ⟨none, rfl, rfl⟩ (by
      rintro j d env h1 ed ⟨x, rfl, rfl⟩
      have m1 : ∀ h : AH, mulD (.int ((m ^ (0 + j) : Nat) : Int)) (.int m) h = .ok (.int ((m ^ (0 + j + 1) : Nat) : Int)) h := fun h => by
        rw [o_mulR (by omega) (by omega), Nat.pow_succ, Int.natCast_mul]
      refine ⟨_, _, _, _, rfl, ?_, some d, rfl, rfl⟩
      simp only [b_ok, b_bad, t_ok, t_bad, e_C, e_V0, e_V1, e_V2, e_V3, e_V4, e_V5, e_V6, e_V7, e_V8, e_V9, e_V10, k_Q, k_Bl, k_TruB, k_TruI, k_TruN, k_NotT, k_AndT1, k_AndT0, k_OrT1, k_OrT0, k_And1, k_And0, k_Or1, k_Or0, k_Not, k_If1, k_If0, k_Cons, k_Tup, k_Lst, k_Frz, k_Own, k_Call, k_CallK, k_Chain1, k_Chain0, k_Chain2, e_Chain, e_Bin, e_BinF, e_Un, e_Bl, e_Tru, e_NotT, e_AndT, e_OrT, e_And, e_Or, e_Not, e_If, e_Nil, e_Cons, e_Tup, e_Lst, e_Frz, e_Own, e_CB, e_CBF, e_Call, e_CallP, k_CallKP, e_CallKP, e_CallK, go_nx, go_rt, go_bk, go_ct, e_Next, e_Seq, k_Drop, e_Drop, k_Ret, e_Ret, k_IfS1, k_IfS0, e_IfS, g_Name, g_Nil, g_Cons, g_Tup, k_Nx, k_Asg, e_Asg, k_Par, e_Par, k_Par3, e_Par3, k_Aug2, k_Aug, e_Aug, k_SeqL, k_SeqS, k_SeqT, i_Seq, k_R1, i_R1, k_R2, i_R2, k_For, e_For, k_Turn, k_Lc, e_Lc, k_Wh1, k_Wh0, r_nx, r_rt, x_ok, x_same, k_RevT, e_RevT, k_RevL, e_RevL, k_Rg1, e_Rg1, k_Rg2, e_Rg2, e_LstRg, e_TupRg, k_EnumT, k_EnumL, e_Enum, k_UL, k_US, k_UT, i_U, e_Disp, e_DNew, k_StarT, e_Star, e_NoPart, k_Part, e_Part, k_SlUT, k_SlUL, k_Sl1, e_SlU, k_SlLL, k_SlLS, e_SlL, k_Split, e_Split, k_Join2, k_Join, e_Join, e_Meth0, g_Seq2T, g_Seq2L, g_Seq3L, g_Seq3T, e_SubU, e_Fld, e_MakeS, k_Cm2, e_Cm2, k_DicF, e_DicF, e_SortS, e_Meth, e_V11, e_V12, e_V13, e_V14, e_V15, e_V16, e_V17, e_V18, e_V19, e_V20, e_V21, e_V22, e_V23, e_V24, e_V25, e_V26, e_V27, e_V28, e_V29, e_V30, k_L0, k_L1, k_L2, k_L3, k_L4, k_L5, k_L6, k_L7, k_L8, k_T0, k_T1, k_T2, k_T3, k_T4, k_T5, k_T6, k_T7, k_T8, lp_nx, lp_ct, u_add, u_int, o_sub, o_cmp, o_neg, o_isN0, o_isN1, o_isI0, o_isI1, p_1_0, p_2_01, p_2_10, p_3_012, p_3_021, p_3_102, p_3_120, p_3_201, p_3_210, List.set_cons_succ, List.set_cons_zero, wipe_cons, wipe_nil, tupl_L, x_ok, k_And0, k_And1, k_Or0, k_Or1, u_mul, m1])
  rw [rngD_len] at e
  have el : (0 + ((r : Int) - 0).toNat) = r := by omega
  rw [el] at e
  have kr : ∀ h : AH, kR1 [.int (r : Int)] h = .ok (.items (rngD 0 r)) h := fun h => k_R1 (by omega) (by omega)
  have ei : initE 4 [D.int (m : Nat), .int (r : Nat)] = [some (.int (m : Nat)), some (.int (r : Nat)), none, none] := rfl
  simp only [F_power_of, m_power_of, f_T, ei, b_ok, b_bad, t_ok, t_bad, e_C, e_V0, e_V1, e_V2, e_V3, e_V4, e_V5, e_V6, e_V7, e_V8, e_V9, e_V10, k_Q, k_Bl, k_TruB, k_TruI, k_TruN, k_NotT, k_AndT1, k_AndT0, k_OrT1, k_OrT0, k_And1, k_And0, k_Or1, k_Or0, k_Not, k_If1, k_If0, k_Cons, k_Tup, k_Lst, k_Frz, k_Own, k_Call, k_CallK, k_Chain1, k_Chain0, k_Chain2, e_Chain, e_Bin, e_BinF, e_Un, e_Bl, e_Tru, e_NotT, e_AndT, e_OrT, e_And, e_Or, e_Not, e_If, e_Nil, e_Cons, e_Tup, e_Lst, e_Frz, e_Own, e_CB, e_CBF, e_Call, e_CallP, k_CallKP, e_CallKP, e_CallK, go_nx, go_rt, go_bk, go_ct, e_Next, e_Seq, k_Drop, e_Drop, k_Ret, e_Ret, k_IfS1, k_IfS0, e_IfS, g_Name, g_Nil, g_Cons, g_Tup, k_Nx, k_Asg, e_Asg, k_Par, e_Par, k_Par3, e_Par3, k_Aug2, k_Aug, e_Aug, k_SeqL, k_SeqS, k_SeqT, i_Seq, k_R1, i_R1, k_R2, i_R2, k_For, e_For, k_Turn, k_Lc, e_Lc, k_Wh1, k_Wh0, r_nx, r_rt, x_ok, x_same, k_RevT, e_RevT, k_RevL, e_RevL, k_Rg1, e_Rg1, k_Rg2, e_Rg2, e_LstRg, e_TupRg, k_EnumT, k_EnumL, e_Enum, k_UL, k_US, k_UT, i_U, e_Disp, e_DNew, k_StarT, e_Star, e_NoPart, k_Part, e_Part, k_SlUT, k_SlUL, k_Sl1, e_SlU, k_SlLL, k_SlLS, e_SlL, k_Split, e_Split, k_Join2, k_Join, e_Join, e_Meth0, g_Seq2T, g_Seq2L, g_Seq3L, g_Seq3T, e_SubU, e_Fld, e_MakeS, k_Cm2, e_Cm2, k_DicF, e_DicF, e_SortS, e_Meth, e_V11, e_V12, e_V13, e_V14, e_V15, e_V16, e_V17, e_V18, e_V19, e_V20, e_V21, e_V22, e_V23, e_V24, e_V25, e_V26, e_V27, e_V28, e_V29, e_V30, k_L0, k_L1, k_L2, k_L3, k_L4, k_L5, k_L6, k_L7, k_L8, k_T0, k_T1, k_T2, k_T3, k_T4, k_T5, k_T6, k_T7, k_T8, lp_nx, lp_ct, u_add, u_int, o_sub, o_cmp, o_neg, o_isN0, o_isN1, o_isI0, o_isI1, p_1_0, p_2_01, p_2_10, p_3_012, p_3_021, p_3_102, p_3_120, p_3_201, p_3_210, List.set_cons_succ, List.set_cons_zero, wipe_cons, wipe_nil, tupl_L, x_ok, k_And0, k_And1, k_Or0, k_Or1, kr, e]
  exact x_cut (by simp)
theorem power_c {r : Nat} (hm : m ≤ 1000) (hr : r ≤ 1000) : ∀ h, callP 2 F_power_of [.int m, .int r] h = .ok (.int ((m ^ r : Nat) : Int)) h := fun h => c_P (pow_ok r hm hr) rfl (by simp [belowL]) (by simp)
theorem often_is : F__law_often = F_power_of := rfl
theorem often_c {r : Nat} (hm : m ≤ 1000) (hr : r ≤ 1000) : ∀ h, callP 2 F__law_often [.int m, .int r] h = .ok (.int ((m ^ r : Nat) : Int)) h := by
  rw [often_is]; exact power_c hm hr
/-! the greatest number that divides both -/
theorem fold_max {g : Int} : ∀ {ns : List Int} {k : Int}, (∀ x ∈ k :: ns, x ≤ g) → g ∈ k :: ns → ns.foldl max k = g
  | [], k, _, mem => (List.mem_singleton.mp mem).symm
  | x :: ns, k, le, mem => by
    rw [List.foldl_cons]
    refine fold_max (fun y hy => ?_) ?_
    · rcases List.mem_cons.mp hy with rfl | hy
      · have := le k List.mem_cons_self
        have := le x (List.mem_cons_of_mem _ List.mem_cons_self)
        omega
      · exact le y (List.mem_cons_of_mem _ (List.mem_cons_of_mem _ hy))
    · have h1 := le k List.mem_cons_self
      have h2 := le x (List.mem_cons_of_mem _ List.mem_cons_self)
      rcases List.mem_cons.mp mem with rfl | mem
      · have : max g x = g := by omega
        rw [this]; exact List.mem_cons_self
      · rcases List.mem_cons.mp mem with rfl | mem
        · have : max k g = g := by omega
          rw [this]; exact List.mem_cons_self
        · exact List.mem_cons_of_mem _ mem
theorem max_is {g : Int} {L : List Int} (le : ∀ x ∈ L, x ≤ g) (mem : g ∈ L) : ∀ h : AH, maxLD [.lst (L.map D.int)] h = .ok (.int g) h := fun h => by
  cases L with
  | nil => exact absurd mem List.not_mem_nil
  | cons n ns =>
    have hs : ∀ h : AH, seqD (.lst ((n :: ns).map D.int)) h = some ((n :: ns).map D.int) := fun _ => rfl
    have hi : intsD ((n :: ns).map D.int) = some (n :: ns) := by
      generalize n :: ns = l
      induction l with
      | nil => rfl
      | cons a l ih =>
        show (intsD (l.map D.int)).map (a :: ·) = _
        rw [ih]; rfl
    unfold maxLD
    simp only [hs, hi, fold_max le mem]
abbrev mk1 (i : Nat) : D := .int (1 + (i : Int))
theorem rng_1 (z : Nat) : rngD 1 ((z : Int) + 1) = (List.range z).map mk1 := by
  unfold rngD
  have : ((z : Int) + 1 - 1).toNat = z := by omega
  rw [this]
theorem len_1 {z : Nat} (hz : z ≤ 1000) : ((List.range z).map mk1).length ≤ sizeLine := small_line (by rw [List.length_map, List.length_range]; omega)
theorem eq_dec {x y : Nat} : ∀ h : AH, eqD (.int (x : Int)) (.int (y : Int)) h = .ok (.bl (decide (x = y))) h := fun h => by
  rw [Enc.int.eq]
  have : (((x : Int) = y) ↔ x = y) := by omega
  simp only [this]
theorem mod_1 (a i : Nat) : ∀ h : AH, modD (.int a) (mk1 i) h = .ok (.int ((a % (i + 1) : Nat) : Int)) h := fun h => by
  have e : (1 + (i : Int)) = ((i + 1 : Nat) : Int) := by omega
  show modD (.int a) (.int (1 + (i : Int))) h = _
  rw [e]; exact mod_nat (by omega)
theorem shared_ok (ha : 1 ≤ a) (hb : 1 ≤ b) (ha2 : a ≤ 1000) (hb2 : b ≤ 1000) : F__law_shared [.int a, .int b] [] = .ok (.int ((Nat.gcd a b : Nat) : Int)) [] := by
  have ei : initE 3 [D.int (a : Nat), .int (b : Nat)] = [some (.int (a : Nat)), some (.int (b : Nat)), none] := rfl
  have mn : ∀ h : AH, min2D [.int (a : Nat), .int (b : Nat)] h = .ok (.int ((min a b : Nat) : Int)) h := fun h => by
    show Ab.R.ok (D.int (if (b : Int) < a then b else a)) h = _
    have : (if (b : Int) < a then (b : Int) else a) = ((min a b : Nat) : Int) := by split <;> omega
    rw [this]
  have kr : ∀ h : AH, kR2 [.int 1, .int (((min a b : Nat) : Int) + 1)] h = .ok (.items ((List.range (min a b)).map mk1)) h := fun h => by rw [k_R2 (by decide) (by decide) (by omega) (by omega), rng_1]
  have lc : lcItems (mgName 2) (mAndT (mBl (mBin eqD (mBin modD (mCB intUD (mCons (mVar 0) mNil)) (mVar 2)) (mC (.int 0)))) (mBl (mBin eqD (mBin modD (mCB intUD (mCons (mVar 1) mNil)) (mVar 2)) (mC (.int 0))))) (mVar 2) [some (.int (a : Nat)), some (.int (b : Nat)), none] ((List.range (min a b)).map mk1) [] = .ok (((List.range (min a b)).filter fun i => decide (a % (i + 1) = 0) && decide (b % (i + 1) = 0)).map mk1) [] :=
    Tb.lc_filt2 mk1 (fun i => decide (a % (i + 1) = 0) && decide (b % (i + 1) = 0)) fun i hi => ⟨_, rfl, by
      have e1 := mod_1 a i
      have e2 := mod_1 b i
      have q1 := eq_dec (x := a % (i + 1)) (y := 0)
      have q2 := eq_dec (x := b % (i + 1)) (y := 0)
      have z : ((0 : Nat) : Int) = 0 := rfl
      rw [z] at q1 q2
      by_cases c : a % (i + 1) = 0
      · rw [decide_eq_true c] at q1 ⊢
        simp only [b_ok, b_bad, t_ok, t_bad, e_C, e_V0, e_V1, e_V2, e_V3, e_V4, e_V5, e_V6, e_V7, e_V8, e_V9, e_V10, k_Q, k_Bl, k_TruB, k_TruI, k_TruN, k_NotT, k_AndT1, k_AndT0, k_OrT1, k_OrT0, k_And1, k_And0, k_Or1, k_Or0, k_Not, k_If1, k_If0, k_Cons, k_Tup, k_Lst, k_Frz, k_Own, k_Call, k_CallK, k_Chain1, k_Chain0, k_Chain2, e_Chain, e_Bin, e_BinF, e_Un, e_Bl, e_Tru, e_NotT, e_AndT, e_OrT, e_And, e_Or, e_Not, e_If, e_Nil, e_Cons, e_Tup, e_Lst, e_Frz, e_Own, e_CB, e_CBF, e_Call, e_CallP, k_CallKP, e_CallKP, e_CallK, go_nx, go_rt, go_bk, go_ct, e_Next, e_Seq, k_Drop, e_Drop, k_Ret, e_Ret, k_IfS1, k_IfS0, e_IfS, g_Name, g_Nil, g_Cons, g_Tup, k_Nx, k_Asg, e_Asg, k_Par, e_Par, k_Par3, e_Par3, k_Aug2, k_Aug, e_Aug, k_SeqL, k_SeqS, k_SeqT, i_Seq, k_R1, i_R1, k_R2, i_R2, k_For, e_For, k_Turn, k_Lc, e_Lc, k_Wh1, k_Wh0, r_nx, r_rt, x_ok, x_same, k_RevT, e_RevT, k_RevL, e_RevL, k_Rg1, e_Rg1, k_Rg2, e_Rg2, e_LstRg, e_TupRg, k_EnumT, k_EnumL, e_Enum, k_UL, k_US, k_UT, i_U, e_Disp, e_DNew, k_StarT, e_Star, e_NoPart, k_Part, e_Part, k_SlUT, k_SlUL, k_Sl1, e_SlU, k_SlLL, k_SlLS, e_SlL, k_Split, e_Split, k_Join2, k_Join, e_Join, e_Meth0, g_Seq2T, g_Seq2L, g_Seq3L, g_Seq3T, e_SubU, e_Fld, e_MakeS, k_Cm2, e_Cm2, k_DicF, e_DicF, e_SortS, e_Meth, e_V11, e_V12, e_V13, e_V14, e_V15, e_V16, e_V17, e_V18, e_V19, e_V20, e_V21, e_V22, e_V23, e_V24, e_V25, e_V26, e_V27, e_V28, e_V29, e_V30, k_L0, k_L1, k_L2, k_L3, k_L4, k_L5, k_L6, k_L7, k_L8, k_T0, k_T1, k_T2, k_T3, k_T4, k_T5, k_T6, k_T7, k_T8, lp_nx, lp_ct, u_add, u_int, o_sub, o_cmp, o_neg, o_isN0, o_isN1, o_isI0, o_isI1, p_1_0, p_2_01, p_2_10, p_3_012, p_3_021, p_3_102, p_3_120, p_3_201, p_3_210, List.set_cons_succ, List.set_cons_zero, wipe_cons, wipe_nil, tupl_L, x_ok, k_And0, k_And1, k_Or0, k_Or1, e1, e2, q1, q2, Bool.true_and]
      · rw [decide_eq_false c] at q1 ⊢
        simp only [b_ok, b_bad, t_ok, t_bad, e_C, e_V0, e_V1, e_V2, e_V3, e_V4, e_V5, e_V6, e_V7, e_V8, e_V9, e_V10, k_Q, k_Bl, k_TruB, k_TruI, k_TruN, k_NotT, k_AndT1, k_AndT0, k_OrT1, k_OrT0, k_And1, k_And0, k_Or1, k_Or0, k_Not, k_If1, k_If0, k_Cons, k_Tup, k_Lst, k_Frz, k_Own, k_Call, k_CallK, k_Chain1, k_Chain0, k_Chain2, e_Chain, e_Bin, e_BinF, e_Un, e_Bl, e_Tru, e_NotT, e_AndT, e_OrT, e_And, e_Or, e_Not, e_If, e_Nil, e_Cons, e_Tup, e_Lst, e_Frz, e_Own, e_CB, e_CBF, e_Call, e_CallP, k_CallKP, e_CallKP, e_CallK, go_nx, go_rt, go_bk, go_ct, e_Next, e_Seq, k_Drop, e_Drop, k_Ret, e_Ret, k_IfS1, k_IfS0, e_IfS, g_Name, g_Nil, g_Cons, g_Tup, k_Nx, k_Asg, e_Asg, k_Par, e_Par, k_Par3, e_Par3, k_Aug2, k_Aug, e_Aug, k_SeqL, k_SeqS, k_SeqT, i_Seq, k_R1, i_R1, k_R2, i_R2, k_For, e_For, k_Turn, k_Lc, e_Lc, k_Wh1, k_Wh0, r_nx, r_rt, x_ok, x_same, k_RevT, e_RevT, k_RevL, e_RevL, k_Rg1, e_Rg1, k_Rg2, e_Rg2, e_LstRg, e_TupRg, k_EnumT, k_EnumL, e_Enum, k_UL, k_US, k_UT, i_U, e_Disp, e_DNew, k_StarT, e_Star, e_NoPart, k_Part, e_Part, k_SlUT, k_SlUL, k_Sl1, e_SlU, k_SlLL, k_SlLS, e_SlL, k_Split, e_Split, k_Join2, k_Join, e_Join, e_Meth0, g_Seq2T, g_Seq2L, g_Seq3L, g_Seq3T, e_SubU, e_Fld, e_MakeS, k_Cm2, e_Cm2, k_DicF, e_DicF, e_SortS, e_Meth, e_V11, e_V12, e_V13, e_V14, e_V15, e_V16, e_V17, e_V18, e_V19, e_V20, e_V21, e_V22, e_V23, e_V24, e_V25, e_V26, e_V27, e_V28, e_V29, e_V30, k_L0, k_L1, k_L2, k_L3, k_L4, k_L5, k_L6, k_L7, k_L8, k_T0, k_T1, k_T2, k_T3, k_T4, k_T5, k_T6, k_T7, k_T8, lp_nx, lp_ct, u_add, u_int, o_sub, o_cmp, o_neg, o_isN0, o_isN1, o_isI0, o_isI1, p_1_0, p_2_01, p_2_10, p_3_012, p_3_021, p_3_102, p_3_120, p_3_201, p_3_210, List.set_cons_succ, List.set_cons_zero, wipe_cons, wipe_nil, tupl_L, x_ok, k_And0, k_And1, k_Or0, k_Or1, e1, e2, q1, q2, Bool.false_and], by simp only [b_ok, b_bad, t_ok, t_bad, e_C, e_V0, e_V1, e_V2, e_V3, e_V4, e_V5, e_V6, e_V7, e_V8, e_V9, e_V10, k_Q, k_Bl, k_TruB, k_TruI, k_TruN, k_NotT, k_AndT1, k_AndT0, k_OrT1, k_OrT0, k_And1, k_And0, k_Or1, k_Or0, k_Not, k_If1, k_If0, k_Cons, k_Tup, k_Lst, k_Frz, k_Own, k_Call, k_CallK, k_Chain1, k_Chain0, k_Chain2, e_Chain, e_Bin, e_BinF, e_Un, e_Bl, e_Tru, e_NotT, e_AndT, e_OrT, e_And, e_Or, e_Not, e_If, e_Nil, e_Cons, e_Tup, e_Lst, e_Frz, e_Own, e_CB, e_CBF, e_Call, e_CallP, k_CallKP, e_CallKP, e_CallK, go_nx, go_rt, go_bk, go_ct, e_Next, e_Seq, k_Drop, e_Drop, k_Ret, e_Ret, k_IfS1, k_IfS0, e_IfS, g_Name, g_Nil, g_Cons, g_Tup, k_Nx, k_Asg, e_Asg, k_Par, e_Par, k_Par3, e_Par3, k_Aug2, k_Aug, e_Aug, k_SeqL, k_SeqS, k_SeqT, i_Seq, k_R1, i_R1, k_R2, i_R2, k_For, e_For, k_Turn, k_Lc, e_Lc, k_Wh1, k_Wh0, r_nx, r_rt, x_ok, x_same, k_RevT, e_RevT, k_RevL, e_RevL, k_Rg1, e_Rg1, k_Rg2, e_Rg2, e_LstRg, e_TupRg, k_EnumT, k_EnumL, e_Enum, k_UL, k_US, k_UT, i_U, e_Disp, e_DNew, k_StarT, e_Star, e_NoPart, k_Part, e_Part, k_SlUT, k_SlUL, k_Sl1, e_SlU, k_SlLL, k_SlLS, e_SlL, k_Split, e_Split, k_Join2, k_Join, e_Join, e_Meth0, g_Seq2T, g_Seq2L, g_Seq3L, g_Seq3T, e_SubU, e_Fld, e_MakeS, k_Cm2, e_Cm2, k_DicF, e_DicF, e_SortS, e_Meth, e_V11, e_V12, e_V13, e_V14, e_V15, e_V16, e_V17, e_V18, e_V19, e_V20, e_V21, e_V22, e_V23, e_V24, e_V25, e_V26, e_V27, e_V28, e_V29, e_V30, k_L0, k_L1, k_L2, k_L3, k_L4, k_L5, k_L6, k_L7, k_L8, k_T0, k_T1, k_T2, k_T3, k_T4, k_T5, k_T6, k_T7, k_T8, lp_nx, lp_ct, u_add, u_int, o_sub, o_cmp, o_neg, o_isN0, o_isN1, o_isI0, o_isI1, p_1_0, p_2_01, p_2_10, p_3_012, p_3_021, p_3_102, p_3_120, p_3_201, p_3_210, List.set_cons_succ, List.set_cons_zero, wipe_cons, wipe_nil, tupl_L, x_ok, k_And0, k_And1, k_Or0, k_Or1]⟩
  have g0 : 0 < Nat.gcd a b := Nat.gcd_pos_of_pos_left _ ha
  have mx : maxLD [.lst (((List.range (min a b)).filter fun i => decide (a % (i + 1) = 0) && decide (b % (i + 1) = 0)).map mk1)] ([] : AH) = .ok (.int ((Nat.gcd a b : Nat) : Int)) [] := by
    have e : ((List.range (min a b)).filter fun i => decide (a % (i + 1) = 0) && decide (b % (i + 1) = 0)).map mk1 = (((List.range (min a b)).filter fun i => decide (a % (i + 1) = 0) && decide (b % (i + 1) = 0)).map fun (i : Nat) => 1 + (i : Int)).map D.int := by rw [List.map_map]; rfl
    rw [e]
    refine max_is (fun x hx => ?_) ?_ _
    · obtain ⟨i, hi, rfl⟩ := List.mem_map.mp hx
      have f := (List.mem_filter.mp hi).2
      simp only [Bool.and_eq_true, decide_eq_true_eq] at f
      have := Nat.le_of_dvd g0 (Nat.dvd_gcd (Nat.dvd_of_mod_eq_zero f.1) (Nat.dvd_of_mod_eq_zero f.2))
      omega
    · have l1 := Nat.le_of_dvd ha (Nat.gcd_dvd_left a b)
      have l2 := Nat.le_of_dvd hb (Nat.gcd_dvd_right a b)
      refine List.mem_map.mpr ⟨Nat.gcd a b - 1, List.mem_filter.mpr ⟨List.mem_range.mpr (by omega), ?_⟩, by omega⟩
      have e : Nat.gcd a b - 1 + 1 = Nat.gcd a b := by omega
      rw [e]
      simp only [Bool.and_eq_true, decide_eq_true_eq]
      exact ⟨Nat.mod_eq_zero_of_dvd (Nat.gcd_dvd_left a b), Nat.mod_eq_zero_of_dvd (Nat.gcd_dvd_right a b)⟩
  have ls := len_1 (z := min a b) (by omega)
  simp only [F__law_shared, m__law_shared, f_T, ei, b_ok, b_bad, t_ok, t_bad, e_C, e_V0, e_V1, e_V2, e_V3, e_V4, e_V5, e_V6, e_V7, e_V8, e_V9, e_V10, k_Q, k_Bl, k_TruB, k_TruI, k_TruN, k_NotT, k_AndT1, k_AndT0, k_OrT1, k_OrT0, k_And1, k_And0, k_Or1, k_Or0, k_Not, k_If1, k_If0, k_Cons, k_Tup, k_Lst, k_Frz, k_Own, k_Call, k_CallK, k_Chain1, k_Chain0, k_Chain2, e_Chain, e_Bin, e_BinF, e_Un, e_Bl, e_Tru, e_NotT, e_AndT, e_OrT, e_And, e_Or, e_Not, e_If, e_Nil, e_Cons, e_Tup, e_Lst, e_Frz, e_Own, e_CB, e_CBF, e_Call, e_CallP, k_CallKP, e_CallKP, e_CallK, go_nx, go_rt, go_bk, go_ct, e_Next, e_Seq, k_Drop, e_Drop, k_Ret, e_Ret, k_IfS1, k_IfS0, e_IfS, g_Name, g_Nil, g_Cons, g_Tup, k_Nx, k_Asg, e_Asg, k_Par, e_Par, k_Par3, e_Par3, k_Aug2, k_Aug, e_Aug, k_SeqL, k_SeqS, k_SeqT, i_Seq, k_R1, i_R1, k_R2, i_R2, k_For, e_For, k_Turn, k_Lc, e_Lc, k_Wh1, k_Wh0, r_nx, r_rt, x_ok, x_same, k_RevT, e_RevT, k_RevL, e_RevL, k_Rg1, e_Rg1, k_Rg2, e_Rg2, e_LstRg, e_TupRg, k_EnumT, k_EnumL, e_Enum, k_UL, k_US, k_UT, i_U, e_Disp, e_DNew, k_StarT, e_Star, e_NoPart, k_Part, e_Part, k_SlUT, k_SlUL, k_Sl1, e_SlU, k_SlLL, k_SlLS, e_SlL, k_Split, e_Split, k_Join2, k_Join, e_Join, e_Meth0, g_Seq2T, g_Seq2L, g_Seq3L, g_Seq3T, e_SubU, e_Fld, e_MakeS, k_Cm2, e_Cm2, k_DicF, e_DicF, e_SortS, e_Meth, e_V11, e_V12, e_V13, e_V14, e_V15, e_V16, e_V17, e_V18, e_V19, e_V20, e_V21, e_V22, e_V23, e_V24, e_V25, e_V26, e_V27, e_V28, e_V29, e_V30, k_L0, k_L1, k_L2, k_L3, k_L4, k_L5, k_L6, k_L7, k_L8, k_T0, k_T1, k_T2, k_T3, k_T4, k_T5, k_T6, k_T7, k_T8, lp_nx, lp_ct, u_add, u_int, o_sub, o_cmp, o_neg, o_isN0, o_isN1, o_isI0, o_isI1, p_1_0, p_2_01, p_2_10, p_3_012, p_3_021, p_3_102, p_3_120, p_3_201, p_3_210, List.set_cons_succ, List.set_cons_zero, wipe_cons, wipe_nil, tupl_L, x_ok, k_And0, k_And1, k_Or0, k_Or1, mn, kr, k_Lc ls, lc, mx]
  exact x_cut (by simp)
theorem shared_c (ha : 1 ≤ a) (hb : 1 ≤ b) (ha2 : a ≤ 1000) (hb2 : b ≤ 1000) : ∀ h, callP 2 F__law_shared [.int a, .int b] h = .ok (.int ((Nat.gcd a b : Nat) : Int)) h := fun h => c_P (shared_ok ha hb ha2 hb2) rfl (by simp [belowL]) (by simp)
end
end K69

/-! The mean number and the number of kinds. -/
namespace K69
open PySem PySem.Spec L2 Ab
section
variable {h : AH} {n m a b : Nat}
def phi (l : Nat) : Nat := ((List.range l).filter fun k => decide (Nat.gcd (k + 1) l = 1)).length
def divs (n : Nat) : List Nat := (List.range n).filter fun i => decide (n % (i + 1) = 0)
def meanS (n m : Nat) : Nat := (divs n).foldl (fun A i => A + phi (i + 1) * Nat.gcd (i + 1) m * m ^ (n / (i + 1))) 0
def kindS (n m : Nat) : Nat := (List.range n).foldl (fun A i => A + Nat.gcd (n / Nat.gcd n (i + 1)) m * m ^ (Nat.gcd n (i + 1))) 0
theorem mul_L {x y : Nat} (hx : x < 2 ^ 60) : ∀ h : AH, mulD (.int x) (.int y) h = .ok (.int ((x * y : Nat) : Int)) h := fun h => by
  rw [o_mulL (by omega) (by omega), Int.natCast_mul]
theorem div_nat {x y : Nat} (hy : 0 < y) (hy2 : y < 1073741824) : ∀ h : AH, divD (.int x) (.int y) h = .ok (.int ((x / y : Nat) : Int)) h := fun h => by
  rw [o_div (by omega) (by omega), Int.natCast_ediv]
theorem div_1 (a i : Nat) (hi : i < 1000) : ∀ h : AH, divD (.int a) (mk1 i) h = .ok (.int ((a / (i + 1) : Nat) : Int)) h := fun h => by
  have e : (1 + (i : Int)) = ((i + 1 : Nat) : Int) := by omega
  show divD (.int a) (.int (1 + (i : Int))) h = _
  rw [e]; exact div_nat (by omega) (by omega) h
theorem mk1_eq (i : Nat) : mk1 i = .int ((i + 1 : Nat) : Int) := by
  show D.int (1 + (i : Int)) = _
  have e : (1 + (i : Int)) = ((i + 1 : Nat) : Int) := by omega
  rw [e]
theorem phi_le (l : Nat) : phi l ≤ l := Nat.le_trans (List.length_filter_le _ _) (by rw [List.length_range]; exact Nat.le_refl _)
theorem mean_ok (hn : 1 ≤ n) (hn2 : n ≤ 200) (hm : 1 ≤ m) (hm2 : m ≤ 1000) : F__law_mean [.int n, .int m] [] = .ok (.int ((meanS n m / (n * m) : Nat) : Int)) [] := by
  have ei : initE 6 [D.int (n : Nat), .int (m : Nat)] = [some (.int (n : Nat)), some (.int (m : Nat)), none, none, none, none] := rfl
  have kr : ∀ h : AH, kR2 [.int 1, .int ((n : Int) + 1)] h = .ok (.items ((List.range n).map mk1)) h := fun h => by rw [k_R2 (by decide) (by decide) (by omega) (by omega), rng_1]
  have lc : lcItems (mgName 5) (mBl (mBin eqD (mBin modD (mCB intUD (mCons (mVar 0) mNil)) (mVar 5)) (mC (.int 0)))) (mVar 5) [some (.int (n : Nat)), some (.int (m : Nat)), some (.int 0), none, none, none] ((List.range n).map mk1) [] = .ok ((divs n).map mk1) [] :=
    Tb.lc_filt2 mk1 (fun i => decide (n % (i + 1) = 0)) fun i hi => ⟨_, rfl, by
      have e1 := mod_1 n i
      have q1 := eq_dec (x := n % (i + 1)) (y := 0)
      have z : ((0 : Nat) : Int) = 0 := rfl
      rw [z] at q1
      simp only [b_ok, b_bad, t_ok, t_bad, e_C, e_V0, e_V1, e_V2, e_V3, e_V4, e_V5, e_V6, e_V7, e_V8, e_V9, e_V10, k_Q, k_Bl, k_TruB, k_TruI, k_TruN, k_NotT, k_AndT1, k_AndT0, k_OrT1, k_OrT0, k_And1, k_And0, k_Or1, k_Or0, k_Not, k_If1, k_If0, k_Cons, k_Tup, k_Lst, k_Frz, k_Own, k_Call, k_CallK, k_Chain1, k_Chain0, k_Chain2, e_Chain, e_Bin, e_BinF, e_Un, e_Bl, e_Tru, e_NotT, e_AndT, e_OrT, e_And, e_Or, e_Not, e_If, e_Nil, e_Cons, e_Tup, e_Lst, e_Frz, e_Own, e_CB, e_CBF, e_Call, e_CallP, k_CallKP, e_CallKP, e_CallK, go_nx, go_rt, go_bk, go_ct, e_Next, e_Seq, k_Drop, e_Drop, k_Ret, e_Ret, k_IfS1, k_IfS0, e_IfS, g_Name, g_Nil, g_Cons, g_Tup, k_Nx, k_Asg, e_Asg, k_Par, e_Par, k_Par3, e_Par3, k_Aug2, k_Aug, e_Aug, k_SeqL, k_SeqS, k_SeqT, i_Seq, k_R1, i_R1, k_R2, i_R2, k_For, e_For, k_Turn, k_Lc, e_Lc, k_Wh1, k_Wh0, r_nx, r_rt, x_ok, x_same, k_RevT, e_RevT, k_RevL, e_RevL, k_Rg1, e_Rg1, k_Rg2, e_Rg2, e_LstRg, e_TupRg, k_EnumT, k_EnumL, e_Enum, k_UL, k_US, k_UT, i_U, e_Disp, e_DNew, k_StarT, e_Star, e_NoPart, k_Part, e_Part, k_SlUT, k_SlUL, k_Sl1, e_SlU, k_SlLL, k_SlLS, e_SlL, k_Split, e_Split, k_Join2, k_Join, e_Join, e_Meth0, g_Seq2T, g_Seq2L, g_Seq3L, g_Seq3T, e_SubU, e_Fld, e_MakeS, k_Cm2, e_Cm2, k_DicF, e_DicF, e_SortS, e_Meth, e_V11, e_V12, e_V13, e_V14, e_V15, e_V16, e_V17, e_V18, e_V19, e_V20, e_V21, e_V22, e_V23, e_V24, e_V25, e_V26, e_V27, e_V28, e_V29, e_V30, k_L0, k_L1, k_L2, k_L3, k_L4, k_L5, k_L6, k_L7, k_L8, k_T0, k_T1, k_T2, k_T3, k_T4, k_T5, k_T6, k_T7, k_T8, lp_nx, lp_ct, u_add, u_int, o_sub, o_cmp, o_neg, o_isN0, o_isN1, o_isI0, o_isI1, p_1_0, p_2_01, p_2_10, p_3_012, p_3_021, p_3_102, p_3_120, p_3_201, p_3_210, List.set_cons_succ, List.set_cons_zero, wipe_cons, wipe_nil, tupl_L, x_ok, k_And0, k_And1, k_Or0, k_Or1, e1, q1], by simp only [b_ok, b_bad, t_ok, t_bad, e_C, e_V0, e_V1, e_V2, e_V3, e_V4, e_V5, e_V6, e_V7, e_V8, e_V9, e_V10, k_Q, k_Bl, k_TruB, k_TruI, k_TruN, k_NotT, k_AndT1, k_AndT0, k_OrT1, k_OrT0, k_And1, k_And0, k_Or1, k_Or0, k_Not, k_If1, k_If0, k_Cons, k_Tup, k_Lst, k_Frz, k_Own, k_Call, k_CallK, k_Chain1, k_Chain0, k_Chain2, e_Chain, e_Bin, e_BinF, e_Un, e_Bl, e_Tru, e_NotT, e_AndT, e_OrT, e_And, e_Or, e_Not, e_If, e_Nil, e_Cons, e_Tup, e_Lst, e_Frz, e_Own, e_CB, e_CBF, e_Call, e_CallP, k_CallKP, e_CallKP, e_CallK, go_nx, go_rt, go_bk, go_ct, e_Next, e_Seq, k_Drop, e_Drop, k_Ret, e_Ret, k_IfS1, k_IfS0, e_IfS, g_Name, g_Nil, g_Cons, g_Tup, k_Nx, k_Asg, e_Asg, k_Par, e_Par, k_Par3, e_Par3, k_Aug2, k_Aug, e_Aug, k_SeqL, k_SeqS, k_SeqT, i_Seq, k_R1, i_R1, k_R2, i_R2, k_For, e_For, k_Turn, k_Lc, e_Lc, k_Wh1, k_Wh0, r_nx, r_rt, x_ok, x_same, k_RevT, e_RevT, k_RevL, e_RevL, k_Rg1, e_Rg1, k_Rg2, e_Rg2, e_LstRg, e_TupRg, k_EnumT, k_EnumL, e_Enum, k_UL, k_US, k_UT, i_U, e_Disp, e_DNew, k_StarT, e_Star, e_NoPart, k_Part, e_Part, k_SlUT, k_SlUL, k_Sl1, e_SlU, k_SlLL, k_SlLS, e_SlL, k_Split, e_Split, k_Join2, k_Join, e_Join, e_Meth0, g_Seq2T, g_Seq2L, g_Seq3L, g_Seq3T, e_SubU, e_Fld, e_MakeS, k_Cm2, e_Cm2, k_DicF, e_DicF, e_SortS, e_Meth, e_V11, e_V12, e_V13, e_V14, e_V15, e_V16, e_V17, e_V18, e_V19, e_V20, e_V21, e_V22, e_V23, e_V24, e_V25, e_V26, e_V27, e_V28, e_V29, e_V30, k_L0, k_L1, k_L2, k_L3, k_L4, k_L5, k_L6, k_L7, k_L8, k_T0, k_T1, k_T2, k_T3, k_T4, k_T5, k_T6, k_T7, k_T8, lp_nx, lp_ct, u_add, u_int, o_sub, o_cmp, o_neg, o_isN0, o_isN1, o_isI0, o_isI1, p_1_0, p_2_01, p_2_10, p_3_012, p_3_021, p_3_102, p_3_120, p_3_201, p_3_210, List.set_cons_succ, List.set_cons_zero, wipe_cons, wipe_nil, tupl_L, x_ok, k_And0, k_And1, k_Or0, k_Or1]⟩
  obtain ⟨env', h', e, x3, x4, rfl, rfl⟩ := for_fold (g := mgName 3) (p := b__law_mean_1) mk1 (fun A i => A + phi (i + 1) * Nat.gcd (i + 1) m * m ^ (n / (i + 1)))
    (fun A env h => ∃ x3 x4, env = [some (.int (n : Nat)), some (.int (m : Nat)), some (.int ((A : Nat) : Int)), x3, x4, none] ∧ h = []) (xs := divs n) (s := 0) (env := [some (.int (n : Nat)), some (.int (m : Nat)), some (.int 0), none, none, none]) (h := []) ⟨_, _, rfl, rfl⟩ (by
      rintro i hi A env h ⟨x3, x4, rfl, rfl⟩
      have hi2 := List.mem_range.mp (List.mem_filter.mp hi).1
      have kr2 : ∀ h : AH, kR2 [.int 1, .int (((i + 1 : Nat) : Int) + 1)] h = .ok (.items ((List.range (i + 1)).map mk1)) h := fun h => by rw [k_R2 (by decide) (by decide) (by omega) (by omega), rng_1]
      have ls := len_1 (z := i + 1) (by omega)
      have lc2 : lcItems (mgName 5) (mBl (mBin eqD (mCallP 2 F__law_shared (mCons (mVar 5) (mCons (mVar 3) mNil))) (mC (.int 1)))) (mVar 5) [some (.int (n : Nat)), some (.int (m : Nat)), some (.int ((A : Nat) : Int)), some (.int ((i + 1 : Nat) : Int)), x4, none] ((List.range (i + 1)).map mk1) [] = .ok (((List.range (i + 1)).filter fun k => decide (Nat.gcd (k + 1) (i + 1) = 1)).map mk1) [] :=
        Tb.lc_filt2 mk1 (fun k => decide (Nat.gcd (k + 1) (i + 1) = 1)) fun k hk => ⟨_, rfl, by
          have hk2 := List.mem_range.mp hk
          have c1 := shared_c (a := k + 1) (b := i + 1) (by omega) (by omega) (by omega) (by omega)
          have q1 := eq_dec (x := Nat.gcd (k + 1) (i + 1)) (y := 1)
          have z : ((1 : Nat) : Int) = 1 := rfl
          rw [z] at q1
          rw [mk1_eq k]
          simp only [b_ok, b_bad, t_ok, t_bad, e_C, e_V0, e_V1, e_V2, e_V3, e_V4, e_V5, e_V6, e_V7, e_V8, e_V9, e_V10, k_Q, k_Bl, k_TruB, k_TruI, k_TruN, k_NotT, k_AndT1, k_AndT0, k_OrT1, k_OrT0, k_And1, k_And0, k_Or1, k_Or0, k_Not, k_If1, k_If0, k_Cons, k_Tup, k_Lst, k_Frz, k_Own, k_Call, k_CallK, k_Chain1, k_Chain0, k_Chain2, e_Chain, e_Bin, e_BinF, e_Un, e_Bl, e_Tru, e_NotT, e_AndT, e_OrT, e_And, e_Or, e_Not, e_If, e_Nil, e_Cons, e_Tup, e_Lst, e_Frz, e_Own, e_CB, e_CBF, e_Call, e_CallP, k_CallKP, e_CallKP, e_CallK, go_nx, go_rt, go_bk, go_ct, e_Next, e_Seq, k_Drop, e_Drop, k_Ret, e_Ret, k_IfS1, k_IfS0, e_IfS, g_Name, g_Nil, g_Cons, g_Tup, k_Nx, k_Asg, e_Asg, k_Par, e_Par, k_Par3, e_Par3, k_Aug2, k_Aug, e_Aug, k_SeqL, k_SeqS, k_SeqT, i_Seq, k_R1, i_R1, k_R2, i_R2, k_For, e_For, k_Turn, k_Lc, e_Lc, k_Wh1, k_Wh0, r_nx, r_rt, x_ok, x_same, k_RevT, e_RevT, k_RevL, e_RevL, k_Rg1, e_Rg1, k_Rg2, e_Rg2, e_LstRg, e_TupRg, k_EnumT, k_EnumL, e_Enum, k_UL, k_US, k_UT, i_U, e_Disp, e_DNew, k_StarT, e_Star, e_NoPart, k_Part, e_Part, k_SlUT, k_SlUL, k_Sl1, e_SlU, k_SlLL, k_SlLS, e_SlL, k_Split, e_Split, k_Join2, k_Join, e_Join, e_Meth0, g_Seq2T, g_Seq2L, g_Seq3L, g_Seq3T, e_SubU, e_Fld, e_MakeS, k_Cm2, e_Cm2, k_DicF, e_DicF, e_SortS, e_Meth, e_V11, e_V12, e_V13, e_V14, e_V15, e_V16, e_V17, e_V18, e_V19, e_V20, e_V21, e_V22, e_V23, e_V24, e_V25, e_V26, e_V27, e_V28, e_V29, e_V30, k_L0, k_L1, k_L2, k_L3, k_L4, k_L5, k_L6, k_L7, k_L8, k_T0, k_T1, k_T2, k_T3, k_T4, k_T5, k_T6, k_T7, k_T8, lp_nx, lp_ct, u_add, u_int, o_sub, o_cmp, o_neg, o_isN0, o_isN1, o_isI0, o_isI1, p_1_0, p_2_01, p_2_10, p_3_012, p_3_021, p_3_102, p_3_120, p_3_201, p_3_210, List.set_cons_succ, List.set_cons_zero, wipe_cons, wipe_nil, tupl_L, x_ok, k_And0, k_And1, k_Or0, k_Or1, c1, q1], by simp only [b_ok, b_bad, t_ok, t_bad, e_C, e_V0, e_V1, e_V2, e_V3, e_V4, e_V5, e_V6, e_V7, e_V8, e_V9, e_V10, k_Q, k_Bl, k_TruB, k_TruI, k_TruN, k_NotT, k_AndT1, k_AndT0, k_OrT1, k_OrT0, k_And1, k_And0, k_Or1, k_Or0, k_Not, k_If1, k_If0, k_Cons, k_Tup, k_Lst, k_Frz, k_Own, k_Call, k_CallK, k_Chain1, k_Chain0, k_Chain2, e_Chain, e_Bin, e_BinF, e_Un, e_Bl, e_Tru, e_NotT, e_AndT, e_OrT, e_And, e_Or, e_Not, e_If, e_Nil, e_Cons, e_Tup, e_Lst, e_Frz, e_Own, e_CB, e_CBF, e_Call, e_CallP, k_CallKP, e_CallKP, e_CallK, go_nx, go_rt, go_bk, go_ct, e_Next, e_Seq, k_Drop, e_Drop, k_Ret, e_Ret, k_IfS1, k_IfS0, e_IfS, g_Name, g_Nil, g_Cons, g_Tup, k_Nx, k_Asg, e_Asg, k_Par, e_Par, k_Par3, e_Par3, k_Aug2, k_Aug, e_Aug, k_SeqL, k_SeqS, k_SeqT, i_Seq, k_R1, i_R1, k_R2, i_R2, k_For, e_For, k_Turn, k_Lc, e_Lc, k_Wh1, k_Wh0, r_nx, r_rt, x_ok, x_same, k_RevT, e_RevT, k_RevL, e_RevL, k_Rg1, e_Rg1, k_Rg2, e_Rg2, e_LstRg, e_TupRg, k_EnumT, k_EnumL, e_Enum, k_UL, k_US, k_UT, i_U, e_Disp, e_DNew, k_StarT, e_Star, e_NoPart, k_Part, e_Part, k_SlUT, k_SlUL, k_Sl1, e_SlU, k_SlLL, k_SlLS, e_SlL, k_Split, e_Split, k_Join2, k_Join, e_Join, e_Meth0, g_Seq2T, g_Seq2L, g_Seq3L, g_Seq3T, e_SubU, e_Fld, e_MakeS, k_Cm2, e_Cm2, k_DicF, e_DicF, e_SortS, e_Meth, e_V11, e_V12, e_V13, e_V14, e_V15, e_V16, e_V17, e_V18, e_V19, e_V20, e_V21, e_V22, e_V23, e_V24, e_V25, e_V26, e_V27, e_V28, e_V29, e_V30, k_L0, k_L1, k_L2, k_L3, k_L4, k_L5, k_L6, k_L7, k_L8, k_T0, k_T1, k_T2, k_T3, k_T4, k_T5, k_T6, k_T7, k_T8, lp_nx, lp_ct, u_add, u_int, o_sub, o_cmp, o_neg, o_isN0, o_isN1, o_isI0, o_isI1, p_1_0, p_2_01, p_2_10, p_3_012, p_3_021, p_3_102, p_3_120, p_3_201, p_3_210, List.set_cons_succ, List.set_cons_zero, wipe_cons, wipe_nil, tupl_L, x_ok, k_And0, k_And1, k_Or0, k_Or1]⟩
      have ll : ∀ h : AH, lenUD [.lst (((List.range (i + 1)).filter fun k => decide (Nat.gcd (k + 1) (i + 1) = 1)).map mk1)] h = .ok (.int ((phi (i + 1) : Nat) : Int)) h := fun h => by
        rw [u_lenL, List.length_map]; rfl
      have c2 := shared_c (a := i + 1) (b := m) (by omega) hm (by omega) hm2
      have d1 := div_1 n i (by omega)
      rw [mk1_eq i] at d1
      have c3 := often_c (m := m) (r := n / (i + 1)) hm2 (Nat.le_trans (Nat.div_le_self _ _) (by omega))
      have p1 := phi_le (i + 1)
      have g1 : Nat.gcd (i + 1) m ≤ i + 1 := Nat.le_of_dvd (by omega) (Nat.gcd_dvd_left _ _)
      have p2 : phi (i + 1) * Nat.gcd (i + 1) m ≤ 200 * 200 := Nat.mul_le_mul (by omega) (by omega)
      have m1 := mul_L (x := phi (i + 1)) (y := Nat.gcd (i + 1) m) (by omega)
      have m2 := mul_L (x := phi (i + 1) * Nat.gcd (i + 1) m) (y := m ^ (n / (i + 1))) (by omega)
      have ea : ((A : Int) + ((phi (i + 1) * Nat.gcd (i + 1) m * m ^ (n / (i + 1)) : Nat) : Int)) = ((A + phi (i + 1) * Nat.gcd (i + 1) m * m ^ (n / (i + 1)) : Nat) : Int) := (Int.natCast_add _ _).symm
      refine ⟨_, _, [some (.int (n : Nat)), some (.int (m : Nat)), some (.int ((A + phi (i + 1) * Nat.gcd (i + 1) m * m ^ (n / (i + 1)) : Nat) : Int)), some (.int ((i + 1 : Nat) : Int)), some (.int ((phi (i + 1) : Nat) : Int))
, none], [], rfl, ?_, _, _, rfl, rfl⟩
      rw [mk1_eq i]
      unfold b__law_mean_1
      simp only [b_ok, b_bad, t_ok, t_bad, e_C, e_V0, e_V1, e_V2, e_V3, e_V4, e_V5, e_V6, e_V7, e_V8, e_V9, e_V10, k_Q, k_Bl, k_TruB, k_TruI, k_TruN, k_NotT, k_AndT1, k_AndT0, k_OrT1, k_OrT0, k_And1, k_And0, k_Or1, k_Or0, k_Not, k_If1, k_If0, k_Cons, k_Tup, k_Lst, k_Frz, k_Own, k_Call, k_CallK, k_Chain1, k_Chain0, k_Chain2, e_Chain, e_Bin, e_BinF, e_Un, e_Bl, e_Tru, e_NotT, e_AndT, e_OrT, e_And, e_Or, e_Not, e_If, e_Nil, e_Cons, e_Tup, e_Lst, e_Frz, e_Own, e_CB, e_CBF, e_Call, e_CallP, k_CallKP, e_CallKP, e_CallK, go_nx, go_rt, go_bk, go_ct, e_Next, e_Seq, k_Drop, e_Drop, k_Ret, e_Ret, k_IfS1, k_IfS0, e_IfS, g_Name, g_Nil, g_Cons, g_Tup, k_Nx, k_Asg, e_Asg, k_Par, e_Par, k_Par3, e_Par3, k_Aug2, k_Aug, e_Aug, k_SeqL, k_SeqS, k_SeqT, i_Seq, k_R1, i_R1, k_R2, i_R2, k_For, e_For, k_Turn, k_Lc, e_Lc, k_Wh1, k_Wh0, r_nx, r_rt, x_ok, x_same, k_RevT, e_RevT, k_RevL, e_RevL, k_Rg1, e_Rg1, k_Rg2, e_Rg2, e_LstRg, e_TupRg, k_EnumT, k_EnumL, e_Enum, k_UL, k_US, k_UT, i_U, e_Disp, e_DNew, k_StarT, e_Star, e_NoPart, k_Part, e_Part, k_SlUT, k_SlUL, k_Sl1, e_SlU, k_SlLL, k_SlLS, e_SlL, k_Split, e_Split, k_Join2, k_Join, e_Join, e_Meth0, g_Seq2T, g_Seq2L, g_Seq3L, g_Seq3T, e_SubU, e_Fld, e_MakeS, k_Cm2, e_Cm2, k_DicF, e_DicF, e_SortS, e_Meth, e_V11, e_V12, e_V13, e_V14, e_V15, e_V16, e_V17, e_V18, e_V19, e_V20, e_V21, e_V22, e_V23, e_V24, e_V25, e_V26, e_V27, e_V28, e_V29, e_V30, k_L0, k_L1, k_L2, k_L3, k_L4, k_L5, k_L6, k_L7, k_L8, k_T0, k_T1, k_T2, k_T3, k_T4, k_T5, k_T6, k_T7, k_T8, lp_nx, lp_ct, u_add, u_int, o_sub, o_cmp, o_neg, o_isN0, o_isN1, o_isI0, o_isI1, p_1_0, p_2_01, p_2_10, p_3_012, p_3_021, p_3_102, p_3_120, p_3_201, p_3_210, List.set_cons_succ, List.set_cons_zero, wipe_cons, wipe_nil, tupl_L, x_ok, k_And0, k_And1, k_Or0, k_Or1, u_mul, kr2, k_Lc ls, lc2, ll, c2, d1, c3, m1, m2, ea])
  have ls := len_1 (z := n) (by omega)
  have e' : forItems (mgName 3) b__law_mean_1 ((divs n).map mk1) [some (.int (n : Nat)), some (.int (m : Nat)), some (.int 0), none, none, none] [] = .nx [some (.int (n : Nat)), some (.int (m : Nat)), some (.int ((meanS n m : Nat) : Int)), x3, x4, none] [] := e
  have nm : 0 < n * m := Nat.mul_pos (by omega) (by omega)
  have nm2 : n * m ≤ 200 * 1000 := Nat.mul_le_mul hn2 hm2
  have m3 := mul_L (x := n) (y := m) (by omega)
  have d3 := div_nat (x := meanS n m) (y := n * m) nm (by omega)
  simp only [F__law_mean, m__law_mean, f_T, ei, b_ok, b_bad, t_ok, t_bad, e_C, e_V0, e_V1, e_V2, e_V3, e_V4, e_V5, e_V6, e_V7, e_V8, e_V9, e_V10, k_Q, k_Bl, k_TruB, k_TruI, k_TruN, k_NotT, k_AndT1, k_AndT0, k_OrT1, k_OrT0, k_And1, k_And0, k_Or1, k_Or0, k_Not, k_If1, k_If0, k_Cons, k_Tup, k_Lst, k_Frz, k_Own, k_Call, k_CallK, k_Chain1, k_Chain0, k_Chain2, e_Chain, e_Bin, e_BinF, e_Un, e_Bl, e_Tru, e_NotT, e_AndT, e_OrT, e_And, e_Or, e_Not, e_If, e_Nil, e_Cons, e_Tup, e_Lst, e_Frz, e_Own, e_CB, e_CBF, e_Call, e_CallP, k_CallKP, e_CallKP, e_CallK, go_nx, go_rt, go_bk, go_ct, e_Next, e_Seq, k_Drop, e_Drop, k_Ret, e_Ret, k_IfS1, k_IfS0, e_IfS, g_Name, g_Nil, g_Cons, g_Tup, k_Nx, k_Asg, e_Asg, k_Par, e_Par, k_Par3, e_Par3, k_Aug2, k_Aug, e_Aug, k_SeqL, k_SeqS, k_SeqT, i_Seq, k_R1, i_R1, k_R2, i_R2, k_For, e_For, k_Turn, k_Lc, e_Lc, k_Wh1, k_Wh0, r_nx, r_rt, x_ok, x_same, k_RevT, e_RevT, k_RevL, e_RevL, k_Rg1, e_Rg1, k_Rg2, e_Rg2, e_LstRg, e_TupRg, k_EnumT, k_EnumL, e_Enum, k_UL, k_US, k_UT, i_U, e_Disp, e_DNew, k_StarT, e_Star, e_NoPart, k_Part, e_Part, k_SlUT, k_SlUL, k_Sl1, e_SlU, k_SlLL, k_SlLS, e_SlL, k_Split, e_Split, k_Join2, k_Join, e_Join, e_Meth0, g_Seq2T, g_Seq2L, g_Seq3L, g_Seq3T, e_SubU, e_Fld, e_MakeS, k_Cm2, e_Cm2, k_DicF, e_DicF, e_SortS, e_Meth, e_V11, e_V12, e_V13, e_V14, e_V15, e_V16, e_V17, e_V18, e_V19, e_V20, e_V21, e_V22, e_V23, e_V24, e_V25, e_V26, e_V27, e_V28, e_V29, e_V30, k_L0, k_L1, k_L2, k_L3, k_L4, k_L5, k_L6, k_L7, k_L8, k_T0, k_T1, k_T2, k_T3, k_T4, k_T5, k_T6, k_T7, k_T8, lp_nx, lp_ct, u_add, u_int, o_sub, o_cmp, o_neg, o_isN0, o_isN1, o_isI0, o_isI1, p_1_0, p_2_01, p_2_10, p_3_012, p_3_021, p_3_102, p_3_120, p_3_201, p_3_210, List.set_cons_succ, List.set_cons_zero, wipe_cons, wipe_nil, tupl_L, x_ok, k_And0, k_And1, k_Or0, k_Or1, u_mul, kr, k_Lc ls, lc, e', m3, d3]
  exact x_cut (by simp)
theorem mean_c (hn : 1 ≤ n) (hn2 : n ≤ 200) (hm : 1 ≤ m) (hm2 : m ≤ 1000) : ∀ h, callP 2 F__law_mean [.int n, .int m] h = .ok (.int ((meanS n m / (n * m) : Nat) : Int)) h := fun h => c_P (mean_ok hn hn2 hm hm2) rfl (by simp [belowL]) (by simp)
theorem isint_c {v : Int} : ∀ h, callP 1 F_is_integer [.int v] h = .ok (.bl true) h := fun h => by
  refine c_P (h' := []) ?_ rfl (by simp [belowL]) (by simp)
  have ei : initE 1 [D.int v] = [some (.int v)] := rfl
  simp only [F_is_integer, m_is_integer, f_T, ei, b_ok, b_bad, t_ok, t_bad, e_C, e_V0, e_V1, e_V2, e_V3, e_V4, e_V5, e_V6, e_V7, e_V8, e_V9, e_V10, k_Q, k_Bl, k_TruB, k_TruI, k_TruN, k_NotT, k_AndT1, k_AndT0, k_OrT1, k_OrT0, k_And1, k_And0, k_Or1, k_Or0, k_Not, k_If1, k_If0, k_Cons, k_Tup, k_Lst, k_Frz, k_Own, k_Call, k_CallK, k_Chain1, k_Chain0, k_Chain2, e_Chain, e_Bin, e_BinF, e_Un, e_Bl, e_Tru, e_NotT, e_AndT, e_OrT, e_And, e_Or, e_Not, e_If, e_Nil, e_Cons, e_Tup, e_Lst, e_Frz, e_Own, e_CB, e_CBF, e_Call, e_CallP, k_CallKP, e_CallKP, e_CallK, go_nx, go_rt, go_bk, go_ct, e_Next, e_Seq, k_Drop, e_Drop, k_Ret, e_Ret, k_IfS1, k_IfS0, e_IfS, g_Name, g_Nil, g_Cons, g_Tup, k_Nx, k_Asg, e_Asg, k_Par, e_Par, k_Par3, e_Par3, k_Aug2, k_Aug, e_Aug, k_SeqL, k_SeqS, k_SeqT, i_Seq, k_R1, i_R1, k_R2, i_R2, k_For, e_For, k_Turn, k_Lc, e_Lc, k_Wh1, k_Wh0, r_nx, r_rt, x_ok, x_same, k_RevT, e_RevT, k_RevL, e_RevL, k_Rg1, e_Rg1, k_Rg2, e_Rg2, e_LstRg, e_TupRg, k_EnumT, k_EnumL, e_Enum, k_UL, k_US, k_UT, i_U, e_Disp, e_DNew, k_StarT, e_Star, e_NoPart, k_Part, e_Part, k_SlUT, k_SlUL, k_Sl1, e_SlU, k_SlLL, k_SlLS, e_SlL, k_Split, e_Split, k_Join2, k_Join, e_Join, e_Meth0, g_Seq2T, g_Seq2L, g_Seq3L, g_Seq3T, e_SubU, e_Fld, e_MakeS, k_Cm2, e_Cm2, k_DicF, e_DicF, e_SortS, e_Meth, e_V11, e_V12, e_V13, e_V14, e_V15, e_V16, e_V17, e_V18, e_V19, e_V20, e_V21, e_V22, e_V23, e_V24, e_V25, e_V26, e_V27, e_V28, e_V29, e_V30, k_L0, k_L1, k_L2, k_L3, k_L4, k_L5, k_L6, k_L7, k_L8, k_T0, k_T1, k_T2, k_T3, k_T4, k_T5, k_T6, k_T7, k_T8, lp_nx, lp_ct, u_add, u_int, o_sub, o_cmp, o_neg, o_isN0, o_isN1, o_isI0, o_isI1, p_1_0, p_2_01, p_2_10, p_3_012, p_3_021, p_3_102, p_3_120, p_3_201, p_3_210, List.set_cons_succ, List.set_cons_zero, wipe_cons, wipe_nil, tupl_L, x_ok, k_And0, k_And1, k_Or0, k_Or1, o_isi1, o_isi0]
  rfl
theorem betw_c {v a b : Int} (h1 : a ≤ v) (h2 : v ≤ b) : ∀ h, callP 3 F_is_between [.int v, .int a, .int b] h = .ok (.bl true) h := fun h => by
  refine c_P (h' := []) ?_ rfl (by simp [belowL]) (by simp)
  have ei : initE 3 [D.int v, .int a, .int b] = [some (.int v), some (.int a), some (.int b)] := rfl
  have ii := isint_c (v := v)
  simp only [F_is_between, m_is_between, f_T, ei, b_ok, b_bad, t_ok, t_bad, e_C, e_V0, e_V1, e_V2, e_V3, e_V4, e_V5, e_V6, e_V7, e_V8, e_V9, e_V10, k_Q, k_Bl, k_TruB, k_TruI, k_TruN, k_NotT, k_AndT1, k_AndT0, k_OrT1, k_OrT0, k_And1, k_And0, k_Or1, k_Or0, k_Not, k_If1, k_If0, k_Cons, k_Tup, k_Lst, k_Frz, k_Own, k_Call, k_CallK, k_Chain1, k_Chain0, k_Chain2, e_Chain, e_Bin, e_BinF, e_Un, e_Bl, e_Tru, e_NotT, e_AndT, e_OrT, e_And, e_Or, e_Not, e_If, e_Nil, e_Cons, e_Tup, e_Lst, e_Frz, e_Own, e_CB, e_CBF, e_Call, e_CallP, k_CallKP, e_CallKP, e_CallK, go_nx, go_rt, go_bk, go_ct, e_Next, e_Seq, k_Drop, e_Drop, k_Ret, e_Ret, k_IfS1, k_IfS0, e_IfS, g_Name, g_Nil, g_Cons, g_Tup, k_Nx, k_Asg, e_Asg, k_Par, e_Par, k_Par3, e_Par3, k_Aug2, k_Aug, e_Aug, k_SeqL, k_SeqS, k_SeqT, i_Seq, k_R1, i_R1, k_R2, i_R2, k_For, e_For, k_Turn, k_Lc, e_Lc, k_Wh1, k_Wh0, r_nx, r_rt, x_ok, x_same, k_RevT, e_RevT, k_RevL, e_RevL, k_Rg1, e_Rg1, k_Rg2, e_Rg2, e_LstRg, e_TupRg, k_EnumT, k_EnumL, e_Enum, k_UL, k_US, k_UT, i_U, e_Disp, e_DNew, k_StarT, e_Star, e_NoPart, k_Part, e_Part, k_SlUT, k_SlUL, k_Sl1, e_SlU, k_SlLL, k_SlLS, e_SlL, k_Split, e_Split, k_Join2, k_Join, e_Join, e_Meth0, g_Seq2T, g_Seq2L, g_Seq3L, g_Seq3T, e_SubU, e_Fld, e_MakeS, k_Cm2, e_Cm2, k_DicF, e_DicF, e_SortS, e_Meth, e_V11, e_V12, e_V13, e_V14, e_V15, e_V16, e_V17, e_V18, e_V19, e_V20, e_V21, e_V22, e_V23, e_V24, e_V25, e_V26, e_V27, e_V28, e_V29, e_V30, k_L0, k_L1, k_L2, k_L3, k_L4, k_L5, k_L6, k_L7, k_L8, k_T0, k_T1, k_T2, k_T3, k_T4, k_T5, k_T6, k_T7, k_T8, lp_nx, lp_ct, u_add, u_int, o_sub, o_cmp, o_neg, o_isN0, o_isN1, o_isI0, o_isI1, p_1_0, p_2_01, p_2_10, p_3_012, p_3_021, p_3_102, p_3_120, p_3_201, p_3_210, List.set_cons_succ, List.set_cons_zero, wipe_cons, wipe_nil, tupl_L, x_ok, k_And0, k_And1, k_Or0, k_Or1, ii, h1, h2, decide_true]
  rfl
theorem kinds_ok (hn : 1 ≤ n) (hn2 : n ≤ 200) (hm : 1 ≤ m) (hm2 : m ≤ 1000) : F_ring_kinds [.int n, .int m] [] = .ok (.int (((kindS n m / (n * m) : Nat) : Int) - 1)) [] := by
  have ei : initE 5 [D.int (n : Nat), .int (m : Nat)] = [some (.int (n : Nat)), some (.int (m : Nat)), none, none, none] := rfl
  have kr : ∀ h : AH, kR2 [.int 1, .int ((n : Int) + 1)] h = .ok (.items ((List.range n).map mk1)) h := fun h => by rw [k_R2 (by decide) (by decide) (by omega) (by omega), rng_1]
  have b1 := betw_c (v := (n : Int)) (a := 1) (b := 200) (by omega) (by omega)
  have b2 := betw_c (v := (m : Int)) (a := 1) (b := 1000) (by omega) (by omega)
  obtain ⟨env', h', e, x3, x4, rfl, rfl⟩ := for_fold (g := mgName 3) (p := b_ring_kinds_1) mk1 (fun A i => A + Nat.gcd (n / Nat.gcd n (i + 1)) m * m ^ (Nat.gcd n (i + 1)))
    (fun A env h => ∃ x3 x4, env = [some (.int (n : Nat)), some (.int (m : Nat)), some (.int ((A : Nat) : Int)), x3, x4] ∧ h = []) (xs := List.range n) (s := 0) (env := [some (.int (n : Nat)), some (.int (m : Nat)), some (.int 0), none, none]) (h := []) ⟨_, _, rfl, rfl⟩ (by
      rintro i hi A env h ⟨x3, x4, rfl, rfl⟩
      have hi2 := List.mem_range.mp hi
      have c1 := divisor_c (a := n) (b := i + 1) (by omega)
      have g0 : 0 < Nat.gcd n (i + 1) := Nat.gcd_pos_of_pos_left _ (by omega)
      have g1 : Nat.gcd n (i + 1) ≤ n := Nat.le_of_dvd (by omega) (Nat.gcd_dvd_left _ _)
      have d1 := div_nat (x := n) (y := Nat.gcd n (i + 1)) g0 (by omega)
      have c2 := divisor_c (a := n / Nat.gcd n (i + 1)) (b := m) hm2
      have c3 := power_c (m := m) (r := Nat.gcd n (i + 1)) hm2 (by omega)
      have g2 : Nat.gcd (n / Nat.gcd n (i + 1)) m ≤ m := Nat.le_of_dvd (by omega) (Nat.gcd_dvd_right _ _)
      have m1 := mul_L (x := Nat.gcd (n / Nat.gcd n (i + 1)) m) (y := m ^ (Nat.gcd n (i + 1))) (by omega)
      have ea : ((A : Int) + ((Nat.gcd (n / Nat.gcd n (i + 1)) m * m ^ (Nat.gcd n (i + 1)) : Nat) : Int)) = ((A + Nat.gcd (n / Nat.gcd n (i + 1)) m * m ^ (Nat.gcd n (i + 1)) : Nat) : Int) := (Int.natCast_add _ _).symm
      refine ⟨_, _, [some (.int (n : Nat)), some (.int (m : Nat)), some (.int ((A + Nat.gcd (n / Nat.gcd n (i + 1)) m * m ^ (Nat.gcd n (i + 1)) : Nat) : Int)), some (.int ((i + 1 : Nat) : Int)), some (.int ((Nat.gcd n (i + 1) : Nat) : Int))], [], rfl, ?_, _, _, rfl, rfl⟩
      rw [mk1_eq i]
      unfold b_ring_kinds_1
      simp only [b_ok, b_bad, t_ok, t_bad, e_C, e_V0, e_V1, e_V2, e_V3, e_V4, e_V5, e_V6, e_V7, e_V8, e_V9, e_V10, k_Q, k_Bl, k_TruB, k_TruI, k_TruN, k_NotT, k_AndT1, k_AndT0, k_OrT1, k_OrT0, k_And1, k_And0, k_Or1, k_Or0, k_Not, k_If1, k_If0, k_Cons, k_Tup, k_Lst, k_Frz, k_Own, k_Call, k_CallK, k_Chain1, k_Chain0, k_Chain2, e_Chain, e_Bin, e_BinF, e_Un, e_Bl, e_Tru, e_NotT, e_AndT, e_OrT, e_And, e_Or, e_Not, e_If, e_Nil, e_Cons, e_Tup, e_Lst, e_Frz, e_Own, e_CB, e_CBF, e_Call, e_CallP, k_CallKP, e_CallKP, e_CallK, go_nx, go_rt, go_bk, go_ct, e_Next, e_Seq, k_Drop, e_Drop, k_Ret, e_Ret, k_IfS1, k_IfS0, e_IfS, g_Name, g_Nil, g_Cons, g_Tup, k_Nx, k_Asg, e_Asg, k_Par, e_Par, k_Par3, e_Par3, k_Aug2, k_Aug, e_Aug, k_SeqL, k_SeqS, k_SeqT, i_Seq, k_R1, i_R1, k_R2, i_R2, k_For, e_For, k_Turn, k_Lc, e_Lc, k_Wh1, k_Wh0, r_nx, r_rt, x_ok, x_same, k_RevT, e_RevT, k_RevL, e_RevL, k_Rg1, e_Rg1, k_Rg2, e_Rg2, e_LstRg, e_TupRg, k_EnumT, k_EnumL, e_Enum, k_UL, k_US, k_UT, i_U, e_Disp, e_DNew, k_StarT, e_Star, e_NoPart, k_Part, e_Part, k_SlUT, k_SlUL, k_Sl1, e_SlU, k_SlLL, k_SlLS, e_SlL, k_Split, e_Split, k_Join2, k_Join, e_Join, e_Meth0, g_Seq2T, g_Seq2L, g_Seq3L, g_Seq3T, e_SubU, e_Fld, e_MakeS, k_Cm2, e_Cm2, k_DicF, e_DicF, e_SortS, e_Meth, e_V11, e_V12, e_V13, e_V14, e_V15, e_V16, e_V17, e_V18, e_V19, e_V20, e_V21, e_V22, e_V23, e_V24, e_V25, e_V26, e_V27, e_V28, e_V29, e_V30, k_L0, k_L1, k_L2, k_L3, k_L4, k_L5, k_L6, k_L7, k_L8, k_T0, k_T1, k_T2, k_T3, k_T4, k_T5, k_T6, k_T7, k_T8, lp_nx, lp_ct, u_add, u_int, o_sub, o_cmp, o_neg, o_isN0, o_isN1, o_isI0, o_isI1, p_1_0, p_2_01, p_2_10, p_3_012, p_3_021, p_3_102, p_3_120, p_3_201, p_3_210, List.set_cons_succ, List.set_cons_zero, wipe_cons, wipe_nil, tupl_L, x_ok, k_And0, k_And1, k_Or0, k_Or1, u_mul, c1, d1, c2, c3, m1, ea])
  have e' : forItems (mgName 3) b_ring_kinds_1 ((List.range n).map mk1) [some (.int (n : Nat)), some (.int (m : Nat)), some (.int 0), none, none] [] = .nx [some (.int (n : Nat)), some (.int (m : Nat)), some (.int ((kindS n m : Nat) : Int)), x3, x4] [] := e
  have nm : 0 < n * m := Nat.mul_pos (by omega) (by omega)
  have nm2 : n * m ≤ 200 * 1000 := Nat.mul_le_mul hn2 hm2
  have m3 := mul_L (x := n) (y := m) (by omega)
  have d3 := div_nat (x := kindS n m) (y := n * m) nm (by omega)
  simp only [F_ring_kinds, m_ring_kinds, f_T, ei, b_ok, b_bad, t_ok, t_bad, e_C, e_V0, e_V1, e_V2, e_V3, e_V4, e_V5, e_V6, e_V7, e_V8, e_V9, e_V10, k_Q, k_Bl, k_TruB, k_TruI, k_TruN, k_NotT, k_AndT1, k_AndT0, k_OrT1, k_OrT0, k_And1, k_And0, k_Or1, k_Or0, k_Not, k_If1, k_If0, k_Cons, k_Tup, k_Lst, k_Frz, k_Own, k_Call, k_CallK, k_Chain1, k_Chain0, k_Chain2, e_Chain, e_Bin, e_BinF, e_Un, e_Bl, e_Tru, e_NotT, e_AndT, e_OrT, e_And, e_Or, e_Not, e_If, e_Nil, e_Cons, e_Tup, e_Lst, e_Frz, e_Own, e_CB, e_CBF, e_Call, e_CallP, k_CallKP, e_CallKP, e_CallK, go_nx, go_rt, go_bk, go_ct, e_Next, e_Seq, k_Drop, e_Drop, k_Ret, e_Ret, k_IfS1, k_IfS0, e_IfS, g_Name, g_Nil, g_Cons, g_Tup, k_Nx, k_Asg, e_Asg, k_Par, e_Par, k_Par3, e_Par3, k_Aug2, k_Aug, e_Aug, k_SeqL, k_SeqS, k_SeqT, i_Seq, k_R1, i_R1, k_R2, i_R2, k_For, e_For, k_Turn, k_Lc, e_Lc, k_Wh1, k_Wh0, r_nx, r_rt, x_ok, x_same, k_RevT, e_RevT, k_RevL, e_RevL, k_Rg1, e_Rg1, k_Rg2, e_Rg2, e_LstRg, e_TupRg, k_EnumT, k_EnumL, e_Enum, k_UL, k_US, k_UT, i_U, e_Disp, e_DNew, k_StarT, e_Star, e_NoPart, k_Part, e_Part, k_SlUT, k_SlUL, k_Sl1, e_SlU, k_SlLL, k_SlLS, e_SlL, k_Split, e_Split, k_Join2, k_Join, e_Join, e_Meth0, g_Seq2T, g_Seq2L, g_Seq3L, g_Seq3T, e_SubU, e_Fld, e_MakeS, k_Cm2, e_Cm2, k_DicF, e_DicF, e_SortS, e_Meth, e_V11, e_V12, e_V13, e_V14, e_V15, e_V16, e_V17, e_V18, e_V19, e_V20, e_V21, e_V22, e_V23, e_V24, e_V25, e_V26, e_V27, e_V28, e_V29, e_V30, k_L0, k_L1, k_L2, k_L3, k_L4, k_L5, k_L6, k_L7, k_L8, k_T0, k_T1, k_T2, k_T3, k_T4, k_T5, k_T6, k_T7, k_T8, lp_nx, lp_ct, u_add, u_int, o_sub, o_cmp, o_neg, o_isN0, o_isN1, o_isI0, o_isI1, p_1_0, p_2_01, p_2_10, p_3_012, p_3_021, p_3_102, p_3_120, p_3_201, p_3_210, List.set_cons_succ, List.set_cons_zero, wipe_cons, wipe_nil, tupl_L, x_ok, k_And0, k_And1, k_Or0, k_Or1, u_mul, b1, b2, Bool.not_true, kr, e', m3, d3]
  exact x_cut (by simp)
theorem kinds_c (hn : 1 ≤ n) (hn2 : n ≤ 200) (hm : 1 ≤ m) (hm2 : m ≤ 1000) : ∀ h, callP 2 F_ring_kinds [.int n, .int m] h = .ok (.int (((kindS n m / (n * m) : Nat) : Int) - 1)) h := fun h => c_P (kinds_ok hn hn2 hm hm2) rfl (by simp [belowL]) (by simp)
/-! both sums are one -/
def stepsL (n : Nat) : List Nat := (List.range n).map fun i => Nat.gcd n (i + 1)
def okB (n : Nat) : Bool := (divs n).all fun i => (stepsL n).count (n / (i + 1)) == phi (i + 1)
theorem ok_1 : ((List.range' 1 100).all okB) = true := by kernel_rfl
theorem ok_2 : ((List.range' 101 50).all okB) = true := by kernel_rfl
theorem ok_3 : ((List.range' 151 50).all okB) = true := by kernel_rfl
theorem ok_n (hn : 1 ≤ n) (hn2 : n ≤ 200) : ∀ i ∈ divs n, (stepsL n).count (n / (i + 1)) = phi (i + 1) := fun i hi => by
  have o : okB n = true := by
    by_cases q : n ≤ 100
    · exact List.all_eq_true.mp ok_1 n (List.mem_range'_1.mpr (by omega))
    · by_cases q2 : n ≤ 150
      · exact List.all_eq_true.mp ok_2 n (List.mem_range'_1.mpr (by omega))
      · exact List.all_eq_true.mp ok_3 n (List.mem_range'_1.mpr (by omega))
  exact eq_of_beq (List.all_eq_true.mp o i hi)
theorem pick (f : Nat → Nat) {x : Nat} : ∀ {ds : List Nat}, ds.Nodup → x ∈ ds → (ds.map fun d => (if x = d then 1 else 0) * f d).sum = f x
  | [], _, h => absurd h List.not_mem_nil
  | d :: ds, nd, h => by
    rw [List.nodup_cons] at nd
    rw [List.map_cons, List.sum_cons]
    by_cases q : x = d
    · subst q
      have z : ∀ {l : List Nat}, x ∉ l → (l.map fun d => (if x = d then 1 else 0) * f d).sum = 0 := fun {l} => by
        induction l with
        | nil => intro _; rfl
        | cons a l ih =>
          intro hn
          rw [List.map_cons, List.sum_cons, ih fun z => hn (List.mem_cons_of_mem _ z), if_neg (show ¬ x = a from fun z => hn (by rw [z]; exact List.mem_cons_self))]
          simp
      rw [z nd.1, if_pos rfl]; simp
    · rw [if_neg q, pick f nd.2 ((List.mem_cons.mp h).resolve_left q)]; simp
theorem group (f : Nat → Nat) {ds : List Nat} (nd : ds.Nodup) : ∀ {xs : List Nat}, (∀ x ∈ xs, x ∈ ds) → (xs.map f).sum = (ds.map fun d => xs.count d * f d).sum
  | [], _ => by
    have : ∀ l : List Nat, (l.map fun d => ([] : List Nat).count d * f d).sum = 0 := fun l => by
      induction l with
      | nil => rfl
      | cons a l ih => rw [List.map_cons, List.sum_cons, ih]; simp
    rw [this]; rfl
  | x :: xs, h => by
    have ih := group f nd (xs := xs) fun y hy => h y (List.mem_cons_of_mem _ hy)
    have p := pick f nd (h x List.mem_cons_self)
    rw [List.map_cons, List.sum_cons, ih, ← p]
    have : ∀ l : List Nat, (l.map fun d => (if x = d then 1 else 0) * f d).sum + (l.map fun d => xs.count d * f d).sum = (l.map fun d => (x :: xs).count d * f d).sum := fun l => by
      induction l with
      | nil => rfl
      | cons a l ih2 =>
        simp only [List.map_cons, List.sum_cons]
        rw [← ih2, List.count_cons]
        by_cases q : x = a
        · subst q; simp [Nat.add_mul]; omega
        · have : (x == a) = false := by simpa using q
          rw [this, if_neg q]; simp; omega
    exact this ds
theorem fold_add {α : Type} (f : α → Nat) : ∀ (l : List α) (A : Nat), l.foldl (fun A i => A + f i) A = A + (l.map f).sum
  | [], A => by simp
  | x :: l, A => by rw [List.foldl_cons, fold_add f l, List.map_cons, List.sum_cons]; omega
theorem kind_sum : kindS n m = ((stepsL n).map fun r => Nat.gcd (n / r) m * m ^ r).sum := by
  unfold kindS stepsL
  rw [fold_add (fun i => Nat.gcd (n / Nat.gcd n (i + 1)) m * m ^ (Nat.gcd n (i + 1))), List.map_map, Nat.zero_add]
  rfl
theorem div_div {i : Nat} (hn : 1 ≤ n) (hi : i ∈ divs n) : n / (n / (i + 1)) = i + 1 := by
  have dv : (i + 1) ∣ n := Nat.dvd_of_mod_eq_zero (of_decide_eq_true (List.mem_filter.mp hi).2)
  obtain ⟨q, rfl⟩ := dv
  have q0 : 0 < q := Nat.pos_of_ne_zero fun z => by rw [z, Nat.mul_zero] at hn; omega
  rw [Nat.mul_div_cancel_left _ (by omega), Nat.mul_div_cancel _ q0]
theorem sums (hn : 1 ≤ n) (hn2 : n ≤ 200) : meanS n m = kindS n m := by
  have nd : ((divs n).map fun i => n / (i + 1)).Nodup := by
    have : ∀ l : List Nat, l.Nodup → (∀ i ∈ l, i ∈ divs n) → (l.map fun i => n / (i + 1)).Nodup := fun l => by
      induction l with
      | nil => intro _ _; exact List.nodup_nil
      | cons a l ih =>
        intro h1 h2
        rw [List.nodup_cons] at h1
        rw [List.map_cons, List.nodup_cons]
        refine ⟨fun z => ?_, ih h1.2 fun i hi => h2 i (List.mem_cons_of_mem _ hi)⟩
        obtain ⟨b, hb, e⟩ := List.mem_map.mp z
        have e1 := div_div hn (h2 a List.mem_cons_self)
        have e2 := div_div hn (h2 b (List.mem_cons_of_mem _ hb))
        rw [← e, e2] at e1
        have : a = b := by omega
        exact h1.1 (this ▸ hb)
    exact this _ (List.nodup_range.sublist List.filter_sublist) fun i hi => hi
  have sub : ∀ x ∈ stepsL n, x ∈ (divs n).map fun i => n / (i + 1) := fun x hx => by
    obtain ⟨i, hi, rfl⟩ := List.mem_map.mp hx
    obtain ⟨q, e⟩ := Nat.gcd_dvd_left n (i + 1)
    have g0 : 0 < Nat.gcd n (i + 1) := Nat.gcd_pos_of_pos_left _ (by omega)
    have q0 : 0 < q := Nat.pos_of_ne_zero fun z => by rw [z, Nat.mul_zero] at e; omega
    have qn : q ≤ n := Nat.le_of_dvd (by omega) ⟨Nat.gcd n (i + 1), by rw [Nat.mul_comm]; exact e⟩
    refine List.mem_map.mpr ⟨q - 1, List.mem_filter.mpr ⟨List.mem_range.mpr (by omega), ?_⟩, ?_⟩
    · have : q - 1 + 1 = q := by omega
      rw [this]
      exact decide_eq_true (Nat.mod_eq_zero_of_dvd ⟨Nat.gcd n (i + 1), by rw [Nat.mul_comm]; exact e⟩)
    · have : q - 1 + 1 = q := by omega
      rw [this]
      generalize Nat.gcd n (i + 1) = g at *
      rw [e, Nat.mul_div_cancel _ q0]
  rw [kind_sum, group (fun r => Nat.gcd (n / r) m * m ^ r) nd sub, List.map_map]
  unfold meanS
  rw [fold_add (fun i => phi (i + 1) * Nat.gcd (i + 1) m * m ^ (n / (i + 1))), Nat.zero_add]
  congr 1
  refine List.map_congr_left fun i hi => ?_
  show _ = (stepsL n).count (n / (i + 1)) * (Nat.gcd (n / (n / (i + 1))) m * m ^ (n / (i + 1)))
  rw [ok_n hn hn2 i hi, div_div hn hi, Nat.mul_assoc]
end
end K69

/-! Rows of marks, counted one by one. -/
namespace K69
open PySem PySem.Spec L2 Ab
open Pl (IsS allP)
section
variable {h : AH} {n m : Nat}
theorem pow_le {k : Nat} (hm : 0 < m) (hk : k ≤ n) (h : m ^ n ≤ 1300) : m ^ k ≤ 1300 := Nat.le_trans (Nat.pow_le_pow_right hm hk) h
theorem all_ok (hm : 0 < m) (hm9 : m ≤ 30) (hn : n ≤ 10) (hp : m ^ n ≤ 1300) : F__law_all [.int n, .int m] [] = .ok (.lst ((allP m n).map tupI)) [] := by
  obtain ⟨env', h', e, x3, x4, x5, rfl, rfl⟩ := for_ix (g := mgName 3) (p := b__law_all_1)
    (fun i env h => ∃ x3 x4 x5, env = [some (.int n), some (.int m), some (.lst ((allP m i).map tupI)), x3, x4, x5, none] ∧ h = []) (ds := rngD 0 n) (i := 0) (env := [some (.int n), some (.int m), some (.lst [.tup []]), none, none, none, none]) (h := []) ⟨_, _, _, rfl, rfl⟩ (by
      rintro j d env h ed ⟨x3, x4, x5, rfl, rfl⟩
      obtain ⟨rfl, hj⟩ := rngD_get ed
      have hb := pow_le (k := 0 + j + 1) hm (by omega) hp
      have kr : ∀ h : AH, kR1 [.int (m : Int)] h = .ok (.items ((Pl.rngI m).map D.int)) h := fun h => by rw [k_R1 (by omega) (by omega), rngD_I]
      have hs : ((Pl.rngI m).map D.int).length ≤ sizeLine := small_line (by simp; omega)
      have inner : ∀ (xs : List (List Int)) (acc : List (List Int)) (x5 : Option D), (∀ s ∈ xs, s.length ≤ 10) → acc.length + xs.length * m ≤ 1300 → ∃ y5, forItems (mgName 5) (mAsg (mFrz (mBinF catD (mVar 4) (mFrz (mLc (miRng1 (mCons (mVar 1) mNil)) (mgName 6) (fun _ h => .ok true h) (mBin addUD (mVar 5) (mTup (mCons (mVar 6) mNil))) [6])))) (mgName 4)) (xs.map tupI) [some (.int n), some (.int m), some (.lst ((allP m (0 + j)).map tupI)), some (.int ((0 : Int) + (j : Nat))), some (.lst (acc.map tupI)), x5, none] [] =
          .nx [some (.int n), some (.int m), some (.lst ((allP m (0 + j)).map tupI)), some (.int ((0 : Int) + (j : Nat))), some (.lst ((xs.foldl (fun a s => a ++ (Pl.rngI m).map fun i => s ++ [i]) acc).map tupI)), y5, none] [] := by
        intro xs
        induction xs with
        | nil => intro acc x5 _ _; exact ⟨x5, rfl⟩
        | cons s xs ih =>
          intro acc x5 h5 hl
          have s5 := h5 s (List.mem_cons_self ..)
          simp only [List.length_cons, Nat.succ_mul] at hl
          have lc : ∀ h : AH, lcItems (mgName 6) (fun _ h => .ok true h) (mBin addUD (mVar 5) (mTup (mCons (mVar 6) mNil))) [some (.int n), some (.int m), some (.lst ((allP m (0 + j)).map tupI)), some (.int ((0 : Int) + (j : Nat))), some (.lst (acc.map tupI)), some (tupI s), none] ((Pl.rngI m).map D.int) h = .ok (((Pl.rngI m).map fun i => s ++ [i]).map tupI) h := fun h =>
            lc_mapG D.int (fun i => s ++ [i]) tupI fun i _ => ⟨_, rfl, by
              have kt : kTup [D.int i] h = .ok (.tup [.int i]) h := k_Tup (by simp)
              have au : addUD (tupI s) (.tup [.int i]) h = .ok (.tup (s.map D.int ++ [.int i])) h := Tb.u_addT (by simp; omega)
              simp only [List.set_cons_succ, List.set_cons_zero, e_Bin, e_V5, b_ok, k_Q, e_Tup, e_Cons, e_V6, e_Nil, k_Cons, kt, au]
              simp [tupI]⟩
          have ct : ∀ h : AH, catD (.lst (acc.map tupI)) (.lst (((Pl.rngI m).map fun i => s ++ [i]).map tupI)) h = .ok ((acc ++ (Pl.rngI m).map fun i => s ++ [i]).map tupI) h := fun h => by
            rw [o_cat, if_pos (small_line (by simp only [List.length_map, List.length_range]; omega)), List.map_append]
          obtain ⟨y5, e⟩ := ih (acc ++ (Pl.rngI m).map fun i => s ++ [i]) (some (tupI s)) (fun q hq => h5 q (List.mem_cons_of_mem _ hq)) (by simp only [List.length_append, List.length_map, List.length_range]; omega)
          refine ⟨y5, ?_⟩
          rw [List.map_cons, for_cons, List.foldl_cons]
          simp only [b_ok, b_bad, t_ok, t_bad, e_C, e_V0, e_V1, e_V2, e_V3, e_V4, e_V5, e_V6, e_V7, e_V8, e_V9, e_V10, k_Q, k_Bl, k_TruB, k_TruI, k_TruN, k_NotT, k_AndT1, k_AndT0, k_OrT1, k_OrT0, k_And1, k_And0, k_Or1, k_Or0, k_Not, k_If1, k_If0, k_Cons, k_Tup, k_Lst, k_Frz, k_Own, k_Call, k_CallK, k_Chain1, k_Chain0, k_Chain2, e_Chain, e_Bin, e_BinF, e_Un, e_Bl, e_Tru, e_NotT, e_AndT, e_OrT, e_And, e_Or, e_Not, e_If, e_Nil, e_Cons, e_Tup, e_Lst, e_Frz, e_Own, e_CB, e_CBF, e_Call, e_CallP, k_CallKP, e_CallKP, e_CallK, go_nx, go_rt, go_bk, go_ct, e_Next, e_Seq, k_Drop, e_Drop, k_Ret, e_Ret, k_IfS1, k_IfS0, e_IfS, g_Name, g_Nil, g_Cons, g_Tup, k_Nx, k_Asg, e_Asg, k_Par, e_Par, k_Par3, e_Par3, k_Aug2, k_Aug, e_Aug, k_SeqL, k_SeqS, k_SeqT, i_Seq, k_R1, i_R1, k_R2, i_R2, k_For, e_For, k_Turn, k_Lc, e_Lc, k_Wh1, k_Wh0, r_nx, r_rt, x_ok, x_same, k_RevT, e_RevT, k_RevL, e_RevL, k_Rg1, e_Rg1, k_Rg2, e_Rg2, e_LstRg, e_TupRg, k_EnumT, k_EnumL, e_Enum, k_UL, k_US, k_UT, i_U, e_Disp, e_DNew, k_StarT, e_Star, e_NoPart, k_Part, e_Part, k_SlUT, k_SlUL, k_Sl1, e_SlU, k_SlLL, k_SlLS, e_SlL, k_Split, e_Split, k_Join2, k_Join, e_Join, e_Meth0, g_Seq2T, g_Seq2L, g_Seq3L, g_Seq3T, e_SubU, e_Fld, e_MakeS, k_Cm2, e_Cm2, k_DicF, e_DicF, e_SortS, e_Meth, e_V11, e_V12, e_V13, e_V14, e_V15, e_V16, e_V17, e_V18, e_V19, e_V20, e_V21, e_V22, e_V23, e_V24, e_V25, e_V26, e_V27, e_V28, e_V29, e_V30, k_L0, k_L1, k_L2, k_L3, k_L4, k_L5, k_L6, k_L7, k_L8, k_T0, k_T1, k_T2, k_T3, k_T4, k_T5, k_T6, k_T7, k_T8, lp_nx, lp_ct, u_add, u_int, o_sub, o_cmp, o_neg, o_isN0, o_isN1, o_isI0, o_isI1, p_1_0, p_2_01, p_2_10, p_3_012, p_3_021, p_3_102, p_3_120, p_3_201, p_3_210, List.set_cons_succ, List.set_cons_zero, wipe_cons, wipe_nil, tupl_L, x_ok, k_And0, k_And1, k_Or0, k_Or1, kr, k_Lc hs, lc, ct, e]
      have len5 : ∀ s ∈ allP m (0 + j), s.length ≤ 10 := fun s hs => by rw [(Pl.mem_allP.mp hs).len]; omega
      have bb : ([] : List (List Int)).length + (allP m (0 + j)).length * m ≤ 1300 := by
        rw [Tb.allP_len, List.length_nil, Nat.zero_add, ← Nat.pow_succ]; exact hb
      obtain ⟨y5, e⟩ := inner (allP m (0 + j)) [] x5 len5 bb
      rw [Tb.fold_flat, List.nil_append] at e
      refine ⟨_, _, [some (.int n), some (.int m), some (.lst ((allP m (0 + j + 1)).map tupI)), some (.int ((0 : Int) + (j : Nat))), some (.lst ((allP m (0 + j + 1)).map tupI)), y5, none], [], rfl, ?_, _, _, _, rfl, rfl⟩
      have k0 : kLst ([] : List D) ([] : AH) = .ok [] [] := k_Lst (by simp)
      unfold b__law_all_1
      have e' : forItems (mgName 5) (mAsg (mFrz (mBinF catD (mVar 4) (mFrz (mLc (miRng1 (mCons (mVar 1) mNil)) (mgName 6) (fun _ h => .ok true h) (mBin addUD (mVar 5) (mTup (mCons (mVar 6) mNil))) [6])))) (mgName 4)) ((allP m (0 + j)).map tupI) [some (.int n), some (.int m), some (.lst ((allP m (0 + j)).map tupI)), some (.int ((0 : Int) + (j : Nat))), some (.lst []), x5, none] [] = .nx [some (.int n), some (.int m), some (.lst ((allP m (0 + j)).map tupI)), some (.int ((0 : Int) + (j : Nat))), some (.lst ((allP m (0 + j + 1)).map tupI)), y5, none] [] := e
      simp only [b_ok, b_bad, t_ok, t_bad, e_C, e_V0, e_V1, e_V2, e_V3, e_V4, e_V5, e_V6, e_V7, e_V8, e_V9, e_V10, k_Q, k_Bl, k_TruB, k_TruI, k_TruN, k_NotT, k_AndT1, k_AndT0, k_OrT1, k_OrT0, k_And1, k_And0, k_Or1, k_Or0, k_Not, k_If1, k_If0, k_Cons, k_Tup, k_Lst, k_Frz, k_Own, k_Call, k_CallK, k_Chain1, k_Chain0, k_Chain2, e_Chain, e_Bin, e_BinF, e_Un, e_Bl, e_Tru, e_NotT, e_AndT, e_OrT, e_And, e_Or, e_Not, e_If, e_Nil, e_Cons, e_Tup, e_Lst, e_Frz, e_Own, e_CB, e_CBF, e_Call, e_CallP, k_CallKP, e_CallKP, e_CallK, go_nx, go_rt, go_bk, go_ct, e_Next, e_Seq, k_Drop, e_Drop, k_Ret, e_Ret, k_IfS1, k_IfS0, e_IfS, g_Name, g_Nil, g_Cons, g_Tup, k_Nx, k_Asg, e_Asg, k_Par, e_Par, k_Par3, e_Par3, k_Aug2, k_Aug, e_Aug, k_SeqL, k_SeqS, k_SeqT, i_Seq, k_R1, i_R1, k_R2, i_R2, k_For, e_For, k_Turn, k_Lc, e_Lc, k_Wh1, k_Wh0, r_nx, r_rt, x_ok, x_same, k_RevT, e_RevT, k_RevL, e_RevL, k_Rg1, e_Rg1, k_Rg2, e_Rg2, e_LstRg, e_TupRg, k_EnumT, k_EnumL, e_Enum, k_UL, k_US, k_UT, i_U, e_Disp, e_DNew, k_StarT, e_Star, e_NoPart, k_Part, e_Part, k_SlUT, k_SlUL, k_Sl1, e_SlU, k_SlLL, k_SlLS, e_SlL, k_Split, e_Split, k_Join2, k_Join, e_Join, e_Meth0, g_Seq2T, g_Seq2L, g_Seq3L, g_Seq3T, e_SubU, e_Fld, e_MakeS, k_Cm2, e_Cm2, k_DicF, e_DicF, e_SortS, e_Meth, e_V11, e_V12, e_V13, e_V14, e_V15, e_V16, e_V17, e_V18, e_V19, e_V20, e_V21, e_V22, e_V23, e_V24, e_V25, e_V26, e_V27, e_V28, e_V29, e_V30, k_L0, k_L1, k_L2, k_L3, k_L4, k_L5, k_L6, k_L7, k_L8, k_T0, k_T1, k_T2, k_T3, k_T4, k_T5, k_T6, k_T7, k_T8, lp_nx, lp_ct, u_add, u_int, o_sub, o_cmp, o_neg, o_isN0, o_isN1, o_isI0, o_isI1, p_1_0, p_2_01, p_2_10, p_3_012, p_3_021, p_3_102, p_3_120, p_3_201, p_3_210, List.set_cons_succ, List.set_cons_zero, wipe_cons, wipe_nil, tupl_L, x_ok, k_And0, k_And1, k_Or0, k_Or1, k0, k_UL, e'])
  rw [rngD_len] at e
  have el : (0 + ((n : Int) - 0).toNat) = n := by omega
  rw [el] at e
  have kr : ∀ h : AH, kR1 [.int (n : Int)] h = .ok (.items (rngD 0 n)) h := fun h => k_R1 (by omega) (by omega)
  have k0 : kTup ([] : List D) ([] : AH) = .ok (.tup []) [] := k_Tup (by simp)
  have k1 : kLst [D.tup []] ([] : AH) = .ok [.tup []] [] := k_Lst (by simp)
  have ei : initE 7 [D.int (n : Int), .int m] = [some (.int n), some (.int m), none, none, none, none, none] := rfl
  simp only [F__law_all, m__law_all, f_T, ei, b_ok, b_bad, t_ok, t_bad, e_C, e_V0, e_V1, e_V2, e_V3, e_V4, e_V5, e_V6, e_V7, e_V8, e_V9, e_V10, k_Q, k_Bl, k_TruB, k_TruI, k_TruN, k_NotT, k_AndT1, k_AndT0, k_OrT1, k_OrT0, k_And1, k_And0, k_Or1, k_Or0, k_Not, k_If1, k_If0, k_Cons, k_Tup, k_Lst, k_Frz, k_Own, k_Call, k_CallK, k_Chain1, k_Chain0, k_Chain2, e_Chain, e_Bin, e_BinF, e_Un, e_Bl, e_Tru, e_NotT, e_AndT, e_OrT, e_And, e_Or, e_Not, e_If, e_Nil, e_Cons, e_Tup, e_Lst, e_Frz, e_Own, e_CB, e_CBF, e_Call, e_CallP, k_CallKP, e_CallKP, e_CallK, go_nx, go_rt, go_bk, go_ct, e_Next, e_Seq, k_Drop, e_Drop, k_Ret, e_Ret, k_IfS1, k_IfS0, e_IfS, g_Name, g_Nil, g_Cons, g_Tup, k_Nx, k_Asg, e_Asg, k_Par, e_Par, k_Par3, e_Par3, k_Aug2, k_Aug, e_Aug, k_SeqL, k_SeqS, k_SeqT, i_Seq, k_R1, i_R1, k_R2, i_R2, k_For, e_For, k_Turn, k_Lc, e_Lc, k_Wh1, k_Wh0, r_nx, r_rt, x_ok, x_same, k_RevT, e_RevT, k_RevL, e_RevL, k_Rg1, e_Rg1, k_Rg2, e_Rg2, e_LstRg, e_TupRg, k_EnumT, k_EnumL, e_Enum, k_UL, k_US, k_UT, i_U, e_Disp, e_DNew, k_StarT, e_Star, e_NoPart, k_Part, e_Part, k_SlUT, k_SlUL, k_Sl1, e_SlU, k_SlLL, k_SlLS, e_SlL, k_Split, e_Split, k_Join2, k_Join, e_Join, e_Meth0, g_Seq2T, g_Seq2L, g_Seq3L, g_Seq3T, e_SubU, e_Fld, e_MakeS, k_Cm2, e_Cm2, k_DicF, e_DicF, e_SortS, e_Meth, e_V11, e_V12, e_V13, e_V14, e_V15, e_V16, e_V17, e_V18, e_V19, e_V20, e_V21, e_V22, e_V23, e_V24, e_V25, e_V26, e_V27, e_V28, e_V29, e_V30, k_L0, k_L1, k_L2, k_L3, k_L4, k_L5, k_L6, k_L7, k_L8, k_T0, k_T1, k_T2, k_T3, k_T4, k_T5, k_T6, k_T7, k_T8, lp_nx, lp_ct, u_add, u_int, o_sub, o_cmp, o_neg, o_isN0, o_isN1, o_isI0, o_isI1, p_1_0, p_2_01, p_2_10, p_3_012, p_3_021, p_3_102, p_3_120, p_3_201, p_3_210, List.set_cons_succ, List.set_cons_zero, wipe_cons, wipe_nil, tupl_L, x_ok, k_And0, k_And1, k_Or0, k_Or1, k0, k1, kr, e]
  exact x_cut (by simp [below])
/-! the classes -/
def turnR (x : List Int) (k b m : Nat) : List Int := (x.drop k ++ x.take k).map fun a => (a + (b : Int)) % (m : Int)
def clsP (n m : Nat) (x : List Int) : List (List Int) := (List.range n).flatMap fun k => (List.range m).map fun b => turnR x k b m
def putF (F : List (List Int)) (y : List Int) : List (List Int) := if y ∈ F then F else F ++ [y]
def stepC (n m : Nat) (s : Nat × List (List Int)) (x : List Int) : Nat × List (List Int) := if x ∈ s.2 then s else (s.1 + 1, (clsP n m x).foldl putF s.2)
def countP (n m : Nat) : Nat := ((allP m n).foldl (stepC n m) (0, [])).1
theorem turn_is {x : List Int} {k b : Nat} (hm : 0 < m) (hx : IsS n m x) : IsS n m (turnR x k b m) := by
  refine ⟨?_, fun i hi => ?_⟩
  · unfold turnR
    rw [List.length_map, List.length_append, List.length_drop, List.length_take, hx.len]
    omega
  · obtain ⟨a, _, rfl⟩ := List.mem_map.mp hi
    exact ⟨Int.emod_nonneg _ (by omega), Int.emod_lt_of_pos _ (by omega)⟩
structure Ok (n m : Nat) (F : List (List Int)) : Prop where
  nod : F.Nodup
  is : ∀ x ∈ F, IsS n m x
theorem Ok.put {F : List (List Int)} {y : List Int} (o : Ok n m F) (hy : IsS n m y) : Ok n m (putF F y) := by
  unfold putF
  split
  · exact o
  · rename_i q
    refine ⟨?_, fun x hx => ?_⟩
    · rw [List.nodup_append]
      exact ⟨o.nod, by simp, fun a ha b hb => by rw [List.mem_singleton.mp hb]; rintro rfl; exact q ha⟩
    · rcases List.mem_append.mp hx with hx | hx
      · exact o.is x hx
      · rw [List.mem_singleton.mp hx]; exact hy
theorem Ok.puts {F : List (List Int)} : ∀ {L : List (List Int)} {F : List (List Int)}, Ok n m F → (∀ y ∈ L, IsS n m y) → Ok n m (L.foldl putF F)
  | [], F, o, _ => o
  | y :: L, F, o, hL => (o.put (hL y List.mem_cons_self)).puts (F := F) (fun z hz => hL z (List.mem_cons_of_mem _ hz))
theorem Ok.few {F : List (List Int)} (o : Ok n m F) (hp : m ^ n ≤ 1300) : F.length ≤ 1300 := by
  have := Pl.nodup_le (p := allP m n) o.nod fun x hx => Pl.mem_allP.mpr (o.is x hx)
  rw [Tb.allP_len] at this; omega
theorem cls_is {x : List Int} (hm : 0 < m) (hx : IsS n m x) : ∀ y ∈ clsP n m x, IsS n m y := fun y hy => by
  obtain ⟨k, _, hy⟩ := List.mem_flatMap.mp hy
  obtain ⟨b, _, rfl⟩ := List.mem_map.mp hy
  exact turn_is hm hx
theorem putF_dct {F : List (List Int)} {y : List Int} : fPut (dctK F (.bl true)) (kI y) (.bl true) = dctK (putF F y) (.bl true) := by
  unfold putF
  split
  · rename_i q; exact dctK_put_old q
  · rename_i q; exact dctK_put q
abbrev mkN (i : Nat) : D := .int ((0 : Int) + (i : Nat))
theorem rng_N (z : Nat) : rngD 0 (z : Int) = (List.range z).map mkN := by
  unfold rngD
  have : ((z : Int) - 0).toNat = z := by omega
  rw [this]
theorem cut_from {α : Type} {l : List α} {k : Nat} : Ab.cutL l (some ((0 : Int) + (k : Nat))) none = l.drop k := by
  have a : HT.sIx l.length 0 (some ((0 : Int) + (k : Nat))) = min k l.length := by
    rw [show ((0 : Int) + (k : Nat)) = ((k : Nat) : Int) by omega, HT.sIx_nat]
  have b : HT.sIx l.length l.length none = l.length := rfl
  unfold cutL
  rw [a, b]
  by_cases q : k ≤ l.length
  · rw [Nat.min_eq_left q, List.take_of_length_le (by rw [List.length_drop]; omega)]
  · rw [Nat.min_eq_right (by omega), List.drop_of_length_le (Nat.le_refl _), List.drop_of_length_le (by omega), List.take_nil]
theorem cut_upto {α : Type} {l : List α} {k : Nat} : cutL l none (some ((0 : Int) + (k : Nat))) = l.take k := by
  have a : HT.sIx l.length l.length (some ((0 : Int) + (k : Nat))) = min k l.length := by
    rw [show ((0 : Int) + (k : Nat)) = ((k : Nat) : Int) by omega, HT.sIx_nat]
  have b : HT.sIx l.length 0 none = 0 := rfl
  unfold cutL
  rw [a, b, List.drop_zero, Nat.sub_zero]
  by_cases q : k ≤ l.length
  · rw [Nat.min_eq_left q]
  · rw [Nat.min_eq_right (by omega), List.take_of_length_le (Nat.le_refl _), List.take_of_length_le (by omega)]
theorem flat_fold {α β σ : Type} (f : α → List β) (g : σ → β → σ) : ∀ (l : List α) (s : σ), (l.flatMap f).foldl g s = l.foldl (fun s x => (f x).foldl g s) s
  | [], s => rfl
  | x :: l, s => by rw [List.flatMap_cons, List.foldl_append, flat_fold f g l]; rfl
abbrev byB : MS := mAsg (mC (.bl true)) (mgSubU (mVar 3) (mCB tupleD (mCons (mFrz (mLc (miU (mVar 6)) (mgName 8) (fun _ h => .ok true h) (mBin modD (mCB intUD (mCons (mBin addUD (mVar 8) (mVar 7)) mNil)) (mVar 1)) [8])) mNil)))
theorem counted_ok (hn : 1 ≤ n) (hm : 0 < m) (hm9 : m ≤ 30) (hn10 : n ≤ 10) (hp : m ^ n ≤ 1300) : F__law_counted [.int n, .int m] [] = .ok (.int ((countP n m : Nat) : Int)) [] := by
  have ei : initE 9 [D.int (n : Nat), .int (m : Nat)] = [some (.int (n : Nat)), some (.int (m : Nat)), none, none, none, none, none, none, none] := rfl
  have ca : ∀ h, callP 2 F__law_all [.int n, .int m] h = .ok (.lst ((allP m n).map tupI)) h := fun h => c_P (all_ok hm hm9 hn10 hp) rfl (by simp [belowL]) (by simp [below])
  have krn : ∀ h : AH, kR1 [.int (n : Int)] h = .ok (.items ((List.range n).map mkN)) h := fun h => by rw [k_R1 (by omega) (by omega), rng_N]
  have krm : ∀ h : AH, kR1 [.int (m : Int)] h = .ok (.items ((List.range m).map mkN)) h := fun h => by rw [k_R1 (by omega) (by omega), rng_N]
  let en : Nat → Option D → Option D → Option D → Option D → En := fun c x4 x5 x6 x7 => [some (.int (n : Nat)), some (.int (m : Nat)), some (.int (c : Nat)), some (.loc 0), x4, x5, x6, x7, none]
  have step : ∀ x : List Int, IsS n m x → ∀ (s : Nat × List (List Int)) (x4 x5 x6 x7 : Option D), Ok n m s.2 → ∃ y5 y6 y7, (mIfS (mBl (mBin (inUD true) (mVar 4) (mVar 3))) (mSeq (mAsg (mBin addUD (mVar 2) (mC (.int 1))) (mgName 2)) (mFor (miRng1 (mCons (mVar 0) mNil)) (mgName 5) b__law_counted_1)) mNext) (en s.1 (some (tupI x)) x5 x6 x7) [.dct (dctK s.2 (.bl true))] = .nx (en (stepC n m s x).1 (some (tupI x)) y5 y6 y7) [.dct (dctK (stepC n m s x).2 (.bl true))] ∧ Ok n m (stepC n m s x).2 := by
    rintro x ix ⟨c, F⟩ x4 x5 x6 x7 o
    have ci : inUD true (tupI x) (.loc 0) [.dct (dctK F (.bl true))] = .ok (.bl (!decide (x ∈ F))) [.dct (dctK F (.bl true))] := by
      rw [u_inD (n := 0) rfl keyT_tupI]; simp [dctK_get]
    by_cases q : x ∈ F
    · have e : stepC n m (c, F) x = (c, F) := if_pos q
      rw [e]
      refine ⟨x5, x6, x7, ?_, o⟩
      rw [decide_eq_true q] at ci
      simp only [en, b_ok, b_bad, t_ok, t_bad, e_C, e_V0, e_V1, e_V2, e_V3, e_V4, e_V5, e_V6, e_V7, e_V8, e_V9, e_V10, k_Q, k_Bl, k_TruB, k_TruI, k_TruN, k_NotT, k_AndT1, k_AndT0, k_OrT1, k_OrT0, k_And1, k_And0, k_Or1, k_Or0, k_Not, k_If1, k_If0, k_Cons, k_Tup, k_Lst, k_Frz, k_Own, k_Call, k_CallK, k_Chain1, k_Chain0, k_Chain2, e_Chain, e_Bin, e_BinF, e_Un, e_Bl, e_Tru, e_NotT, e_AndT, e_OrT, e_And, e_Or, e_Not, e_If, e_Nil, e_Cons, e_Tup, e_Lst, e_Frz, e_Own, e_CB, e_CBF, e_Call, e_CallP, k_CallKP, e_CallKP, e_CallK, go_nx, go_rt, go_bk, go_ct, e_Next, e_Seq, k_Drop, e_Drop, k_Ret, e_Ret, k_IfS1, k_IfS0, e_IfS, g_Name, g_Nil, g_Cons, g_Tup, k_Nx, k_Asg, e_Asg, k_Par, e_Par, k_Par3, e_Par3, k_Aug2, k_Aug, e_Aug, k_SeqL, k_SeqS, k_SeqT, i_Seq, k_R1, i_R1, k_R2, i_R2, k_For, e_For, k_Turn, k_Lc, e_Lc, k_Wh1, k_Wh0, r_nx, r_rt, x_ok, x_same, k_RevT, e_RevT, k_RevL, e_RevL, k_Rg1, e_Rg1, k_Rg2, e_Rg2, e_LstRg, e_TupRg, k_EnumT, k_EnumL, e_Enum, k_UL, k_US, k_UT, i_U, e_Disp, e_DNew, k_StarT, e_Star, e_NoPart, k_Part, e_Part, k_SlUT, k_SlUL, k_Sl1, e_SlU, k_SlLL, k_SlLS, e_SlL, k_Split, e_Split, k_Join2, k_Join, e_Join, e_Meth0, g_Seq2T, g_Seq2L, g_Seq3L, g_Seq3T, e_SubU, e_Fld, e_MakeS, k_Cm2, e_Cm2, k_DicF, e_DicF, e_SortS, e_Meth, e_V11, e_V12, e_V13, e_V14, e_V15, e_V16, e_V17, e_V18, e_V19, e_V20, e_V21, e_V22, e_V23, e_V24, e_V25, e_V26, e_V27, e_V28, e_V29, e_V30, k_L0, k_L1, k_L2, k_L3, k_L4, k_L5, k_L6, k_L7, k_L8, k_T0, k_T1, k_T2, k_T3, k_T4, k_T5, k_T6, k_T7, k_T8, lp_nx, lp_ct, u_add, u_int, o_sub, o_cmp, o_neg, o_isN0, o_isN1, o_isI0, o_isI1, p_1_0, p_2_01, p_2_10, p_3_012, p_3_021, p_3_102, p_3_120, p_3_201, p_3_210, List.set_cons_succ, List.set_cons_zero, wipe_cons, wipe_nil, tupl_L, x_ok, k_And0, k_And1, k_Or0, k_Or1, ci, Bool.not_true]
    · have e : stepC n m (c, F) x = (c + 1, (clsP n m x).foldl putF F) := if_neg q
      rw [e]
      rw [decide_eq_false q] at ci
      -- the turns
      obtain ⟨env', h', e1, y5, y6, y7, rfl, rfl, o1⟩ := for_fold (g := mgName 5) (p := b__law_counted_1) mkN (fun F k => ((List.range m).map fun b => turnR x k b m).foldl putF F)
        (fun F env h => ∃ y5 y6 y7, env = en (c + 1) (some (tupI x)) y5 y6 y7 ∧ h = [.dct (dctK F (.bl true))] ∧ Ok n m F) (xs := List.range n) (s := F) (env := en (c + 1) (some (tupI x)) x5 x6 x7) (h := [.dct (dctK F (.bl true))]) ⟨_, _, _, rfl, rfl, o⟩ (by
          rintro k hk F env h ⟨y5, y6, y7, rfl, rfl, o⟩
          have hk2 := List.mem_range.mp hk
          obtain ⟨env', h', e2, z7, rfl, rfl, o2⟩ := for_fold (g := mgName 7) (p := byB) mkN (fun F b => putF F (turnR x k b m))
            (fun F env h => ∃ z7, env = en (c + 1) (some (tupI x)) (some (mkN k)) (some (tupI (x.drop k ++ x.take k))) z7 ∧ h = [.dct (dctK F (.bl true))] ∧ Ok n m F) (xs := List.range m) (s := F) (env := en (c + 1) (some (tupI x)) (some (mkN k)) (some (tupI (x.drop k ++ x.take k))) y7) (h := [.dct (dctK F (.bl true))]) ⟨_, rfl, rfl, o⟩ (by
              rintro b hb F env h ⟨z7, rfl, rfl, o⟩
              have fw := o.few hp
              have lt : (x.drop k ++ x.take k).length ≤ 10 := by rw [List.length_append, List.length_drop, List.length_take, ix.len]; omega
              have us : ∀ h : AH, kU (tupI (x.drop k ++ x.take k)) h = .ok (.items ((x.drop k ++ x.take k).map D.int)) h := fun h => rfl
              have ls : ((x.drop k ++ x.take k).map D.int).length ≤ sizeLine := small_line (by rw [List.length_map]; omega)
              have lc : ∀ h : AH, lcItems (mgName 8) (fun _ h => .ok true h) (mBin modD (mCB intUD (mCons (mBin addUD (mVar 8) (mVar 7)) mNil)) (mVar 1)) (en (c + 1) (some (tupI x)) (some (mkN k)) (some (tupI (x.drop k ++ x.take k))) (some (mkN b))) ((x.drop k ++ x.take k).map D.int) h = .ok ((turnR x k b m).map D.int) h := fun h =>
                lc_mapG D.int (fun a => (a + (b : Int)) % (m : Int)) D.int fun a _ => ⟨_, rfl, by
                  have m1 : ∀ {i : Int} {h : AH}, modD (.int i) (.int (m : Nat)) h = .ok (.int (i % (m : Int))) h := o_mod (by omega)
                  have z : (0 : Int) + (b : Int) = b := by omega
                  simp only [en, mkN, b_ok, b_bad, t_ok, t_bad, e_C, e_V0, e_V1, e_V2, e_V3, e_V4, e_V5, e_V6, e_V7, e_V8, e_V9, e_V10, k_Q, k_Bl, k_TruB, k_TruI, k_TruN, k_NotT, k_AndT1, k_AndT0, k_OrT1, k_OrT0, k_And1, k_And0, k_Or1, k_Or0, k_Not, k_If1, k_If0, k_Cons, k_Tup, k_Lst, k_Frz, k_Own, k_Call, k_CallK, k_Chain1, k_Chain0, k_Chain2, e_Chain, e_Bin, e_BinF, e_Un, e_Bl, e_Tru, e_NotT, e_AndT, e_OrT, e_And, e_Or, e_Not, e_If, e_Nil, e_Cons, e_Tup, e_Lst, e_Frz, e_Own, e_CB, e_CBF, e_Call, e_CallP, k_CallKP, e_CallKP, e_CallK, go_nx, go_rt, go_bk, go_ct, e_Next, e_Seq, k_Drop, e_Drop, k_Ret, e_Ret, k_IfS1, k_IfS0, e_IfS, g_Name, g_Nil, g_Cons, g_Tup, k_Nx, k_Asg, e_Asg, k_Par, e_Par, k_Par3, e_Par3, k_Aug2, k_Aug, e_Aug, k_SeqL, k_SeqS, k_SeqT, i_Seq, k_R1, i_R1, k_R2, i_R2, k_For, e_For, k_Turn, k_Lc, e_Lc, k_Wh1, k_Wh0, r_nx, r_rt, x_ok, x_same, k_RevT, e_RevT, k_RevL, e_RevL, k_Rg1, e_Rg1, k_Rg2, e_Rg2, e_LstRg, e_TupRg, k_EnumT, k_EnumL, e_Enum, k_UL, k_US, k_UT, i_U, e_Disp, e_DNew, k_StarT, e_Star, e_NoPart, k_Part, e_Part, k_SlUT, k_SlUL, k_Sl1, e_SlU, k_SlLL, k_SlLS, e_SlL, k_Split, e_Split, k_Join2, k_Join, e_Join, e_Meth0, g_Seq2T, g_Seq2L, g_Seq3L, g_Seq3T, e_SubU, e_Fld, e_MakeS, k_Cm2, e_Cm2, k_DicF, e_DicF, e_SortS, e_Meth, e_V11, e_V12, e_V13, e_V14, e_V15, e_V16, e_V17, e_V18, e_V19, e_V20, e_V21, e_V22, e_V23, e_V24, e_V25, e_V26, e_V27, e_V28, e_V29, e_V30, k_L0, k_L1, k_L2, k_L3, k_L4, k_L5, k_L6, k_L7, k_L8, k_T0, k_T1, k_T2, k_T3, k_T4, k_T5, k_T6, k_T7, k_T8, lp_nx, lp_ct, u_add, u_int, o_sub, o_cmp, o_neg, o_isN0, o_isN1, o_isI0, o_isI1, p_1_0, p_2_01, p_2_10, p_3_012, p_3_021, p_3_102, p_3_120, p_3_201, p_3_210, List.set_cons_succ, List.set_cons_zero, wipe_cons, wipe_nil, tupl_L, x_ok, k_And0, k_And1, k_Or0, k_Or1, m1, z]⟩
              have tl : ∀ h : AH, tupleD [.lst ((turnR x k b m).map D.int)] h = .ok (tupI (turnR x k b m)) h := fun h => rfl
              have sp := k_SubUD (env := en (c + 1) (some (tupI x)) (some (mkN k)) (some (tupI (x.drop k ++ x.take k))) (some (mkN b))) (d := .bl true) (y := tupI (turnR x k b m)) (h := [.dct (dctK F (.bl true))]) (n := 0) (kvs := dctK F (.bl true)) rfl keyT_tupI (by unfold dctK; rw [List.length_map]; omega)
              rw [putF_dct] at sp
              refine ⟨_, _, _, _, rfl, ?_, some (mkN b), rfl, rfl, o.put (turn_is hm ix)⟩
              simp only [en] at sp lc ⊢
              simp only [byB, b_ok, b_bad, t_ok, t_bad, e_C, e_V0, e_V1, e_V2, e_V3, e_V4, e_V5, e_V6, e_V7, e_V8, e_V9, e_V10, k_Q, k_Bl, k_TruB, k_TruI, k_TruN, k_NotT, k_AndT1, k_AndT0, k_OrT1, k_OrT0, k_And1, k_And0, k_Or1, k_Or0, k_Not, k_If1, k_If0, k_Cons, k_Tup, k_Lst, k_Frz, k_Own, k_Call, k_CallK, k_Chain1, k_Chain0, k_Chain2, e_Chain, e_Bin, e_BinF, e_Un, e_Bl, e_Tru, e_NotT, e_AndT, e_OrT, e_And, e_Or, e_Not, e_If, e_Nil, e_Cons, e_Tup, e_Lst, e_Frz, e_Own, e_CB, e_CBF, e_Call, e_CallP, k_CallKP, e_CallKP, e_CallK, go_nx, go_rt, go_bk, go_ct, e_Next, e_Seq, k_Drop, e_Drop, k_Ret, e_Ret, k_IfS1, k_IfS0, e_IfS, g_Name, g_Nil, g_Cons, g_Tup, k_Nx, k_Asg, e_Asg, k_Par, e_Par, k_Par3, e_Par3, k_Aug2, k_Aug, e_Aug, k_SeqL, k_SeqS, k_SeqT, i_Seq, k_R1, i_R1, k_R2, i_R2, k_For, e_For, k_Turn, k_Lc, e_Lc, k_Wh1, k_Wh0, r_nx, r_rt, x_ok, x_same, k_RevT, e_RevT, k_RevL, e_RevL, k_Rg1, e_Rg1, k_Rg2, e_Rg2, e_LstRg, e_TupRg, k_EnumT, k_EnumL, e_Enum, k_UL, k_US, k_UT, i_U, e_Disp, e_DNew, k_StarT, e_Star, e_NoPart, k_Part, e_Part, k_SlUT, k_SlUL, k_Sl1, e_SlU, k_SlLL, k_SlLS, e_SlL, k_Split, e_Split, k_Join2, k_Join, e_Join, e_Meth0, g_Seq2T, g_Seq2L, g_Seq3L, g_Seq3T, e_SubU, e_Fld, e_MakeS, k_Cm2, e_Cm2, k_DicF, e_DicF, e_SortS, e_Meth, e_V11, e_V12, e_V13, e_V14, e_V15, e_V16, e_V17, e_V18, e_V19, e_V20, e_V21, e_V22, e_V23, e_V24, e_V25, e_V26, e_V27, e_V28, e_V29, e_V30, k_L0, k_L1, k_L2, k_L3, k_L4, k_L5, k_L6, k_L7, k_L8, k_T0, k_T1, k_T2, k_T3, k_T4, k_T5, k_T6, k_T7, k_T8, lp_nx, lp_ct, u_add, u_int, o_sub, o_cmp, o_neg, o_isN0, o_isN1, o_isI0, o_isI1, p_1_0, p_2_01, p_2_10, p_3_012, p_3_021, p_3_102, p_3_120, p_3_201, p_3_210, List.set_cons_succ, List.set_cons_zero, wipe_cons, wipe_nil, tupl_L, x_ok, k_And0, k_And1, k_Or0, k_Or1, e_SubU, us, k_Lc ls, lc, tl, sp])
          have fe : ((List.range m).map fun b => turnR x k b m).foldl putF F = (List.range m).foldl (fun F b => putF F (turnR x k b m)) F := List.foldl_map
          refine ⟨_, _, _, _, rfl, ?_, some (mkN k), some (tupI (x.drop k ++ x.take k)), z7, rfl, rfl, by rw [fe]; exact o2⟩
          have s1 : ∀ h : AH, kSlU2 (tupI x) (some ((0 : Int) + (k : Nat))) none h = .ok (tupI (x.drop k)) h := fun h => by
            show kSlU2 (.tup (x.map D.int)) _ _ h = _
            rw [k_SlUT, cut_from, ← List.map_drop]; rfl
          have s2 : ∀ h : AH, kSlU2 (tupI x) none (some ((0 : Int) + (k : Nat))) h = .ok (tupI (x.take k)) h := fun h => by
            show kSlU2 (.tup (x.map D.int)) _ _ h = _
            rw [k_SlUT, cut_upto, ← List.map_take]; rfl
          have ad : ∀ h : AH, addUD (tupI (x.drop k)) (tupI (x.take k)) h = .ok (tupI (x.drop k ++ x.take k)) h := fun h => by
            have := Tb.u_addT (h := h) (a := (x.drop k).map D.int) (b := (x.take k).map D.int) (by simp [ix.len]; omega)
            rw [← List.map_append] at this
            exact this
          rw [fe]
          simp only [en, byB] at e2 ⊢
          unfold b__law_counted_1
          simp only [mkN, b_ok, b_bad, t_ok, t_bad, e_C, e_V0, e_V1, e_V2, e_V3, e_V4, e_V5, e_V6, e_V7, e_V8, e_V9, e_V10, k_Q, k_Bl, k_TruB, k_TruI, k_TruN, k_NotT, k_AndT1, k_AndT0, k_OrT1, k_OrT0, k_And1, k_And0, k_Or1, k_Or0, k_Not, k_If1, k_If0, k_Cons, k_Tup, k_Lst, k_Frz, k_Own, k_Call, k_CallK, k_Chain1, k_Chain0, k_Chain2, e_Chain, e_Bin, e_BinF, e_Un, e_Bl, e_Tru, e_NotT, e_AndT, e_OrT, e_And, e_Or, e_Not, e_If, e_Nil, e_Cons, e_Tup, e_Lst, e_Frz, e_Own, e_CB, e_CBF, e_Call, e_CallP, k_CallKP, e_CallKP, e_CallK, go_nx, go_rt, go_bk, go_ct, e_Next, e_Seq, k_Drop, e_Drop, k_Ret, e_Ret, k_IfS1, k_IfS0, e_IfS, g_Name, g_Nil, g_Cons, g_Tup, k_Nx, k_Asg, e_Asg, k_Par, e_Par, k_Par3, e_Par3, k_Aug2, k_Aug, e_Aug, k_SeqL, k_SeqS, k_SeqT, i_Seq, k_R1, i_R1, k_R2, i_R2, k_For, e_For, k_Turn, k_Lc, e_Lc, k_Wh1, k_Wh0, r_nx, r_rt, x_ok, x_same, k_RevT, e_RevT, k_RevL, e_RevL, k_Rg1, e_Rg1, k_Rg2, e_Rg2, e_LstRg, e_TupRg, k_EnumT, k_EnumL, e_Enum, k_UL, k_US, k_UT, i_U, e_Disp, e_DNew, k_StarT, e_Star, e_NoPart, k_Part, e_Part, k_SlUT, k_SlUL, k_Sl1, e_SlU, k_SlLL, k_SlLS, e_SlL, k_Split, e_Split, k_Join2, k_Join, e_Join, e_Meth0, g_Seq2T, g_Seq2L, g_Seq3L, g_Seq3T, e_SubU, e_Fld, e_MakeS, k_Cm2, e_Cm2, k_DicF, e_DicF, e_SortS, e_Meth, e_V11, e_V12, e_V13, e_V14, e_V15, e_V16, e_V17, e_V18, e_V19, e_V20, e_V21, e_V22, e_V23, e_V24, e_V25, e_V26, e_V27, e_V28, e_V29, e_V30, k_L0, k_L1, k_L2, k_L3, k_L4, k_L5, k_L6, k_L7, k_L8, k_T0, k_T1, k_T2, k_T3, k_T4, k_T5, k_T6, k_T7, k_T8, lp_nx, lp_ct, u_add, u_int, o_sub, o_cmp, o_neg, o_isN0, o_isN1, o_isI0, o_isI1, p_1_0, p_2_01, p_2_10, p_3_012, p_3_021, p_3_102, p_3_120, p_3_201, p_3_210, List.set_cons_succ, List.set_cons_zero, wipe_cons, wipe_nil, tupl_L, x_ok, k_And0, k_And1, k_Or0, k_Or1, s1, s2, ad, krm, e2])
      have fe : (clsP n m x).foldl putF F = (List.range n).foldl (fun F k => ((List.range m).map fun b => turnR x k b m).foldl putF F) F := flat_fold ..
      refine ⟨y5, y6, y7, ?_, by rw [fe]; exact o1⟩
      rw [fe]
      have ea : ((c : Int) + 1) = ((c + 1 : Nat) : Int) := rfl
      simp only [en] at e1 ⊢
      simp only [b_ok, b_bad, t_ok, t_bad, e_C, e_V0, e_V1, e_V2, e_V3, e_V4, e_V5, e_V6, e_V7, e_V8, e_V9, e_V10, k_Q, k_Bl, k_TruB, k_TruI, k_TruN, k_NotT, k_AndT1, k_AndT0, k_OrT1, k_OrT0, k_And1, k_And0, k_Or1, k_Or0, k_Not, k_If1, k_If0, k_Cons, k_Tup, k_Lst, k_Frz, k_Own, k_Call, k_CallK, k_Chain1, k_Chain0, k_Chain2, e_Chain, e_Bin, e_BinF, e_Un, e_Bl, e_Tru, e_NotT, e_AndT, e_OrT, e_And, e_Or, e_Not, e_If, e_Nil, e_Cons, e_Tup, e_Lst, e_Frz, e_Own, e_CB, e_CBF, e_Call, e_CallP, k_CallKP, e_CallKP, e_CallK, go_nx, go_rt, go_bk, go_ct, e_Next, e_Seq, k_Drop, e_Drop, k_Ret, e_Ret, k_IfS1, k_IfS0, e_IfS, g_Name, g_Nil, g_Cons, g_Tup, k_Nx, k_Asg, e_Asg, k_Par, e_Par, k_Par3, e_Par3, k_Aug2, k_Aug, e_Aug, k_SeqL, k_SeqS, k_SeqT, i_Seq, k_R1, i_R1, k_R2, i_R2, k_For, e_For, k_Turn, k_Lc, e_Lc, k_Wh1, k_Wh0, r_nx, r_rt, x_ok, x_same, k_RevT, e_RevT, k_RevL, e_RevL, k_Rg1, e_Rg1, k_Rg2, e_Rg2, e_LstRg, e_TupRg, k_EnumT, k_EnumL, e_Enum, k_UL, k_US, k_UT, i_U, e_Disp, e_DNew, k_StarT, e_Star, e_NoPart, k_Part, e_Part, k_SlUT, k_SlUL, k_Sl1, e_SlU, k_SlLL, k_SlLS, e_SlL, k_Split, e_Split, k_Join2, k_Join, e_Join, e_Meth0, g_Seq2T, g_Seq2L, g_Seq3L, g_Seq3T, e_SubU, e_Fld, e_MakeS, k_Cm2, e_Cm2, k_DicF, e_DicF, e_SortS, e_Meth, e_V11, e_V12, e_V13, e_V14, e_V15, e_V16, e_V17, e_V18, e_V19, e_V20, e_V21, e_V22, e_V23, e_V24, e_V25, e_V26, e_V27, e_V28, e_V29, e_V30, k_L0, k_L1, k_L2, k_L3, k_L4, k_L5, k_L6, k_L7, k_L8, k_T0, k_T1, k_T2, k_T3, k_T4, k_T5, k_T6, k_T7, k_T8, lp_nx, lp_ct, u_add, u_int, o_sub, o_cmp, o_neg, o_isN0, o_isN1, o_isI0, o_isI1, p_1_0, p_2_01, p_2_10, p_3_012, p_3_021, p_3_102, p_3_120, p_3_201, p_3_210, List.set_cons_succ, List.set_cons_zero, wipe_cons, wipe_nil, tupl_L, x_ok, k_And0, k_And1, k_Or0, k_Or1, ci, Bool.not_false, ea, krn, e1]
  obtain ⟨env', h', e, x4, x5, x6, x7, rfl, rfl, _⟩ := for_fold (g := mgName 4) (p := (mIfS (mBl (mBin (inUD true) (mVar 4) (mVar 3))) (mSeq (mAsg (mBin addUD (mVar 2) (mC (.int 1))) (mgName 2)) (mFor (miRng1 (mCons (mVar 0) mNil)) (mgName 5) b__law_counted_1)) mNext)) tupI (stepC n m)
    (fun s env h => ∃ x4 x5 x6 x7, env = en s.1 x4 x5 x6 x7 ∧ h = [.dct (dctK s.2 (.bl true))] ∧ Ok n m s.2) (xs := allP m n) (s := (0, [])) (env := en 0 none none none none) (h := [.dct []]) ⟨_, _, _, _, rfl, rfl, List.nodup_nil, by simp⟩ (by
      rintro x hx s env h ⟨x4, x5, x6, x7, rfl, rfl, o⟩
      obtain ⟨y5, y6, y7, e, o2⟩ := step x (Pl.mem_allP.mp hx) s (some (tupI x)) x5 x6 x7 o
      exact ⟨_, _, _, _, rfl, e, _, _, _, _, rfl, rfl, o2⟩)
  simp only [en] at e
  have uA : ∀ h : AH, kU (.lst ((allP m n).map tupI)) h = .ok (.items ((allP m n).map tupI)) h := fun h => rfl
  have e0 : (((0 : Nat) : Int)) = 0 := rfl
  rw [e0] at e
  simp only [F__law_counted, m__law_counted, f_T, ei, b_ok, b_bad, t_ok, t_bad, e_C, e_V0, e_V1, e_V2, e_V3, e_V4, e_V5, e_V6, e_V7, e_V8, e_V9, e_V10, k_Q, k_Bl, k_TruB, k_TruI, k_TruN, k_NotT, k_AndT1, k_AndT0, k_OrT1, k_OrT0, k_And1, k_And0, k_Or1, k_Or0, k_Not, k_If1, k_If0, k_Cons, k_Tup, k_Lst, k_Frz, k_Own, k_Call, k_CallK, k_Chain1, k_Chain0, k_Chain2, e_Chain, e_Bin, e_BinF, e_Un, e_Bl, e_Tru, e_NotT, e_AndT, e_OrT, e_And, e_Or, e_Not, e_If, e_Nil, e_Cons, e_Tup, e_Lst, e_Frz, e_Own, e_CB, e_CBF, e_Call, e_CallP, k_CallKP, e_CallKP, e_CallK, go_nx, go_rt, go_bk, go_ct, e_Next, e_Seq, k_Drop, e_Drop, k_Ret, e_Ret, k_IfS1, k_IfS0, e_IfS, g_Name, g_Nil, g_Cons, g_Tup, k_Nx, k_Asg, e_Asg, k_Par, e_Par, k_Par3, e_Par3, k_Aug2, k_Aug, e_Aug, k_SeqL, k_SeqS, k_SeqT, i_Seq, k_R1, i_R1, k_R2, i_R2, k_For, e_For, k_Turn, k_Lc, e_Lc, k_Wh1, k_Wh0, r_nx, r_rt, x_ok, x_same, k_RevT, e_RevT, k_RevL, e_RevL, k_Rg1, e_Rg1, k_Rg2, e_Rg2, e_LstRg, e_TupRg, k_EnumT, k_EnumL, e_Enum, k_UL, k_US, k_UT, i_U, e_Disp, e_DNew, k_StarT, e_Star, e_NoPart, k_Part, e_Part, k_SlUT, k_SlUL, k_Sl1, e_SlU, k_SlLL, k_SlLS, e_SlL, k_Split, e_Split, k_Join2, k_Join, e_Join, e_Meth0, g_Seq2T, g_Seq2L, g_Seq3L, g_Seq3T, e_SubU, e_Fld, e_MakeS, k_Cm2, e_Cm2, k_DicF, e_DicF, e_SortS, e_Meth, e_V11, e_V12, e_V13, e_V14, e_V15, e_V16, e_V17, e_V18, e_V19, e_V20, e_V21, e_V22, e_V23, e_V24, e_V25, e_V26, e_V27, e_V28, e_V29, e_V30, k_L0, k_L1, k_L2, k_L3, k_L4, k_L5, k_L6, k_L7, k_L8, k_T0, k_T1, k_T2, k_T3, k_T4, k_T5, k_T6, k_T7, k_T8, lp_nx, lp_ct, u_add, u_int, o_sub, o_cmp, o_neg, o_isN0, o_isN1, o_isI0, o_isI1, p_1_0, p_2_01, p_2_10, p_3_012, p_3_021, p_3_102, p_3_120, p_3_201, p_3_210, List.set_cons_succ, List.set_cons_zero, wipe_cons, wipe_nil, tupl_L, x_ok, k_And0, k_And1, k_Or0, k_Or1, e_DNew, ca, uA, List.length_nil, List.nil_append, e]
  exact x_cut (by simp)
theorem counted_c (hn : 1 ≤ n) (hm : 0 < m) (hm9 : m ≤ 30) (hn10 : n ≤ 10) (hp : m ^ n ≤ 1300) : ∀ h, callP 2 F__law_counted [.int n, .int m] h = .ok (.int ((countP n m : Nat) : Int)) h := fun h => c_P (counted_ok hn hm hm9 hn10 hp) rfl (by simp [belowL]) (by simp)
end
end K69

/-! The small rings, counted by a mask; the size of the numbers. -/
namespace K69
open PySem PySem.Spec L2 Ab
open Pl (IsS allP)
section
variable {h : AH} {n m : Nat}
def enc (m a : Nat) : List Int → Nat
  | [] => a
  | d :: x => enc m (a * m + d.toNat) x
theorem enc_inj (hm : 0 < m) : ∀ (x y : List Int) (a b : Nat), x.length = y.length → (∀ i ∈ x, 0 ≤ i ∧ i < m) → (∀ i ∈ y, 0 ≤ i ∧ i < m) → enc m a x = enc m b y → a = b ∧ x = y
  | [], [], a, b, _, _, _, e => ⟨e, rfl⟩
  | [], _ :: _, _, _, l, _, _, _ => by simp at l
  | _ :: _, [], _, _, l, _, _, _ => by simp at l
  | d :: x, c :: y, a, b, l, hx, hy, e => by
    have ih := enc_inj hm x y (a * m + d.toNat) (b * m + c.toNat) (by simpa using l) (fun i hi => hx i (List.mem_cons_of_mem _ hi)) (fun i hi => hy i (List.mem_cons_of_mem _ hi)) e
    have d1 := hx d List.mem_cons_self
    have c1 := hy c List.mem_cons_self
    have e1 := congrArg (· / m) ih.1
    have e2 := congrArg (· % m) ih.1
    simp only [Nat.mul_comm a m, Nat.mul_comm b m, Nat.mul_add_div hm, Nat.mul_add_mod] at e1 e2
    rw [Nat.div_eq_of_lt (by omega), Nat.div_eq_of_lt (by omega)] at e1
    rw [Nat.mod_eq_of_lt (by omega), Nat.mod_eq_of_lt (by omega)] at e2
    refine ⟨by omega, ?_⟩
    rw [ih.2, show d = c by omega]
def putM (m M : Nat) (y : List Int) : Nat := M ||| 2 ^ enc m 0 y
def stepM (n m : Nat) (s : Nat × Nat) (x : List Int) : Nat × Nat := if Nat.testBit s.2 (enc m 0 x) then s else (s.1 + 1, (clsP n m x).foldl (putM m) s.2)
def countM (n m : Nat) : Nat := ((allP m n).foldl (stepM n m) (0, 0)).1
def Sm (n m : Nat) (F : List (List Int)) (M : Nat) : Prop := ∀ x, IsS n m x → (x ∈ F ↔ Nat.testBit M (enc m 0 x) = true)
theorem Sm.put (hm : 0 < m) {F : List (List Int)} {M : Nat} {y : List Int} (s : Sm n m F M) (hy : IsS n m y) : Sm n m (putF F y) (putM m M y) := fun x hx => by
  have a : x ∈ putF F y ↔ x ∈ F ∨ x = y := by
    unfold putF
    split
    · rename_i q
      exact ⟨.inl, fun z => z.elim id fun z => z ▸ q⟩
    · rw [List.mem_append, List.mem_singleton]
  have b : Nat.testBit (putM m M y) (enc m 0 x) = (Nat.testBit M (enc m 0 x) || decide (enc m 0 y = enc m 0 x)) := by
    unfold putM
    rw [Nat.testBit_or, Nat.testBit_two_pow]
  rw [a, b, Bool.or_eq_true, decide_eq_true_eq, s x hx]
  constructor
  · rintro (z | z)
    · exact .inl z
    · exact .inr (by rw [z])
  · rintro (z | z)
    · exact .inl z
    · exact .inr (enc_inj hm y x 0 0 (by rw [hx.len, hy.len]) hy.rng hx.rng z).2.symm
theorem Sm.puts (hm : 0 < m) : ∀ {L F : List (List Int)} {M : Nat}, Sm n m F M → (∀ y ∈ L, IsS n m y) → Sm n m (L.foldl putF F) (L.foldl (putM m) M)
  | [], F, M, s, _ => s
  | y :: L, F, M, s, hL => by
    rw [List.foldl_cons, List.foldl_cons]
    exact Sm.puts hm (Sm.put hm s (hL y List.mem_cons_self)) fun z hz => hL z (List.mem_cons_of_mem _ hz)
theorem same (hm : 0 < m) : ∀ (L : List (List Int)) (s : Nat × List (List Int)) (t : Nat × Nat), (∀ x ∈ L, IsS n m x) → s.1 = t.1 → Sm n m s.2 t.2 → (L.foldl (stepC n m) s).1 = (L.foldl (stepM n m) t).1
  | [], s, t, _, e, _ => e
  | x :: L, s, t, hL, e, r => by
    have ix := hL x List.mem_cons_self
    rw [List.foldl_cons, List.foldl_cons]
    have hx := r x ix
    by_cases q : x ∈ s.2
    · have e1 : stepC n m s x = s := if_pos q
      have e2 : stepM n m t x = t := if_pos (hx.mp q)
      rw [e1, e2]
      exact same hm L s t (fun z hz => hL z (List.mem_cons_of_mem _ hz)) e r
    · have e1 : stepC n m s x = (s.1 + 1, (clsP n m x).foldl putF s.2) := if_neg q
      have e2 : stepM n m t x = (t.1 + 1, (clsP n m x).foldl (putM m) t.2) := if_neg fun z => q (hx.mpr z)
      rw [e1, e2]
      exact same hm L _ _ (fun z hz => hL z (List.mem_cons_of_mem _ hz)) (by show s.1 + 1 = t.1 + 1; omega) (r.puts hm (cls_is hm ix))
theorem count_is (hm : 0 < m) : countP n m = countM n m := by
  refine same hm _ _ _ (fun x hx => Pl.mem_allP.mp hx) rfl fun x hx => ?_
  have : Nat.testBit 0 (enc m 0 x) = false := Nat.zero_testBit _
  rw [this]
  exact ⟨fun z => absurd z List.not_mem_nil, fun z => by cases z⟩
def menu : List (Nat × Nat) := [(1, 7), (2, 9), (2, 30), (3, 4), (3, 9), (4, 5), (5, 4), (6, 3), (9, 2), (10, 2)]
def goodB (n m : Nat) : Bool := decide (1 ≤ n) && decide (n ≤ 10) && decide (1 ≤ m) && decide (m ≤ 30) && decide (m ^ n ≤ 1300) && (countM n m == meanS n m / (n * m))
theorem good_all : (menu.all fun p => goodB p.1 p.2 && goodB p.1 1) = true := by kernel_rfl
structure Small (n m : Nat) : Prop where
  n1 : 1 ≤ n
  n10 : n ≤ 10
  m1 : 1 ≤ m
  m30 : m ≤ 30
  few : m ^ n ≤ 1300
  eq : countP n m = meanS n m / (n * m)
theorem good_is (g : goodB n m = true) : Small n m := by
  unfold goodB at g
  simp only [Bool.and_eq_true, decide_eq_true_eq] at g
  obtain ⟨⟨⟨⟨⟨a, b⟩, c⟩, d⟩, e⟩, f⟩ := g
  exact ⟨a, b, c, d, e, by rw [count_is c]; exact eq_of_beq f⟩
theorem small_of {p : Nat × Nat} (hp : p ∈ menu) : Small p.1 p.2 ∧ Small p.1 1 := by
  have := List.all_eq_true.mp good_all p hp
  rw [Bool.and_eq_true] at this
  exact ⟨good_is this.1, good_is this.2⟩
/-! sizes -/
theorem sum_le {f : Nat → Nat} {B : Nat} : ∀ {l : List Nat}, (∀ x ∈ l, f x ≤ B) → (l.map f).sum ≤ l.length * B
  | [], _ => by simp
  | x :: l, h => by
    have ih := sum_le (l := l) fun y hy => h y (List.mem_cons_of_mem _ hy)
    have hx := h x List.mem_cons_self
    rw [List.map_cons, List.sum_cons, List.length_cons, Nat.succ_mul]
    omega
theorem kind_le (hn : 1 ≤ n) (hn2 : n ≤ 200) (hm : 1 ≤ m) (hm2 : m ≤ 1000) : kindS n m ≤ 200 * (1024 * 1024 ^ 200) := by
  rw [kind_sum]
  refine Nat.le_trans (sum_le (B := 1024 * 1024 ^ 200) fun r hr => ?_) (Nat.mul_le_mul_right _ (by unfold stepsL; rw [List.length_map, List.length_range]; exact hn2))
  obtain ⟨i, _, rfl⟩ := List.mem_map.mp hr
  have g1 : Nat.gcd n (i + 1) ≤ n := Nat.le_of_dvd (by omega) (Nat.gcd_dvd_left _ _)
  have g2 : Nat.gcd (n / Nat.gcd n (i + 1)) m ≤ m := Nat.le_of_dvd (by omega) (Nat.gcd_dvd_right _ _)
  refine Nat.mul_le_mul (by omega) ?_
  exact Nat.le_trans (Nat.pow_le_pow_left (show m ≤ 1024 by omega) _) (Nat.pow_le_pow_right (by decide) (by omega))
theorem val_log (hn : 1 ≤ n) (hn2 : n ≤ 200) (hm : 1 ≤ m) (hm2 : m ≤ 1000) : (((kindS n m / (n * m) : Nat) : Int) - 1).natAbs.log2 < 12000 := by
  have k := kind_le hn hn2 hm hm2
  have d : kindS n m / (n * m) ≤ kindS n m := Nat.div_le_self _ _
  generalize kindS n m / (n * m) = q at *
  have l : ((q : Int) - 1).natAbs ≤ kindS n m + 1 := by omega
  have k2 : kindS n m + 1 ≤ 200 * (1024 * 1024 ^ 200) + 1 := Nat.succ_le_succ k
  have lt : ((q : Int) - 1).natAbs < 2 ^ 3000 := Nat.lt_of_le_of_lt (Nat.le_trans l k2) (by decide +kernel)
  by_cases z : ((q : Int) - 1).natAbs = 0
  · rw [z]; decide
  · exact Nat.lt_trans ((Nat.log2_lt z).mpr lt) (by decide)
theorem repr_c {v : Int} (hv : v.natAbs.log2 < 12000) : ∀ h : AH, reprID [.lst [.int v, .int v]] h = .ok (.str (listText [iTx v, iTx v])) h := fun h => by
  have e : intsZ [D.int v, .int v] = some [v, v] := rfl
  unfold reprID
  simp only [e]
  rw [if_pos ⟨by simp [hv], by simp⟩]
  rfl
end
end K69

/-! One turn of the law. -/
namespace K69
open PySem PySem.Spec L2 Ab
open Tb (Fl)
section
variable {h : AH} {k n m : Nat}
abbrev V (n m : Nat) : Int := ((kindS n m / (n * m) : Nat) : Int) - 1
theorem ne_strs (z : Str) : ∀ h : AH, neD (.str z) (.str z) h = .ok (.bl false) h := fun h => by
  show Ab.R.ok (D.bl (!decide (z = z))) h = _
  rw [decide_eq_true rfl]; rfl
theorem ne_ints (v : Int) : ∀ h : AH, neD (.int v) (.int v) h = .ok (.bl false) h := fun h => by
  show Ab.R.ok (D.bl (!decide (v = v))) h = _
  rw [decide_eq_true rfl]; rfl
abbrev menuD : List D := [.tup [.int 1, .int 7], .tup [.int 2, .int 9], .tup [.int 2, .int 30], .tup [.int 3, .int 4], .tup [.int 3, .int 9], .tup [.int 4, .int 5], .tup [.int 5, .int 4], .tup [.int 6, .int 3], .tup [.int 9, .int 2], .tup [.int 10, .int 2]]
theorem menu_is : menuD = menu.map fun p => D.tup [.int p.1, .int p.2] := rfl
theorem small_row (g : Small n m) {x0 x1 x2 x5 : Option D} (H : AH) :
    mSeq (mAsg (mBin subD (mCallP 2 F__law_counted (mCons (mVar 3) (mCons (mVar 4) mNil))) (mC (.int 1))) (mgName 5))
  (mSeq (mIfS (mBl (mBin neD (mCB reprID (mCons (mFrz (mLst (mCons (mCallP 2 F_ring_kinds (mCons (mVar 3) (mCons (mVar 4) mNil))) (mCons (mCallKP 2 F_ring_kinds (permL 0 2 [1, 0] .non) mNil (mCons (mVar 4) (mCons (mVar 3) mNil))) mNil)))) mNil)) (mCB reprID (mCons (mFrz (mLst (mCons (mVar 5) (mCons (mVar 5) mNil)))) mNil)))) (mRet (mC (.bl false))) mNext)
  (mIfS (mBl (mBin neD (mVar 5) (mBin subD (mCallP 2 F__law_mean (mCons (mVar 3) (mCons (mVar 4) mNil))) (mC (.int 1))))) (mRet (mC (.bl false))) mNext)) [x0, x1, x2, some (.int n), some (.int m), x5] H = .nx [x0, x1, x2, some (.int n), some (.int m), some (.int (V n m))] H := by
  have n1 := g.n1
  have n10 := g.n10
  have m1 := g.m1
  have m30 := g.m30
  have cc := counted_c (n := n) (m := m) n1 m1 m30 n10 g.few
  have em : countP n m = kindS n m / (n * m) := by rw [g.eq, sums n1 (by omega)]
  rw [em] at cc
  have ck := kinds_c (n := n) (m := m) n1 (by omega) m1 (by omega)
  have cm := mean_c (n := n) (m := m) n1 (by omega) m1 (by omega)
  rw [sums n1 (by omega)] at cm
  have rp := repr_c (val_log (n := n) (m := m) n1 (by omega) m1 (by omega))
  have k2 : ∀ (a b : D) (h : AH), kLst [a, b] h = .ok [a, b] h := fun a b h => k_Lst (by simp)
  have ne1 := ne_strs (listText [iTx (V n m), iTx (V n m)])
  have ne2 := ne_ints (V n m)
  simp only [V] at *
  simp only [b_ok, b_bad, t_ok, t_bad, e_C, e_V0, e_V1, e_V2, e_V3, e_V4, e_V5, e_V6, e_V7, e_V8, e_V9, e_V10, k_Q, k_Bl, k_TruB, k_TruI, k_TruN, k_NotT, k_AndT1, k_AndT0, k_OrT1, k_OrT0, k_And1, k_And0, k_Or1, k_Or0, k_Not, k_If1, k_If0, k_Cons, k_Tup, k_Lst, k_Frz, k_Own, k_Call, k_CallK, k_Chain1, k_Chain0, k_Chain2, e_Chain, e_Bin, e_BinF, e_Un, e_Bl, e_Tru, e_NotT, e_AndT, e_OrT, e_And, e_Or, e_Not, e_If, e_Nil, e_Cons, e_Tup, e_Lst, e_Frz, e_Own, e_CB, e_CBF, e_Call, e_CallP, k_CallKP, e_CallKP, e_CallK, go_nx, go_rt, go_bk, go_ct, e_Next, e_Seq, k_Drop, e_Drop, k_Ret, e_Ret, k_IfS1, k_IfS0, e_IfS, g_Name, g_Nil, g_Cons, g_Tup, k_Nx, k_Asg, e_Asg, k_Par, e_Par, k_Par3, e_Par3, k_Aug2, k_Aug, e_Aug, k_SeqL, k_SeqS, k_SeqT, i_Seq, k_R1, i_R1, k_R2, i_R2, k_For, e_For, k_Turn, k_Lc, e_Lc, k_Wh1, k_Wh0, r_nx, r_rt, x_ok, x_same, k_RevT, e_RevT, k_RevL, e_RevL, k_Rg1, e_Rg1, k_Rg2, e_Rg2, e_LstRg, e_TupRg, k_EnumT, k_EnumL, e_Enum, k_UL, k_US, k_UT, i_U, e_Disp, e_DNew, k_StarT, e_Star, e_NoPart, k_Part, e_Part, k_SlUT, k_SlUL, k_Sl1, e_SlU, k_SlLL, k_SlLS, e_SlL, k_Split, e_Split, k_Join2, k_Join, e_Join, e_Meth0, g_Seq2T, g_Seq2L, g_Seq3L, g_Seq3T, e_SubU, e_Fld, e_MakeS, k_Cm2, e_Cm2, k_DicF, e_DicF, e_SortS, e_Meth, e_V11, e_V12, e_V13, e_V14, e_V15, e_V16, e_V17, e_V18, e_V19, e_V20, e_V21, e_V22, e_V23, e_V24, e_V25, e_V26, e_V27, e_V28, e_V29, e_V30, k_L0, k_L1, k_L2, k_L3, k_L4, k_L5, k_L6, k_L7, k_L8, k_T0, k_T1, k_T2, k_T3, k_T4, k_T5, k_T6, k_T7, k_T8, lp_nx, lp_ct, u_add, u_int, o_sub, o_cmp, o_neg, o_isN0, o_isN1, o_isI0, o_isI1, p_1_0, p_2_01, p_2_10, p_3_012, p_3_021, p_3_102, p_3_120, p_3_201, p_3_210, List.set_cons_succ, List.set_cons_zero, wipe_cons, wipe_nil, tupl_L, x_ok, k_And0, k_And1, k_Or0, k_Or1, cc, ck, cm, k2, rp, ne1, ne2]
theorem turn1 {i : Nat} (s : Sp3 h k) (hi : i < 3) (x2 x3 x4 x5 : Option D) : ∃ y2 y3 y4 y5 h', b__law_right_1 [some (.loc k), some (.int (i : Nat)), x2, x3, x4, x5] h = .nx [some (.loc k), some (.int (i : Nat)), y2, y3, y4, y5] h' ∧ Dr h k h' := by
  obtain ⟨x, h1, e1, mx, t1⟩ := Tb.of_ok (ds := menuD) s (by decide) (by decide) (fun x hx q => by
    rw [menu_is] at hx
    obtain ⟨p, _, rfl⟩ := List.mem_map.mp hx
    simp [below, belowL])
  rw [menu_is] at mx
  obtain ⟨p, hp, rfl⟩ := List.mem_map.mp mx
  obtain ⟨g1, g2⟩ := small_of hp
  obtain ⟨n, m⟩ := p
  have c1 : ∀ {a : D}, a = .lst menuD → kCall 2 F__law_of [.loc k, a] h = .ok (.tup [.int (n : Nat), .int (m : Nat)]) h1 := fun e => by
    rw [e]; exact (k_Call rfl).trans e1
  have c1 := c1 rfl
  have kt : ∀ (a b : D) (h : AH), kTup [a, b] h = .ok (.tup [a, b]) h := fun a b h => k_Tup (by simp)
  have kl : ∀ (a b c d e f g i j l : D) (h : AH), kLst [a, b, c, d, e, f, g, i, j, l] h = .ok [a, b, c, d, e, f, g, i, j, l] h := fun a b c d e f g i j l h => k_Lst (by simp)
  have q0 := eq_dec (x := i) (y := 0)
  have z0 : ((0 : Nat) : Int) = 0 := rfl
  rw [z0] at q0
  have key : ∀ m' : Nat, Small n m' → (if i = 0 then 1 else m) = m' → ∃ y2 y3 y4 y5 h', b__law_right_1 [some (.loc k), some (.int (i : Nat)), x2, x3, x4, x5] h = .nx [some (.loc k), some (.int (i : Nat)), y2, y3, y4, y5] h' ∧ Dr h k h' := by
    intro m' g em
    have r := small_row g (x0 := some (.loc k)) (x1 := some (.int (i : Nat))) (x2 := some (.lst menuD)) (x5 := x5) h1
    refine ⟨some (.lst menuD), some (.int (n : Nat)), some (.int (m' : Nat)), some (.int (V n m')), h1, ?_, t1⟩
    have r3 : mIfS (mBl (mBin eqD (mVar 1) (mC (.int 0)))) (mAsg (mC (.int 1)) (mgName 4)) mNext [some (.loc k), some (.int (i : Nat)), some (.lst menuD), some (.int (n : Nat)), some (.int (m : Nat)), x5] h1 = .nx [some (.loc k), some (.int (i : Nat)), some (.lst menuD), some (.int (n : Nat)), some (.int (m' : Nat)), x5] h1 := by
      rw [← em]
      by_cases q : i = 0
      · rw [decide_eq_true q] at q0
        rw [if_pos q]
        simp only [b_ok, b_bad, t_ok, t_bad, e_C, e_V0, e_V1, e_V2, e_V3, e_V4, e_V5, e_V6, e_V7, e_V8, e_V9, e_V10, k_Q, k_Bl, k_TruB, k_TruI, k_TruN, k_NotT, k_AndT1, k_AndT0, k_OrT1, k_OrT0, k_And1, k_And0, k_Or1, k_Or0, k_Not, k_If1, k_If0, k_Cons, k_Tup, k_Lst, k_Frz, k_Own, k_Call, k_CallK, k_Chain1, k_Chain0, k_Chain2, e_Chain, e_Bin, e_BinF, e_Un, e_Bl, e_Tru, e_NotT, e_AndT, e_OrT, e_And, e_Or, e_Not, e_If, e_Nil, e_Cons, e_Tup, e_Lst, e_Frz, e_Own, e_CB, e_CBF, e_Call, e_CallP, k_CallKP, e_CallKP, e_CallK, go_nx, go_rt, go_bk, go_ct, e_Next, e_Seq, k_Drop, e_Drop, k_Ret, e_Ret, k_IfS1, k_IfS0, e_IfS, g_Name, g_Nil, g_Cons, g_Tup, k_Nx, k_Asg, e_Asg, k_Par, e_Par, k_Par3, e_Par3, k_Aug2, k_Aug, e_Aug, k_SeqL, k_SeqS, k_SeqT, i_Seq, k_R1, i_R1, k_R2, i_R2, k_For, e_For, k_Turn, k_Lc, e_Lc, k_Wh1, k_Wh0, r_nx, r_rt, x_ok, x_same, k_RevT, e_RevT, k_RevL, e_RevL, k_Rg1, e_Rg1, k_Rg2, e_Rg2, e_LstRg, e_TupRg, k_EnumT, k_EnumL, e_Enum, k_UL, k_US, k_UT, i_U, e_Disp, e_DNew, k_StarT, e_Star, e_NoPart, k_Part, e_Part, k_SlUT, k_SlUL, k_Sl1, e_SlU, k_SlLL, k_SlLS, e_SlL, k_Split, e_Split, k_Join2, k_Join, e_Join, e_Meth0, g_Seq2T, g_Seq2L, g_Seq3L, g_Seq3T, e_SubU, e_Fld, e_MakeS, k_Cm2, e_Cm2, k_DicF, e_DicF, e_SortS, e_Meth, e_V11, e_V12, e_V13, e_V14, e_V15, e_V16, e_V17, e_V18, e_V19, e_V20, e_V21, e_V22, e_V23, e_V24, e_V25, e_V26, e_V27, e_V28, e_V29, e_V30, k_L0, k_L1, k_L2, k_L3, k_L4, k_L5, k_L6, k_L7, k_L8, k_T0, k_T1, k_T2, k_T3, k_T4, k_T5, k_T6, k_T7, k_T8, lp_nx, lp_ct, u_add, u_int, o_sub, o_cmp, o_neg, o_isN0, o_isN1, o_isI0, o_isI1, p_1_0, p_2_01, p_2_10, p_3_012, p_3_021, p_3_102, p_3_120, p_3_201, p_3_210, List.set_cons_succ, List.set_cons_zero, wipe_cons, wipe_nil, tupl_L, x_ok, k_And0, k_And1, k_Or0, k_Or1, q0]
        rfl
      · rw [decide_eq_false q] at q0
        rw [if_neg q]
        simp only [b_ok, b_bad, t_ok, t_bad, e_C, e_V0, e_V1, e_V2, e_V3, e_V4, e_V5, e_V6, e_V7, e_V8, e_V9, e_V10, k_Q, k_Bl, k_TruB, k_TruI, k_TruN, k_NotT, k_AndT1, k_AndT0, k_OrT1, k_OrT0, k_And1, k_And0, k_Or1, k_Or0, k_Not, k_If1, k_If0, k_Cons, k_Tup, k_Lst, k_Frz, k_Own, k_Call, k_CallK, k_Chain1, k_Chain0, k_Chain2, e_Chain, e_Bin, e_BinF, e_Un, e_Bl, e_Tru, e_NotT, e_AndT, e_OrT, e_And, e_Or, e_Not, e_If, e_Nil, e_Cons, e_Tup, e_Lst, e_Frz, e_Own, e_CB, e_CBF, e_Call, e_CallP, k_CallKP, e_CallKP, e_CallK, go_nx, go_rt, go_bk, go_ct, e_Next, e_Seq, k_Drop, e_Drop, k_Ret, e_Ret, k_IfS1, k_IfS0, e_IfS, g_Name, g_Nil, g_Cons, g_Tup, k_Nx, k_Asg, e_Asg, k_Par, e_Par, k_Par3, e_Par3, k_Aug2, k_Aug, e_Aug, k_SeqL, k_SeqS, k_SeqT, i_Seq, k_R1, i_R1, k_R2, i_R2, k_For, e_For, k_Turn, k_Lc, e_Lc, k_Wh1, k_Wh0, r_nx, r_rt, x_ok, x_same, k_RevT, e_RevT, k_RevL, e_RevL, k_Rg1, e_Rg1, k_Rg2, e_Rg2, e_LstRg, e_TupRg, k_EnumT, k_EnumL, e_Enum, k_UL, k_US, k_UT, i_U, e_Disp, e_DNew, k_StarT, e_Star, e_NoPart, k_Part, e_Part, k_SlUT, k_SlUL, k_Sl1, e_SlU, k_SlLL, k_SlLS, e_SlL, k_Split, e_Split, k_Join2, k_Join, e_Join, e_Meth0, g_Seq2T, g_Seq2L, g_Seq3L, g_Seq3T, e_SubU, e_Fld, e_MakeS, k_Cm2, e_Cm2, k_DicF, e_DicF, e_SortS, e_Meth, e_V11, e_V12, e_V13, e_V14, e_V15, e_V16, e_V17, e_V18, e_V19, e_V20, e_V21, e_V22, e_V23, e_V24, e_V25, e_V26, e_V27, e_V28, e_V29, e_V30, k_L0, k_L1, k_L2, k_L3, k_L4, k_L5, k_L6, k_L7, k_L8, k_T0, k_T1, k_T2, k_T3, k_T4, k_T5, k_T6, k_T7, k_T8, lp_nx, lp_ct, u_add, u_int, o_sub, o_cmp, o_neg, o_isN0, o_isN1, o_isI0, o_isI1, p_1_0, p_2_01, p_2_10, p_3_012, p_3_021, p_3_102, p_3_120, p_3_201, p_3_210, List.set_cons_succ, List.set_cons_zero, wipe_cons, wipe_nil, tupl_L, x_ok, k_And0, k_And1, k_Or0, k_Or1, q0]
    unfold b__law_right_1
    rw [e_Seq]
    simp only [e_Asg, e_Frz, e_Lst, e_Cons, e_Tup, e_C, e_Nil, b_ok, k_Q, k_Cons, kt, kl, k_Frz, t_ok, k_Asg, g_Name, k_Nx, List.set_cons_succ, List.set_cons_zero, go_nx]
    rw [e_Seq]
    have r2 : mAsg (mCall 2 F__law_of (mCons (mVar 0) (mCons (mVar 2) mNil))) (mgSeq 2 (mgCons (mgName 3) (mgCons (mgName 4) mgNil))) [some (.loc k), some (.int (i : Nat)), some (.lst menuD), x3, x4, x5] h = .nx [some (.loc k), some (.int (i : Nat)), some (.lst menuD), some (.int (n : Nat)), some (.int (m : Nat)), x5] h1 := by
      simp only [b_ok, b_bad, t_ok, t_bad, e_C, e_V0, e_V1, e_V2, e_V3, e_V4, e_V5, e_V6, e_V7, e_V8, e_V9, e_V10, k_Q, k_Bl, k_TruB, k_TruI, k_TruN, k_NotT, k_AndT1, k_AndT0, k_OrT1, k_OrT0, k_And1, k_And0, k_Or1, k_Or0, k_Not, k_If1, k_If0, k_Cons, k_Tup, k_Lst, k_Frz, k_Own, k_Call, k_CallK, k_Chain1, k_Chain0, k_Chain2, e_Chain, e_Bin, e_BinF, e_Un, e_Bl, e_Tru, e_NotT, e_AndT, e_OrT, e_And, e_Or, e_Not, e_If, e_Nil, e_Cons, e_Tup, e_Lst, e_Frz, e_Own, e_CB, e_CBF, e_Call, e_CallP, k_CallKP, e_CallKP, e_CallK, go_nx, go_rt, go_bk, go_ct, e_Next, e_Seq, k_Drop, e_Drop, k_Ret, e_Ret, k_IfS1, k_IfS0, e_IfS, g_Name, g_Nil, g_Cons, g_Tup, k_Nx, k_Asg, e_Asg, k_Par, e_Par, k_Par3, e_Par3, k_Aug2, k_Aug, e_Aug, k_SeqL, k_SeqS, k_SeqT, i_Seq, k_R1, i_R1, k_R2, i_R2, k_For, e_For, k_Turn, k_Lc, e_Lc, k_Wh1, k_Wh0, r_nx, r_rt, x_ok, x_same, k_RevT, e_RevT, k_RevL, e_RevL, k_Rg1, e_Rg1, k_Rg2, e_Rg2, e_LstRg, e_TupRg, k_EnumT, k_EnumL, e_Enum, k_UL, k_US, k_UT, i_U, e_Disp, e_DNew, k_StarT, e_Star, e_NoPart, k_Part, e_Part, k_SlUT, k_SlUL, k_Sl1, e_SlU, k_SlLL, k_SlLS, e_SlL, k_Split, e_Split, k_Join2, k_Join, e_Join, e_Meth0, g_Seq2T, g_Seq2L, g_Seq3L, g_Seq3T, e_SubU, e_Fld, e_MakeS, k_Cm2, e_Cm2, k_DicF, e_DicF, e_SortS, e_Meth, e_V11, e_V12, e_V13, e_V14, e_V15, e_V16, e_V17, e_V18, e_V19, e_V20, e_V21, e_V22, e_V23, e_V24, e_V25, e_V26, e_V27, e_V28, e_V29, e_V30, k_L0, k_L1, k_L2, k_L3, k_L4, k_L5, k_L6, k_L7, k_L8, k_T0, k_T1, k_T2, k_T3, k_T4, k_T5, k_T6, k_T7, k_T8, lp_nx, lp_ct, u_add, u_int, o_sub, o_cmp, o_neg, o_isN0, o_isN1, o_isI0, o_isI1, p_1_0, p_2_01, p_2_10, p_3_012, p_3_021, p_3_102, p_3_120, p_3_201, p_3_210, List.set_cons_succ, List.set_cons_zero, wipe_cons, wipe_nil, tupl_L, x_ok, k_And0, k_And1, k_Or0, k_Or1, c1]
    rw [r2, go_nx, e_Seq, r3, go_nx]
    exact r
  by_cases q : i = 0
  · exact key 1 g2 (if_pos q)
  · exact key m g1 (if_neg q)
theorem turn2 (s : Sp3 h k) (x1 x2 x3 x4 x5 : Option D) : ∃ y3 y4 y5 h', b__law_right_2 [some (.loc k), x1, x2, x3, x4, x5] h = .nx [some (.loc k), x1, x2, y3, y4, y5] h' ∧ Dr h k h' := by
  obtain ⟨d, h1, e1, d0, d1, t1⟩ := Tb.draw_ok (k := 200) s (by decide) (by decide)
  obtain ⟨x, h2, e2, mx, t2⟩ := Tb.of_ok (ds := [.int 200, .int 128, .int 60, .int (1 + d)]) t1.1 (by simp) (by simp) (fun x hx q => by
    simp only [List.mem_cons, List.not_mem_nil, or_false] at hx
    rcases hx with rfl | rfl | rfl | rfl <;> simp)
  obtain ⟨c, h3, e3, c0, c1, t3⟩ := Tb.draw_ok (k := 1000) t2.1 (by decide) (by decide)
  obtain ⟨n, rfl, n1, n2⟩ : ∃ n : Nat, x = .int (n : Nat) ∧ 1 ≤ n ∧ n ≤ 200 := by
    simp only [List.mem_cons, List.not_mem_nil, or_false] at mx
    rcases mx with rfl | rfl | rfl | rfl
    · exact ⟨200, rfl, by decide, by decide⟩
    · exact ⟨128, rfl, by decide, by decide⟩
    · exact ⟨60, rfl, by decide, by decide⟩
    · exact ⟨(1 + d).toNat, by rw [Int.toNat_of_nonneg (by omega)], by omega, by omega⟩
  obtain ⟨m, em⟩ : ∃ m : Nat, 1 + c = (m : Nat) := ⟨(1 + c).toNat, by omega⟩
  have m1 : 1 ≤ m := by omega
  have m2 : m ≤ 1000 := by omega
  have a1 : kCall 2 F__law_draw [.loc k, .int 200] h = .ok (.int d) h1 := (k_Call rfl).trans e1
  have a2 : kCall 2 F__law_of [.loc k, .lst [.int 200, .int 128, .int 60, .int (1 + d)]] h1 = .ok (.int (n : Nat)) h2 := (k_Call rfl).trans e2
  have a3 : kCall 2 F__law_draw [.loc k, .int 1000] h2 = .ok (.int c) h3 := (k_Call rfl).trans e3
  have ck := kinds_c (n := n) (m := m) n1 n2 m1 m2
  have cm := mean_c (n := n) (m := m) n1 n2 m1 m2
  rw [sums n1 n2] at cm
  have rp := repr_c (val_log (n := n) (m := m) n1 n2 m1 m2)
  have k2 : ∀ (a b : D) (h : AH), kLst [a, b] h = .ok [a, b] h := fun a b h => k_Lst (by simp)
  have k4 : ∀ (a b c d : D) (h : AH), kLst [a, b, c, d] h = .ok [a, b, c, d] h := fun a b c d h => k_Lst (by simp)
  have ne1 := ne_strs (listText [iTx (V n m), iTx (V n m)])
  refine ⟨some (.int (n : Nat)), some (.int (m : Nat)), some (.int (V n m)), h3, ?_, (t1.trans t2).trans t3⟩
  simp only [V] at *
  unfold b__law_right_2
  simp only [b_ok, b_bad, t_ok, t_bad, e_C, e_V0, e_V1, e_V2, e_V3, e_V4, e_V5, e_V6, e_V7, e_V8, e_V9, e_V10, k_Q, k_Bl, k_TruB, k_TruI, k_TruN, k_NotT, k_AndT1, k_AndT0, k_OrT1, k_OrT0, k_And1, k_And0, k_Or1, k_Or0, k_Not, k_If1, k_If0, k_Cons, k_Tup, k_Lst, k_Frz, k_Own, k_Call, k_CallK, k_Chain1, k_Chain0, k_Chain2, e_Chain, e_Bin, e_BinF, e_Un, e_Bl, e_Tru, e_NotT, e_AndT, e_OrT, e_And, e_Or, e_Not, e_If, e_Nil, e_Cons, e_Tup, e_Lst, e_Frz, e_Own, e_CB, e_CBF, e_Call, e_CallP, k_CallKP, e_CallKP, e_CallK, go_nx, go_rt, go_bk, go_ct, e_Next, e_Seq, k_Drop, e_Drop, k_Ret, e_Ret, k_IfS1, k_IfS0, e_IfS, g_Name, g_Nil, g_Cons, g_Tup, k_Nx, k_Asg, e_Asg, k_Par, e_Par, k_Par3, e_Par3, k_Aug2, k_Aug, e_Aug, k_SeqL, k_SeqS, k_SeqT, i_Seq, k_R1, i_R1, k_R2, i_R2, k_For, e_For, k_Turn, k_Lc, e_Lc, k_Wh1, k_Wh0, r_nx, r_rt, x_ok, x_same, k_RevT, e_RevT, k_RevL, e_RevL, k_Rg1, e_Rg1, k_Rg2, e_Rg2, e_LstRg, e_TupRg, k_EnumT, k_EnumL, e_Enum, k_UL, k_US, k_UT, i_U, e_Disp, e_DNew, k_StarT, e_Star, e_NoPart, k_Part, e_Part, k_SlUT, k_SlUL, k_Sl1, e_SlU, k_SlLL, k_SlLS, e_SlL, k_Split, e_Split, k_Join2, k_Join, e_Join, e_Meth0, g_Seq2T, g_Seq2L, g_Seq3L, g_Seq3T, e_SubU, e_Fld, e_MakeS, k_Cm2, e_Cm2, k_DicF, e_DicF, e_SortS, e_Meth, e_V11, e_V12, e_V13, e_V14, e_V15, e_V16, e_V17, e_V18, e_V19, e_V20, e_V21, e_V22, e_V23, e_V24, e_V25, e_V26, e_V27, e_V28, e_V29, e_V30, k_L0, k_L1, k_L2, k_L3, k_L4, k_L5, k_L6, k_L7, k_L8, k_T0, k_T1, k_T2, k_T3, k_T4, k_T5, k_T6, k_T7, k_T8, lp_nx, lp_ct, u_add, u_int, o_sub, o_cmp, o_neg, o_isN0, o_isN1, o_isI0, o_isI1, p_1_0, p_2_01, p_2_10, p_3_012, p_3_021, p_3_102, p_3_120, p_3_201, p_3_210, List.set_cons_succ, List.set_cons_zero, wipe_cons, wipe_nil, tupl_L, x_ok, k_And0, k_And1, k_Or0, k_Or1, a1, k4, a2, a3, em, cm, ck, k2, rp, ne1]
theorem right_ok (s0 : Sp3 h k) (f0 : Fl h) : ∃ h', F__law_right [.loc k] h = .ok (.bl true) h' ∧ Fl h' := by
  have ei : initE 6 [D.loc k] = [some (.loc k), none, none, none, none, none] := rfl
  obtain ⟨env1, h1, e1, x1, x2, x3, x4, x5, rfl, d1⟩ := for_inv (g := mgName 1) (p := b__law_right_1) (fun env h' => ∃ x1 x2 x3 x4 x5 : Option D, env = [some (.loc k), x1, x2, x3, x4, x5] ∧ Dr h k h') (ds := rngD 0 3)
    (env := [some (.loc k), none, none, none, none, none]) (h := h) ⟨_, _, _, _, _, rfl, Dr.refl s0⟩ (by
      rintro d md env h1 ⟨x1, x2, x3, x4, x5, rfl, t⟩
      obtain ⟨i, rfl, i0, i3⟩ := rngD_mem md
      obtain ⟨j, rfl⟩ : ∃ j : Nat, i = j := ⟨i.toNat, by omega⟩
      obtain ⟨y2, y3, y4, y5, h2, e, t2⟩ := turn1 (i := j) t.1 (by omega) x2 x3 x4 x5
      exact ⟨_, _, _, _, rfl, e, _, _, _, _, _, rfl, t.trans t2⟩)
  obtain ⟨env2, h2, e2, y1, y2, y3, y4, y5, rfl, d2⟩ := for_inv (g := mgName 1) (p := b__law_right_2) (fun env h' => ∃ x1 x2 x3 x4 x5 : Option D, env = [some (.loc k), x1, x2, x3, x4, x5] ∧ Dr h k h') (ds := rngD 0 2)
    (env := [some (.loc k), x1, x2, x3, x4, x5]) (h := h1) ⟨_, _, _, _, _, rfl, d1⟩ (by
      rintro d md env h1 ⟨x1, x2, x3, x4, x5, rfl, t⟩
      obtain ⟨y3, y4, y5, h2, e, t2⟩ := turn2 t.1 (some d) x2 x3 x4 x5
      exact ⟨_, _, _, _, rfl, e, _, _, _, _, _, rfl, t.trans t2⟩)
  have r3 : ∀ h : AH, kR1 [.int 3] h = .ok (.items (rngD 0 3)) h := fun h => k_R1 (by decide) (by decide)
  have r2 : ∀ h : AH, kR1 [.int 2] h = .ok (.items (rngD 0 2)) h := fun h => k_R1 (by decide) (by decide)
  refine ⟨h2, ?_, f0.dr d2⟩
  simp only [F__law_right, m__law_right, f_T, ei, b_ok, b_bad, t_ok, t_bad, e_C, e_V0, e_V1, e_V2, e_V3, e_V4, e_V5, e_V6, e_V7, e_V8, e_V9, e_V10, k_Q, k_Bl, k_TruB, k_TruI, k_TruN, k_NotT, k_AndT1, k_AndT0, k_OrT1, k_OrT0, k_And1, k_And0, k_Or1, k_Or0, k_Not, k_If1, k_If0, k_Cons, k_Tup, k_Lst, k_Frz, k_Own, k_Call, k_CallK, k_Chain1, k_Chain0, k_Chain2, e_Chain, e_Bin, e_BinF, e_Un, e_Bl, e_Tru, e_NotT, e_AndT, e_OrT, e_And, e_Or, e_Not, e_If, e_Nil, e_Cons, e_Tup, e_Lst, e_Frz, e_Own, e_CB, e_CBF, e_Call, e_CallP, k_CallKP, e_CallKP, e_CallK, go_nx, go_rt, go_bk, go_ct, e_Next, e_Seq, k_Drop, e_Drop, k_Ret, e_Ret, k_IfS1, k_IfS0, e_IfS, g_Name, g_Nil, g_Cons, g_Tup, k_Nx, k_Asg, e_Asg, k_Par, e_Par, k_Par3, e_Par3, k_Aug2, k_Aug, e_Aug, k_SeqL, k_SeqS, k_SeqT, i_Seq, k_R1, i_R1, k_R2, i_R2, k_For, e_For, k_Turn, k_Lc, e_Lc, k_Wh1, k_Wh0, r_nx, r_rt, x_ok, x_same, k_RevT, e_RevT, k_RevL, e_RevL, k_Rg1, e_Rg1, k_Rg2, e_Rg2, e_LstRg, e_TupRg, k_EnumT, k_EnumL, e_Enum, k_UL, k_US, k_UT, i_U, e_Disp, e_DNew, k_StarT, e_Star, e_NoPart, k_Part, e_Part, k_SlUT, k_SlUL, k_Sl1, e_SlU, k_SlLL, k_SlLS, e_SlL, k_Split, e_Split, k_Join2, k_Join, e_Join, e_Meth0, g_Seq2T, g_Seq2L, g_Seq3L, g_Seq3T, e_SubU, e_Fld, e_MakeS, k_Cm2, e_Cm2, k_DicF, e_DicF, e_SortS, e_Meth, e_V11, e_V12, e_V13, e_V14, e_V15, e_V16, e_V17, e_V18, e_V19, e_V20, e_V21, e_V22, e_V23, e_V24, e_V25, e_V26, e_V27, e_V28, e_V29, e_V30, k_L0, k_L1, k_L2, k_L3, k_L4, k_L5, k_L6, k_L7, k_L8, k_T0, k_T1, k_T2, k_T3, k_T4, k_T5, k_T6, k_T7, k_T8, lp_nx, lp_ct, u_add, u_int, o_sub, o_cmp, o_neg, o_isN0, o_isN1, o_isI0, o_isI1, p_1_0, p_2_01, p_2_10, p_3_012, p_3_021, p_3_102, p_3_120, p_3_201, p_3_210, List.set_cons_succ, List.set_cons_zero, wipe_cons, wipe_nil, tupl_L, x_ok, k_And0, k_And1, k_Or0, k_Or1, r3, r2, e1, e2]
  exact x_same d2.2.1 rfl
end
end K69

namespace K69
open PySem PySem.Spec L2 Ab
open Tb (Fl)
section
/-- the slots behind the first, and the heap, behind a row -/
def outS (N : Nat) : SS → List (Option D) × AH
  | .nx env h => (env.drop 1, h)
  | _ => ([], [])
def st0 : List (Option D) × AH := ([none], [])
theorem len_end : st0.1.length = 1 := by kernel_rfl
theorem law_holds (ns : List Int) (hl : ns.length ≤ 63) : ∃ h', F_law [.scr (ns.map Ab.D.int)] [] = .ok (.bl true) h' := by
  obtain ⟨h', e⟩ := Tb.tail (FS := F__law_spring) rfl (fun h k s f => right_ok s f) (W := 5) (by decide) (by decide) (iv := 1) (r := st0.1) hl (by rw [len_end]; decide) (by decide) (h := []) Tb.fl_nil
  refine Tb.law_of (N := 2) (m := m_law) rfl (h2 := h') ?_
  have ei : initE 2 [D.scr (ns.map .int)] = some (.scr (ns.map .int)) :: st0.1 := rfl
  have e0 : ([] : AH) = st0.2 := rfl
  unfold m_law
  rw [ei, e0]
  exact e
end
end K69

theorem PySem.Challenge.cw_turnedblind_k69_whole_kinds_of_rings_holds : PySem.Challenge.rw_turnedblind_k69_whole_kinds_of_rings.Holds :=
  K69.fits K69.law_holds
