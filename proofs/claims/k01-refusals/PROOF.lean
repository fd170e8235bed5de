import PyProof.Rows.All
import Wide.All
import OpenK.AllK
import Wide.FinOn
import HandS.ForMost
import HandS.More
import HandS.Walk
import HandS.Wide
import HandS.Defaults
import HandS.Deep
import HandS.IsInst
import HandS.ExcInit
import HandS.TupAny
import HandS.TupMul
import HandS.Style
import HandS.Rev
import HandS.Zip
import KE.KExcInit
import KE.KExcIs
import PyProof.ExcBaseAll.LookupError
import PyProof.ExcBaseAll.IndexError
import PyProof.ExcBaseAll.ValueError
import HandS.ClsMeth
import HandS.MakeKwOnly
import HandS.GenList
import HandS.NoneIn
import HandS.HeadHook3
import HandS.Codes
import PySem.Challenge.RW_leastmaker_k01_refusals
import KE.KStateDown
import HandS.Head0
import HandS.Head1
import HandS.Head2
import HandS.HeadEnd
import HandS.HeadHook1
import HandS.HeadHook2
set_option Elab.async false
set_option linter.all false
set_option maxRecDepth 100000
set_option maxHeartbeats 0
section
set_option Elab.async false
set_option linter.all false
set_option maxRecDepth 100000
/-! Ev1: values as plain data (D), what stands for them in the abstract heap, who owns what may change. -/
namespace Ev
open PySem PySem.Spec PyProof.Rows L2

inductive D where
  | non
  | bl (b : Bool)
  | int (i : Int)
  | str (x : Str)
  | tup (xs : List D)
  | lst (xs : List D)
  | dic (t : Nat) (kvs : List (D × D))
  | exc (C : Nat) (ns : List Str) (ds : List D)
  | scr (ns : List Int)
abbrev Env := List (Option D)
def keyD : Key → D
  | .inl i => .int i
  | .inr s => .str s

inductive DicF (H : Hp) (a : Addr) : Nat → List (D × V) → Prop
  | k {ks : List (Key × V)} : H a = some (.dK ks) → DicF H a 0 (ks.map fun p => (keyD p.1, p.2))
  | t {ks : List (List Key × V)} : H a = some (.dT ks) → DicF H a 1 (ks.map fun p => (D.tup (p.1.map keyD), p.2))
def ScrK (K : PySem.W.Frag) (a : Addr) (xs : List V) : Prop :=
  ∃ (o : Obj) (its : Array Value) (n : Nat), K.lookup a = some o ∧ o.cls = .type "list" ∧ o.dict = none ∧ o.data = .seq its n ∧ its.size ≤ sizeLine ∧ Vals xs its.toList

mutual
inductive RepD (K : PySem.W.Frag) (w : World) (Z : Addr → Prop) (H : Hp) : V → D → Prop
  | non : RepD K w Z H .non .non
  | bl (b : Bool) : RepD K w Z H (.bl b) (.bl b)
  | int (i : Int) : RepD K w Z H (.int i) (.int i)
  | str (x : Str) : RepD K w Z H (.str x) (.str x)
  | tup {a : Addr} {vs : List V} {ds : List D} : SqT K H a vs → RepL K w Z H vs ds → RepD K w Z H (.ref a) (.tup ds)
  | lst {a : Addr} {vs : List V} {ds : List D} : H a = some (.lst vs) → Z a → RepL K w Z H vs ds → RepD K w Z H (.ref a) (.lst ds)
  | dic {a : Addr} {t : Nat} {ks : List (D × V)} {kvs : List (D × D)} : DicF H a t ks → Z a → RepK K w Z H ks kvs → RepD K w Z H (.ref a) (.dic t kvs)
  | kdic {a : Addr} {es : Array DictEntry} {n : Nat} {ks : List (Str × V)} {kvs : List (D × D)} : KDict K w a es n → (∀ z : Str, ∃ r, PySem.W.nsIn K a z = some r ∧ RelO (ks.lookup z) r) →
      RepK K w Z H (ks.map fun p => (D.str p.1, p.2)) kvs → RepD K w Z H (.ref a) (.dic 0 kvs)
  | exc {a C dx : Addr} {ns : List Str} {vs : List V} {ds : List D} : H a = some (exo a C (some dx)) → Z a → H dx = some (exd dx (ns.zip vs)) → Z dx → ns.length = ds.length → RepL K w Z H vs ds → RepD K w Z H (.ref a) (.exc C ns ds)
  | exc0 {a C : Addr} : H a = some (exo a C none) → Z a → RepD K w Z H (.ref a) (.exc C [] [])
  | scr {a : Addr} {ns : List Int} : (Rd H a (.lst (ns.map V.int)) ∧ Z a) ∨ ScrK K a (ns.map V.int) → RepD K w Z H (.ref a) (.scr ns)
inductive RepL (K : PySem.W.Frag) (w : World) (Z : Addr → Prop) (H : Hp) : List V → List D → Prop
  | nil : RepL K w Z H [] []
  | cons {v : V} {d : D} {vs : List V} {ds : List D} : RepD K w Z H v d → RepL K w Z H vs ds → RepL K w Z H (v :: vs) (d :: ds)
inductive RepK (K : PySem.W.Frag) (w : World) (Z : Addr → Prop) (H : Hp) : List (D × V) → List (D × D) → Prop
  | nil : RepK K w Z H [] []
  | cons {k : D} {v : V} {d : D} {ks : List (D × V)} {kvs : List (D × D)} : RepD K w Z H v d → RepK K w Z H ks kvs → RepK K w Z H ((k, v) :: ks) ((k, d) :: kvs)
end

/-- an owned container: its addresses -/
inductive RO (K : PySem.W.Frag) (w : World) (Z : Addr → Prop) (H : Hp) : List Addr → V → D → Prop
  | lst {a : Addr} {vs : List V} {ds : List D} : H a = some (.lst vs) → RepL K w Z H vs ds → RO K w Z H [a] (.ref a) (.lst ds)
  | dic {a : Addr} {t : Nat} {ks : List (D × V)} {kvs : List (D × D)} : DicF H a t ks → RepK K w Z H ks kvs → RO K w Z H [a] (.ref a) (.dic t kvs)
/-- what may be looked at: known for good, or owned -/
inductive RepX (K : PySem.W.Frag) (w : World) (Z : Addr → Prop) (H : Hp) : V → D → Prop
  | d {v : V} {d : D} : RepD K w Z H v d → RepX K w Z H v d
  | o {G : List Addr} {v : V} {d : D} : RO K w Z H G v d → RepX K w Z H v d

abbrev Fts := Nat → List Addr
structure St' (K : PySem.W.Frag) (w : World) (O : Nat → Bool) (Z : Addr → Prop) (F : Fts) (H : Hp) (σ : L2.St) (env : Env) : Prop where
  len : env.length = σ.length
  frz : ∀ i d, env[i]? = some (some d) → O i = false → ∃ v, σ[i]? = some (some v) ∧ RepD K w Z H v d
  own : ∀ i d, env[i]? = some (some d) → O i = true → ∃ v, σ[i]? = some (some v) ∧ RO K w Z H (F i) v d
  sep : ∀ i j a, a ∈ F i → a ∈ F j → i = j
  fz : ∀ i a, a ∈ F i → ¬ Z a ∧ Mut (H a)
  zh : ∀ a, Z a → H a ≠ none
structure Step (Z : Addr → Prop) (F : Fts) (H : Hp) (Z' : Addr → Prop) (F' : Fts) (H' : Hp) : Prop where
  keep : ∀ a o, H a = some o → (∀ i, a ∉ F i) → H' a = some o
  zs : ∀ a, Z a → Z' a
  zn : ∀ a, Z' a → Z a ∨ H a = none ∨ ∃ i, a ∈ F i
  fn : ∀ i a, a ∈ F' i → H a = none ∨ ∃ j, a ∈ F j
  al : ∀ a, H a ≠ none → H' a ≠ none

section
variable {K : PySem.W.Frag} {w : World} {O : Nat → Bool} {Z Z' Z2 : Addr → Prop} {F F' F2 : Fts} {H H' H2 : Hp} {σ : L2.St} {env : Env}
theorem Step.refl : Step Z F H Z F H := ⟨fun _ _ e _ => e, fun _ z => z, fun _ z => .inl z, fun i a h => .inr ⟨i, h⟩, fun _ h => h⟩
theorem Step.trans (s : Step Z F H Z' F' H') (t : Step Z' F' H' Z2 F2 H2) : Step Z F H Z2 F2 H2 := by
  have fr : ∀ a, H' a = none → H a = none := fun a h => by
    cases e : H a with
    | none => rfl
    | some o => exact absurd h (s.al a (by rw [e]; intro q; cases q))
  refine ⟨fun a o e h => t.keep a o (s.keep a o e h) fun i hi => ?_, fun a z => t.zs a (s.zs a z), fun a z => ?_, fun i a hi => ?_, fun a h => t.al a (s.al a h)⟩
  · rcases s.fn i a hi with q | ⟨j, q⟩
    · rw [q] at e; cases e
    · exact h j q
  · rcases t.zn a z with q | q | ⟨i, q⟩
    · exact s.zn a q
    · exact .inr (.inl (fr a q))
    · rcases s.fn i a q with q | q
      · exact .inr (.inl q)
      · exact .inr (.inr q)
  · rcases t.fn i a hi with q | ⟨j, q⟩
    · exact .inl (fr a q)
    · exact s.fn j a q

/-- the heap grows by new objects, some of them for good -/
structure Grow (Z : Addr → Prop) (H : Hp) (Z' : Addr → Prop) (H' : Hp) : Prop where
  keep : ∀ a o, H a = some o → H' a = some o
  zs : ∀ a, Z a → Z' a
  zn : ∀ a, Z' a → Z a ∨ H a = none
  zh : ∀ a, Z' a → H' a ≠ none
theorem Grow.refl (h : ∀ a, Z a → H a ≠ none) : Grow Z H Z H := ⟨fun _ _ e => e, fun _ z => z, fun _ z => .inl z, h⟩
theorem Grow.new {p : Addr} {o : HO} (h : ∀ a, Z a → H a ≠ none) (hp : H p = none) : Grow Z H (fun a => Z a ∨ a = p) (upd H p o) := by
  have ne : ∀ a, H a ≠ none → a ≠ p := fun a ha e => ha (by rw [e]; exact hp)
  refine ⟨fun a u e => ?_, fun a z => .inl z, fun a z => ?_, fun a z => ?_⟩
  · rw [upd_ne (ne a (by rw [e]; intro q; cases q))]; exact e
  · rcases z with z | rfl
    · exact .inl z
    · exact .inr hp
  · rcases z with z | rfl
    · rw [upd_ne (ne a (h a z))]; exact h a z
    · rw [upd_same]; intro q; cases q
theorem Grow.new0 {p : Addr} {o : HO} (h : ∀ a, Z a → H a ≠ none) (hp : H p = none) : Grow Z H Z (upd H p o) :=
  ⟨(Grow.new h hp).keep, fun _ z => z, fun _ z => .inl z, fun a z => (Grow.new (o := o) h hp).zh a (.inl z)⟩
theorem Grow.trans (s : Grow Z H Z' H') (t : Grow Z' H' Z2 H2) : Grow Z H Z2 H2 := by
  refine ⟨fun a o e => t.keep a o (s.keep a o e), fun a z => t.zs a (s.zs a z), fun a z => ?_, t.zh⟩
  rcases t.zn a z with q | q
  · exact s.zn a q
  · cases e : H a with
    | none => exact .inr rfl
    | some o => rw [s.keep a o e] at q; cases q
end

/-! ### what is known for good stays so -/
section
variable {K : PySem.W.Frag} {w : World} {Z Z' : Addr → Prop} {H H' : Hp}
/-- tuples, locked things and what is in Z are kept -/
structure Kp (Z : Addr → Prop) (H : Hp) (Z' : Addr → Prop) (H' : Hp) : Prop where
  z : ∀ a o, Z a → H a = some o → H' a = some o
  zs : ∀ a, Z a → Z' a
  t : ∀ a xs, H a = some (.tup xs) → H' a = some (.tup xs)
  f : ∀ a o u, H a = some (.frz o u) → H' a = some (.frz o u)
theorem Kp.rdT (k : Kp Z H Z' H') {a : Addr} {xs : List V} (h : SqT K H a xs) : SqT K H' a xs := by
  rcases h with (h | ⟨o, h⟩) | h
  · exact .inl (.inl (k.t a xs h))
  · exact .inl (.inr ⟨o, k.f a o _ h⟩)
  · exact .inr h
theorem Kp.dicF (k : Kp Z H Z' H') {a : Addr} {t : Nat} {ks : List (D × V)} (hz : Z a) (h : DicF H a t ks) : DicF H' a t ks := by
  cases h with
  | k h => exact .k (k.z a _ hz h)
  | t h => exact .t (k.z a _ hz h)
mutual
theorem RepD.kp (k : Kp Z H Z' H') : ∀ {v : V} {d : D}, RepD K w Z H v d → RepD K w Z' H' v d
  | _, _, .non => .non
  | _, _, .bl b => .bl b
  | _, _, .int i => .int i
  | _, _, .str x => .str x
  | _, _, .tup h r => .tup (k.rdT h) (RepL.kp k r)
  | _, _, .lst h z r => .lst (k.z _ _ z h) (k.zs _ z) (RepL.kp k r)
  | _, _, .dic h z r => .dic (k.dicF z h) (k.zs _ z) (RepK.kp k r)
  | _, _, .kdic h e r => .kdic h e (RepK.kp k r)
  | _, _, .exc h z e y l r => .exc (k.z _ _ z h) (k.zs _ z) (k.z _ _ y e) (k.zs _ y) l (RepL.kp k r)
  | _, _, .exc0 h z => .exc0 (k.z _ _ z h) (k.zs _ z)
  | _, _, .scr h => .scr (by
      rcases h with ⟨h | ⟨o, h⟩, z⟩ | h
      · exact .inl ⟨.inl (k.z _ _ z h), k.zs _ z⟩
      · exact .inl ⟨.inr ⟨o, k.z _ _ z h⟩, k.zs _ z⟩
      · exact .inr h)
theorem RepL.kp (k : Kp Z H Z' H') : ∀ {vs : List V} {ds : List D}, RepL K w Z H vs ds → RepL K w Z' H' vs ds
  | _, _, .nil => .nil
  | _, _, .cons r s => .cons (RepD.kp k r) (RepL.kp k s)
theorem RepK.kp (k : Kp Z H Z' H') : ∀ {ks : List (D × V)} {kvs : List (D × D)}, RepK K w Z H ks kvs → RepK K w Z' H' ks kvs
  | _, _, .nil => .nil
  | _, _, .cons r s => .cons (RepD.kp k r) (RepK.kp k s)
end
end
section
variable {K : PySem.W.Frag} {w : World} {O : Nat → Bool} {Z Z' Z2 : Addr → Prop} {F F' F2 : Fts} {H H' H2 : Hp} {σ : L2.St} {env env' : Env}
theorem Grow.kp (g : Grow Z H Z' H') : Kp Z H Z' H' := ⟨fun a o _ e => g.keep a o e, g.zs, fun a xs e => g.keep a _ e, fun a o u e => g.keep a _ e⟩
theorem St'.out (s : St' K w O Z F H σ env) {a : Addr} {o : HO} (e : H a = some o) (nm : ¬ Mut (some o)) : ∀ i, a ∉ F i := fun i hi => by
  have := (s.fz i a hi).2
  rw [e] at this
  exact nm this
theorem St'.kp (s : St' K w O Z F H σ env) (t : Step Z F H Z' F' H') : Kp Z H Z' H' :=
  ⟨fun a o z e => t.keep a o e fun i hi => (s.fz i a hi).1 z, t.zs, fun a xs e => t.keep a _ e (s.out e fun z => z), fun a o u e => t.keep a _ e (s.out e fun z => z)⟩
theorem RO.kp {G : List Addr} {v : V} {d : D} (k : Kp Z H Z' H') (kg : ∀ a ∈ G, ∀ o, H a = some o → H' a = some o) (r : RO K w Z H G v d) : RO K w Z' H' G v d := by
  cases r with
  | lst h r => exact .lst (kg _ (by simp) _ h) (r.kp k)
  | dic h r =>
    refine .dic ?_ (r.kp k)
    cases h with
    | k h => exact .k (kg _ (by simp) _ h)
    | t h => exact .t (kg _ (by simp) _ h)
theorem RepX.grow {v : V} {d : D} (g : Grow Z H Z' H') (r : RepX K w Z H v d) : RepX K w Z' H' v d := by
  cases r with
  | d r => exact .d (r.kp g.kp)
  | o r => exact .o (r.kp g.kp fun a _ o e => g.keep a o e)
theorem RO.mut {G : List Addr} {v : V} {d : D} (r : RO K w Z H G v d) : ∀ a ∈ G, Mut (H a) := by
  cases r with
  | lst h r =>
    intro a ha
    rw [List.mem_singleton.mp ha, h]; trivial
  | dic h r =>
    intro a ha
    rw [List.mem_singleton.mp ha]
    cases h with
    | k h => rw [h]; trivial
    | t h => rw [h]; trivial
theorem St'.grow (s : St' K w O Z F H σ env) (g : Grow Z H Z' H') : St' K w O Z' F H' σ env ∧ Step Z F H Z' F H' := by
  have mk : ∀ i a, a ∈ F i → ∃ o, H a = some o ∧ Mut (some o) := fun i a hi => by
    have := (s.fz i a hi).2
    cases e : H a with
    | none => rw [e] at this; exact this.elim
    | some o => rw [e] at this; exact ⟨o, rfl, this⟩
  refine ⟨⟨s.len, fun i d e o => ?_, fun i d e o => ?_, s.sep, fun i a hi => ⟨fun z => ?_, ?_⟩, g.zh⟩, ⟨fun a o e _ => g.keep a o e, g.zs, fun a z => ?_, fun i a hi => .inr ⟨i, hi⟩, fun a h => ?_⟩⟩
  · obtain ⟨v, e1, r⟩ := s.frz i d e o
    exact ⟨v, e1, r.kp g.kp⟩
  · obtain ⟨v, e1, r⟩ := s.own i d e o
    exact ⟨v, e1, r.kp g.kp fun a _ o e => g.keep a o e⟩
  · obtain ⟨o, e, _⟩ := mk i a hi
    rcases g.zn a z with q | q
    · exact (s.fz i a hi).1 q
    · rw [q] at e; cases e
  · obtain ⟨o, e, m⟩ := mk i a hi
    rw [g.keep a o e]; exact m
  · rcases g.zn a z with q | q
    · exact .inl q
    · exact .inr (.inl q)
  · cases e : H a with
    | none => exact absurd e h
    | some o => rw [g.keep a o e]; intro q; cases q
end
end Ev

end

section
set_option Elab.async false
set_option linter.all false
set_option maxRecDepth 100000
/-! Ev2: expressions as functions of the slots' data. -/
namespace Ev
open PySem PySem.Spec PyProof.Rows L2

abbrev EF := Env → Option (D × Env)
abbrev Rd1 := Env → Option D
abbrev QF := Env → Option (Rd1 × Env)
abbrev TF := Env → Option (Bool × Env)
abbrev AF := Env → Option (List Rd1 × Env)
section
variable (K : PySem.W.Frag) (w : World) (O : Nat → Bool)
def tE (f : EF) : TE := fun σ H Q => ∃ Z F env d env1, St' K w O Z F H σ env ∧ f env = some (d, env1) ∧
  ∀ v Z1 F1 H1, St' K w O Z1 F1 H1 σ env1 → Step Z F H Z1 F1 H1 → RepD K w Z1 H1 v d → Q v H1
/-- v may be read as r says, from here on -/
def Held (Z : Addr → Prop) (F : Fts) (H : Hp) (σ : L2.St) (v : V) (r : Rd1) : Prop :=
  ∀ Z2 F2 H2 env2 d, St' K w O Z2 F2 H2 σ env2 → Step Z F H Z2 F2 H2 → r env2 = some d → RepX K w Z2 H2 v d
def tQ (q : QF) : TE := fun σ H Q => ∃ Z F env r env1, St' K w O Z F H σ env ∧ q env = some (r, env1) ∧
  ∀ v Z1 F1 H1, St' K w O Z1 F1 H1 σ env1 → Step Z F H Z1 F1 H1 → Held K w O Z1 F1 H1 σ v r → Q v H1
def tT (f : TF) : TT := fun σ H Q => ∃ Z F env b env1, St' K w O Z F H σ env ∧ f env = some (b, env1) ∧
  ∀ Z1 F1 H1, St' K w O Z1 F1 H1 σ env1 → Step Z F H Z1 F1 H1 → Q b H1
def HeldAll (Z : Addr → Prop) (F : Fts) (H : Hp) (σ : L2.St) (vs : List V) (rs : List Rd1) : Prop :=
  Paired (fun v r => Held K w O Z F H σ v r) vs rs
def tA (a : AF) : TA := fun σ H Q => ∃ Z F env rs env1, St' K w O Z F H σ env ∧ a env = some (rs, env1) ∧
  ∀ vs Z1 F1 H1, St' K w O Z1 F1 H1 σ env1 → Step Z F H Z1 F1 H1 → HeldAll K w O Z1 F1 H1 σ vs rs → Q vs H1
end
section
variable {K : PySem.W.Frag} {w : World} {O : Nat → Bool} {Z Z' Z1 Z2 : Addr → Prop} {F F' F1 F2 : Fts} {H H' H1 H2 : Hp} {σ : L2.St} {env env' env1 : Env}
theorem Held.step {v : V} {r : Rd1} (h : Held K w O Z F H σ v r) (s : Step Z F H Z' F' H') : Held K w O Z' F' H' σ v r :=
  fun Z2 F2 H2 env2 d a b c => h Z2 F2 H2 env2 d a (s.trans b) c
theorem Held.of {v : V} {d : D} (s : St' K w O Z F H σ env) (r : RepD K w Z H v d) : Held K w O Z F H σ v fun _ => some d :=
  fun Z2 F2 H2 env2 d2 a b c => by cases c; exact .d (r.kp (s.kp b))
theorem HeldAll.step {vs : List V} {rs : List Rd1} (h : HeldAll K w O Z F H σ vs rs) (s : Step Z F H Z' F' H') : HeldAll K w O Z' F' H' σ vs rs := by
  induction h with
  | nil => exact .nil
  | cons r _ ih => exact .cons (r.step s) ih
end
theorem _root_.L2.PE.mono {X : Cx} {e : Expr} {t t' : TE} (h : PE X e t) (m : ∀ σ H Q, t' σ H Q → t σ H Q) : PE X e t' :=
  ⟨fun pins s σ H Q I q => h.run pins s σ H Q I (m σ H Q q)⟩
theorem _root_.L2.PT.mono {X : Cx} {e : Expr} {t t' : TT} (h : PT X e t) (m : ∀ σ H Q, t' σ H Q → t σ H Q) : PT X e t' :=
  ⟨fun pins s σ H Q I q => h.run pins s σ H Q I (m σ H Q q)⟩
theorem _root_.L2.PA.mono {X : Cx} {e : List Expr} {t t' : TA} (h : PA X e t) (m : ∀ σ H Q, t' σ H Q → t σ H Q) : PA X e t' :=
  ⟨fun pos pins s σ H Q I q => h.run pos pins s σ H Q I (m σ H Q q)⟩
theorem _root_.L2.PS.mono {X : Cx} {e : Stmt} {t t' : TS} (h : PS X e t) (m : ∀ D σ H, t' D σ H → t D σ H) : PS X e t' :=
  ⟨fun pins s σ H D I q => h.run pins s σ H D I (m D σ H q)⟩
theorem _root_.L2.PSs.mono {X : Cx} {e : List Stmt} {t t' : TS} (h : PSs X e t) (m : ∀ D σ H, t' D σ H → t D σ H) : PSs X e t' :=
  ⟨fun pins s σ H D I q => h.run pins s σ H D I (m D σ H q)⟩

/-! ### the semantic words -/
def eC (d : D) : EF := fun env => some (d, env)
def eV (i : Nat) : EF := fun env => (env[i]?.join).map fun d => (d, env)
def qE (f : EF) : QF := fun env => (f env).map fun p => (fun _ => some p.1, p.2)
/-- an owned slot, looked at -/
def qV (i : Nat) : QF := fun env => (env[i]?.join).map fun _ => (fun e => e[i]?.join, env)
def e2 (g : D → D → Option D) (a b : QF) : EF := fun env => (a env).bind fun p => (b p.2).bind fun q => (p.1 q.2).bind fun x => (q.1 q.2).bind fun y => (g x y).map fun d => (d, q.2)
def e1 (g : D → Option D) (a : QF) : EF := fun env => (a env).bind fun p => (p.1 p.2).bind fun x => (g x).map fun d => (d, p.2)
def aN : AF := fun env => some ([], env)
def aC (a : QF) (r : AF) : AF := fun env => (a env).bind fun p => (r p.2).map fun q => (p.1 :: q.1, q.2)
def reads : List Rd1 → Env → Option (List D)
  | [], _ => some []
  | r :: rs, e => (r e).bind fun d => (reads rs e).map fun ds => d :: ds
def eA (g : List D → Option D) (a : AF) : EF := fun env => (a env).bind fun p => (reads p.1 p.2).bind fun xs => (g xs).map fun d => (d, p.2)

section
variable {X : Cx} {O : Nat → Bool} {a b e : Expr} {es : List Expr} {pos : Pos}
theorem pe_v {i : Nat} {x : Str} (hN : X.N[i]? = some x) (hv : Vis X.env.scope x) (ho : O i = false) (hd : (x == ("__debug__" : Str)) = false) (hcd : (x == ("__classdict__" : Str)) = false) : PE X (.Name x pos) (tE X.K X.w O (eV i)) := by
  refine (pe_var hN hv hd hcd).mono fun σ H Q h => ?_
  obtain ⟨Z, F, env, d, env1, s, e, k⟩ := h
  unfold eV at e
  cases q : env[i]? with
  | none => rw [q] at e; cases e
  | some o =>
    cases o with
    | none => rw [q] at e; cases e
    | some d' =>
      rw [q] at e; cases e
      obtain ⟨v, e1, r⟩ := s.frz i _ q ho
      exact ⟨v, e1, k v Z F H s Step.refl r⟩
theorem pq_v {i : Nat} {x : Str} (hN : X.N[i]? = some x) (hv : Vis X.env.scope x) (ho : O i = true) (hd : (x == ("__debug__" : Str)) = false) (hcd : (x == ("__classdict__" : Str)) = false) : PE X (.Name x pos) (tQ X.K X.w O (qV i)) := by
  refine (pe_var hN hv hd hcd).mono fun σ H Q h => ?_
  obtain ⟨Z, F, env, r, env1, s, e, k⟩ := h
  unfold qV at e
  cases q : env[i]? with
  | none => rw [q] at e; cases e
  | some o =>
    cases o with
    | none => rw [q] at e; cases e
    | some d' =>
      rw [q] at e; cases e
      obtain ⟨v, e1, _⟩ := s.own i _ q ho
      refine ⟨v, e1, k v Z F H s Step.refl fun Z2 F2 H2 env2 d s2 _ c => ?_⟩
      have c : env2[i]?.join = some d := c
      cases q2 : env2[i]? with
      | none => rw [q2] at c; cases c
      | some o2 =>
        rw [q2] at c
        cases o2 with
        | none => cases c
        | some d2 =>
          cases c
          obtain ⟨v2, e2, r2⟩ := s2.own i _ q2 ho
          rw [e1] at e2; cases e2
          exact .o r2
theorem pq_e {f : EF} (h : PE X a (tE X.K X.w O f)) : PE X a (tQ X.K X.w O (qE f)) := by
  refine h.mono fun σ H Q h => ?_
  obtain ⟨Z, F, env, r, env1, s, e, k⟩ := h
  unfold qE at e
  cases q : f env with
  | none => rw [q] at e; cases e
  | some p =>
    rw [q] at e; cases e
    exact ⟨Z, F, env, p.1, p.2, s, q, fun v Z1 F1 H1 s1 t r => k v Z1 F1 H1 s1 t (Held.of s1 r)⟩
theorem tE_c {v : V} {d : D} (h : PE X e (tC v)) (r : ∀ Z H, RepD X.K X.w Z H v d) : PE X e (tE X.K X.w O (eC d)) := by
  refine h.mono fun σ H Q h => ?_
  obtain ⟨Z, F, env, d', env1, s, e, k⟩ := h
  cases e
  exact k v Z F H s Step.refl (r _ _)
theorem de_int {i j} : PE X (.Constant (.int i) j pos) (tE X.K X.w O (eC (.int i))) := tE_c pe_int fun _ _ => .int _
theorem de_bl {b j} : PE X (.Constant (.bool b) j pos) (tE X.K X.w O (eC (.bl b))) := tE_c pe_bl fun _ _ => .bl _
theorem de_non {j} : PE X (.Constant .none j pos) (tE X.K X.w O (eC .non)) := tE_c pe_non fun _ _ => .non
theorem de_str {x j} : PE X (.Constant (.str x) j pos) (tE X.K X.w O (eC (.str x))) := tE_c pe_str fun _ _ => .str _
/-- a module's constant -/
theorem de_glob {x : Str} {v : V} {u : Value} {d : D} (hg : Gl X x) (hm : X.mg x = some u) (r : RelV v u) (hd : (x == ("__debug__" : Str)) = false) (rd : ∀ Z H, RepD X.K X.w Z H v d) : PE X (.Name x pos) (tE X.K X.w O (eC d)) :=
  tE_c (pe_glob hg hm r hd) rd

/-! ### operators -/
/-- r, a rule by values, gives what g says of the data -/
def Ok2 (K : PySem.W.Frag) (w : World) (r : R2) (g : D → D → Option D) : Prop :=
  ∀ Z H x y a b d Q, (∀ p, Z p → H p ≠ none) → RepX K w Z H x a → RepX K w Z H y b → g a b = some d → (∀ v Z' H', Grow Z H Z' H' → RepD K w Z' H' v d → Q v H') → r x y H Q
theorem two {qa qb : QF} {g : D → D → Option D} {r : R2} (ok : Ok2 X.K X.w r g) {σ : L2.St} {H : Hp} {Q : VK} (h : tE X.K X.w O (e2 g qa qb) σ H Q) : tOp r (tQ X.K X.w O qa) (tQ X.K X.w O qb) σ H Q := by
  obtain ⟨Z, F, env, d, env1, s, e, k⟩ := h
  obtain ⟨⟨ra, ea⟩, e1, e⟩ := Option.bind_eq_some_iff.mp e
  obtain ⟨⟨rb, eb⟩, e2, e⟩ := Option.bind_eq_some_iff.mp e
  obtain ⟨x, e3, e⟩ := Option.bind_eq_some_iff.mp e
  obtain ⟨y, e4, e⟩ := Option.bind_eq_some_iff.mp e
  obtain ⟨d', e5, e⟩ := Option.map_eq_some_iff.mp e
  cases e
  refine ⟨Z, F, env, ra, ea, s, e1, fun v Z1 F1 H1 s1 t1 h1 => ⟨Z1, F1, ea, rb, eb, s1, e2, fun u Z2 F2 H2 s2 t2 h2 => ?_⟩⟩
  refine ok Z2 H2 v u x y _ _ s2.zh (h1 Z2 F2 H2 eb x s2 t2 e3) (h2 Z2 F2 H2 eb y s2 Step.refl e4) e5 fun v' Z' H' g' r' => ?_
  obtain ⟨s3, t3⟩ := s2.grow g'
  exact k v' Z' F2 H' s3 ((t1.trans t2).trans t3) r'
theorem de_op {op : Operator} {r : R2} {qa qb : QF} {g : D → D → Option D} (ho : OpR X (binaryOp op) r) (ok : Ok2 X.K X.w r g) (ha : PE X a (tQ X.K X.w O qa)) (hb : PE X b (tQ X.K X.w O qb)) : PE X (.BinOp a op b pos) (tE X.K X.w O (e2 g qa qb)) :=
  (pe_op ho ha hb).mono fun _ _ _ h => two ok h
theorem de_cmp {op : CmpOp} {r : R2} {qa qb : QF} {g : D → D → Option D} (ho : OpR X (compareOp op) r) (ok : Ok2 X.K X.w r g) (ha : PE X a (tQ X.K X.w O qa)) (hb : PE X b (tQ X.K X.w O qb)) (hm : behindInMarks op b = false) :
    PE X (.Compare a [op] [b] pos) (tE X.K X.w O (e2 g qa qb)) :=
  (pe_cmpR ho ha hb hm).mono fun _ _ _ h => two ok h
theorem de_ix {r : R2} {qa qb : QF} {g : D → D → Option D} (ho : IxR X r) (ok : Ok2 X.K X.w r g) (ha : PE X a (tQ X.K X.w O qa)) (hb : PE X b (tQ X.K X.w O qb)) (hs : PlainIx b) : PE X (.Subscript a b pos) (tE X.K X.w O (e2 g qa qb)) :=
  (pe_ix ho ha hb hs).mono fun _ _ _ h => two ok h
def Ok1 (K : PySem.W.Frag) (w : World) (r : V → Hp → VK → Prop) (g : D → Option D) : Prop :=
  ∀ Z H x a d Q, (∀ p, Z p → H p ≠ none) → RepX K w Z H x a → g a = some d → (∀ v Z' H', Grow Z H Z' H' → RepD K w Z' H' v d → Q v H') → r x H Q
theorem de_un {op : UnaryOp} {r : V → Hp → VK → Prop} {qa : QF} {g : D → Option D} (ho : UnR X (unaryOp op) r) (ok : Ok1 X.K X.w r g) (ha : PE X a (tQ X.K X.w O qa)) : PE X (.UnaryOp op a pos) (tE X.K X.w O (e1 g qa)) := by
  refine (pe_un ho ha).mono fun σ H Q h => ?_
  obtain ⟨Z, F, env, d, env1, s, e, k⟩ := h
  obtain ⟨⟨ra, ea⟩, q1, e⟩ := Option.bind_eq_some_iff.mp e
  obtain ⟨x, e3, e⟩ := Option.bind_eq_some_iff.mp e
  obtain ⟨d', e5, e⟩ := Option.map_eq_some_iff.mp e
  cases e
  refine ⟨Z, F, env, ra, ea, s, q1, fun v Z1 F1 H1 s1 t1 h1 => ?_⟩
  refine ok Z1 H1 v x _ _ s1.zh (h1 Z1 F1 H1 ea x s1 Step.refl e3) e5 fun v' Z' H' g' r' => ?_
  obtain ⟨s3, t3⟩ := s1.grow g'
  exact k v' Z' F1 H' s3 (t1.trans t3) r'

/-! ### arguments, displays, calls of built-ins -/
theorem da_nil : PA X [] (tA X.K X.w O aN) := by
  refine pa_nil.mono fun σ H Q h => ?_
  obtain ⟨Z, F, env, rs, env1, s, e, k⟩ := h
  cases e
  exact k [] Z F H s Step.refl .nil
theorem da_cons {q : QF} {r : AF} (ha : PE X e (tQ X.K X.w O q)) (hr : PA X es (tA X.K X.w O r)) (hs : starEach (e :: es) X.env = (false, eval e X.env) :: starEach es X.env) : PA X (e :: es) (tA X.K X.w O (aC q r)) := by
  refine (pa_cons ha hr hs).mono fun σ H Q h => ?_
  obtain ⟨Z, F, env, rs, env1, s, e, k⟩ := h
  obtain ⟨⟨ra, ea⟩, q1, e⟩ := Option.bind_eq_some_iff.mp e
  obtain ⟨⟨rb, eb⟩, q2, e⟩ := Option.map_eq_some_iff.mp e
  cases e
  refine ⟨Z, F, env, ra, ea, s, q1, fun v Z1 F1 H1 s1 t1 h1 => ⟨Z1, F1, ea, rb, eb, s1, q2, fun vs Z2 F2 H2 s2 t2 h2 => ?_⟩⟩
  exact k (v :: vs) Z2 F2 H2 s2 (t1.trans t2) (.cons (h1.step t2) h2)
inductive RepXs (K : PySem.W.Frag) (w : World) (Z : Addr → Prop) (H : Hp) : List V → List D → Prop
  | nil : RepXs K w Z H [] []
  | cons {v : V} {d : D} {vs : List V} {ds : List D} : RepX K w Z H v d → RepXs K w Z H vs ds → RepXs K w Z H (v :: vs) (d :: ds)
def OkA (K : PySem.W.Frag) (w : World) (r : List V → Hp → VK → Prop) (g : List D → Option D) : Prop :=
  ∀ Z H xs as d Q, (∀ p, Z p → H p ≠ none) → RepXs K w Z H xs as → g as = some d → (∀ v Z' H', Grow Z H Z' H' → RepD K w Z' H' v d → Q v H') → r xs H Q
theorem HeldAll.now {K : PySem.W.Frag} {w : World} {Z : Addr → Prop} {F : Fts} {H : Hp} {σ : L2.St} {env : Env} (s : St' K w O Z F H σ env) : ∀ {vs : List V} {rs : List Rd1} {ds : List D}, HeldAll K w O Z F H σ vs rs → reads rs env = some ds → RepXs K w Z H vs ds
  | _, _, _, .nil, e => by cases e; exact .nil
  | _, _, _, .cons h t, e => by
    obtain ⟨d, q1, e⟩ := Option.bind_eq_some_iff.mp e
    obtain ⟨ds, q2, e⟩ := Option.map_eq_some_iff.mp e
    cases e
    exact .cons (h Z F H env d s Step.refl q1) (HeldAll.now s t q2)
theorem many {af : AF} {g : List D → Option D} {r : List V → Hp → VK → Prop} (ok : OkA X.K X.w r g) {σ : L2.St} {H : Hp} {Q : VK} (h : tE X.K X.w O (eA g af) σ H Q) : tA X.K X.w O af σ H fun vs H1 => r vs H1 Q := by
  obtain ⟨Z, F, env, d, env1, s, e, k⟩ := h
  obtain ⟨⟨rs, ea⟩, q1, e⟩ := Option.bind_eq_some_iff.mp e
  obtain ⟨xs, e3, e⟩ := Option.bind_eq_some_iff.mp e
  obtain ⟨d', e5, e⟩ := Option.map_eq_some_iff.mp e
  cases e
  refine ⟨Z, F, env, rs, ea, s, q1, fun vs Z1 F1 H1 s1 t1 h1 => ?_⟩
  refine ok Z1 H1 vs xs _ _ s1.zh (HeldAll.now s1 h1 e3) e5 fun v' Z' H' g' r' => ?_
  obtain ⟨s3, t3⟩ := s1.grow g'
  exact k v' Z' F1 H' s3 (t1.trans t3) r'
theorem de_callB {id : String} {r : List V → Hp → VK → Prop} {x : Str} {p : Pos} {af : AF} {g : List D → Option D} (hc : CallR X (.builtin id) r) (ok : OkA X.K X.w r g) (hg : Gl X x) (hm : X.mg x = none) (hv : bootBuiltins x = some (.builtin id)) (ha : PA X (e :: es) (tA X.K X.w O af))
    (hn : x ≠ "__name__") (hdb : (x == ("__debug__" : Str)) = false) (he : starEach (e :: es) X.env = (false, eval e X.env) :: starEach es X.env) (hpl : (backTo pos (starEach es X.env)).any (·.1) = false) : PE X (.Call (.Name x p) (e :: es) [] pos) (tE X.K X.w O (eA g af)) :=
  (pe_callB hc hg hm hv ha hn hdb he hpl).mono fun _ _ _ h => many ok h
theorem de_callT {id : String} {r : List V → Hp → VK → Prop} {x : Str} {p : Pos} {af : AF} {g : List D → Option D} (hc : CallR X (.type id) r) (ok : OkA X.K X.w r g) (hg : Gl X x) (hm : X.mg x = none) (hv : bootBuiltins x = some (.type id)) (ha : PA X (e :: es) (tA X.K X.w O af))
    (hn : x ≠ "__name__") (hdb : (x == ("__debug__" : Str)) = false) (he : starEach (e :: es) X.env = (false, eval e X.env) :: starEach es X.env) (hpl : (backTo pos (starEach es X.env)).any (·.1) = false) : PE X (.Call (.Name x p) (e :: es) [] pos) (tE X.K X.w O (eA g af)) :=
  (pe_callTy hc hg hm hv ha hn hdb he hpl).mono fun _ _ _ h => many ok h
end
end Ev

end

section
set_option Elab.async false
set_option linter.all false
set_option maxRecDepth 100000
/-! Ev3: displays, what is owned, slices, tests. -/
namespace Ev
open PySem PySem.Spec PyProof.Rows L2
abbrev LF := Env → Option (List D × Env)
abbrev PF := Env → Option (Option Int × Env)
def Sep (Z : Addr → Prop) (F : Fts) (H : Hp) (Z1 : Addr → Prop) (F1 : Fts) (G : List Addr) : Prop :=
  ∀ a ∈ G, ¬ Z1 a ∧ (∀ i, a ∉ F1 i) ∧ (H a = none ∨ ∃ i, a ∈ F i)
section
variable (K : PySem.W.Frag) (w : World) (O : Nat → Bool)
/-- a fresh container, nobody's yet -/
def tO (f : EF) : TE := fun σ H Q => ∃ Z F env d env1, St' K w O Z F H σ env ∧ f env = some (d, env1) ∧
  ∀ v Z1 F1 H1 G, St' K w O Z1 F1 H1 σ env1 → Step Z F H Z1 F1 H1 → RO K w Z1 H1 G v d → Sep Z F H Z1 F1 G → Q v H1
def tF (a : LF) : TA := fun σ H Q => ∃ Z F env ds env1, St' K w O Z F H σ env ∧ a env = some (ds, env1) ∧
  ∀ vs Z1 F1 H1, St' K w O Z1 F1 H1 σ env1 → Step Z F H Z1 F1 H1 → RepL K w Z1 H1 vs ds → Q vs H1
def tP (a : PF) : TO := fun σ H Q => ∃ Z F env o env1, St' K w O Z F H σ env ∧ a env = some (o, env1) ∧
  ∀ Z1 F1 H1, St' K w O Z1 F1 H1 σ env1 → Step Z F H Z1 F1 H1 → Q o H1
end
section
variable {K : PySem.W.Frag} {w : World} {O : Nat → Bool} {Z Z' Z1 Z2 : Addr → Prop} {F F' F1 F2 : Fts} {H H' H1 H2 : Hp} {σ : L2.St} {env env' env1 : Env}
theorem RepL.length : ∀ {vs : List V} {ds : List D}, RepL K w Z H vs ds → vs.length = ds.length
  | _, _, .nil => rfl
  | _, _, .cons _ t => by rw [List.length_cons, List.length_cons, RepL.length t]
theorem RepL.get : ∀ {vs : List V} {ds : List D} {i : Nat} {v : V}, RepL K w Z H vs ds → vs[i]? = some v → ∃ d, ds[i]? = some d ∧ RepD K w Z H v d
  | _, _, _, _, .nil, e => by simp at e
  | _, _, 0, _, .cons r _, e => by simp at e; subst e; exact ⟨_, rfl, r⟩
  | _, _, i + 1, v, .cons _ t, e => by
    obtain ⟨d, h1, h2⟩ := RepL.get (i := i) (v := v) t (by simpa using e)
    exact ⟨d, by simpa using h1, h2⟩
theorem RepL.getD : ∀ {vs : List V} {ds : List D} {i : Nat} {d : D}, RepL K w Z H vs ds → ds[i]? = some d → ∃ v, vs[i]? = some v ∧ RepD K w Z H v d
  | _, _, _, _, .nil, e => by simp at e
  | _, _, 0, _, .cons r _, e => by simp at e; subst e; exact ⟨_, rfl, r⟩
  | _, _, i + 1, v, .cons _ t, e => by
    obtain ⟨d, h1, h2⟩ := RepL.getD (i := i) (d := v) t (by simpa using e)
    exact ⟨d, by simpa using h1, h2⟩
theorem RepL.append : ∀ {vs us : List V} {ds es : List D}, RepL K w Z H vs ds → RepL K w Z H us es → RepL K w Z H (vs ++ us) (ds ++ es)
  | _, _, _, _, .nil, s => s
  | _, _, _, _, .cons r t, s => .cons r (RepL.append t s)
theorem RepL.take : ∀ {vs : List V} {ds : List D} (n : Nat), RepL K w Z H vs ds → RepL K w Z H (vs.take n) (ds.take n)
  | _, _, 0, _ => .nil
  | _, _, _ + 1, .nil => .nil
  | _, _, n + 1, .cons r t => .cons r (RepL.take n t)
theorem RepL.drop : ∀ {vs : List V} {ds : List D} (n : Nat), RepL K w Z H vs ds → RepL K w Z H (vs.drop n) (ds.drop n)
  | _, _, 0, r => r
  | _, _, _ + 1, .nil => .nil
  | _, _, n + 1, .cons r t => RepL.drop n t
theorem RepL.ints : ∀ ns : List Int, RepL K w Z H (ns.map V.int) (ns.map D.int)
  | [] => .nil
  | n :: ns => .cons (.int n) (RepL.ints ns)
/-- Z grows within the same heap -/
theorem kpZ (h : ∀ a, Z a → Z' a) : Kp Z H Z' H := ⟨fun _ _ _ e => e, h, fun _ _ e => e, fun _ _ _ e => e⟩
theorem RO.frz {G : List Addr} {v : V} {d : D} (r : RO K w Z H G v d) : RepD K w (fun a => Z a ∨ a ∈ G) H v d := by
  cases r with
  | lst h r => exact .lst h (.inr (by simp)) (r.kp (kpZ fun _ z => .inl z))
  | dic h r => exact .dic h (.inr (by simp)) (r.kp (kpZ fun _ z => .inl z))
theorem RO.mono {G : List Addr} {v : V} {d : D} (r : RO K w Z H G v d) (h : ∀ a, Z a → Z' a) : RO K w Z' H G v d := r.kp (kpZ h) fun _ _ _ e => e
theorem Mut.ne {o : Option HO} (h : Mut o) : o ≠ none := fun e => by rw [e] at h; exact h
/-- what is nobody's is known for good -/
theorem St'.frzG (s : St' K w O Z1 F1 H1 σ env) {G : List Addr} (sp : Sep Z F H Z1 F1 G) (mu : ∀ a ∈ G, Mut (H1 a)) : St' K w O (fun a => Z1 a ∨ a ∈ G) F1 H1 σ env := by
  refine ⟨s.len, fun i d e o => ?_, fun i d e o => ?_, s.sep, fun i a hi => ⟨fun z => ?_, (s.fz i a hi).2⟩, fun a z => ?_⟩
  · obtain ⟨v, e1, r⟩ := s.frz i d e o
    exact ⟨v, e1, r.kp (kpZ fun _ z => .inl z)⟩
  · obtain ⟨v, e1, r⟩ := s.own i d e o
    exact ⟨v, e1, r.mono fun _ z => .inl z⟩
  · rcases z with z | z
    · exact (s.fz i a hi).1 z
    · exact (sp a z).2.1 i hi
  · rcases z with z | z
    · exact s.zh a z
    · exact Mut.ne (mu a z)
theorem Step.frzG (t : Step Z F H Z1 F1 H1) {G : List Addr} (sp : Sep Z F H Z1 F1 G) : Step Z F H (fun a => Z1 a ∨ a ∈ G) F1 H1 := by
  refine ⟨t.keep, fun a z => .inl (t.zs a z), fun a z => ?_, t.fn, t.al⟩
  rcases z with z | z
  · exact t.zn a z
  · exact .inr (sp a z).2.2
end
section
variable {X : Cx} {O : Nat → Bool} {a b e : Expr} {es : List Expr} {pos : Pos}
/-- a fresh container is given away for good -/
theorem de_frz {f : EF} (h : PE X e (tO X.K X.w O f)) : PE X e (tE X.K X.w O f) := by
  refine h.mono fun σ H Q h => ?_
  obtain ⟨Z, F, env, d, env1, s, e, k⟩ := h
  exact ⟨Z, F, env, d, env1, s, e, fun v Z1 F1 H1 G s1 t1 r sp => k v _ F1 H1 (s1.frzG sp r.mut) (t1.frzG sp) r.frz⟩
def lN : LF := fun env => some ([], env)
def lC (f : EF) (r : LF) : LF := fun env => (f env).bind fun p => (r p.2).map fun q => (p.1 :: q.1, q.2)
theorem dl_nil : PA X [] (tF X.K X.w O lN) := by
  refine pa_nil.mono fun σ H Q h => ?_
  obtain ⟨Z, F, env, rs, env1, s, e, k⟩ := h
  cases e
  exact k [] Z F H s Step.refl .nil
theorem dl_cons {f : EF} {r : LF} (ha : PE X e (tE X.K X.w O f)) (hr : PA X es (tF X.K X.w O r)) (hs : starEach (e :: es) X.env = (false, eval e X.env) :: starEach es X.env) : PA X (e :: es) (tF X.K X.w O (lC f r)) := by
  refine (pa_cons ha hr hs).mono fun σ H Q h => ?_
  obtain ⟨Z, F, env, ds, env1, s, e, k⟩ := h
  obtain ⟨⟨d, ea⟩, q1, e⟩ := Option.bind_eq_some_iff.mp e
  obtain ⟨⟨rb, eb⟩, q2, e⟩ := Option.map_eq_some_iff.mp e
  cases e
  refine ⟨Z, F, env, d, ea, s, q1, fun v Z1 F1 H1 s1 t1 h1 => ⟨Z1, F1, ea, rb, eb, s1, q2, fun vs Z2 F2 H2 s2 t2 h2 => ?_⟩⟩
  exact k (v :: vs) Z2 F2 H2 s2 (t1.trans t2) (.cons (h1.kp (s1.kp t2)) h2)
theorem lineN : sizeLine = 16777216 := sizeLine_eq
def eTup (a : LF) : EF := fun env => (a env).bind fun p => if p.1.length ≤ 16777216 then some (.tup p.1, p.2) else none
def eLst (a : LF) : EF := fun env => (a env).bind fun p => if p.1.length ≤ 16777216 then some (.lst p.1, p.2) else none
theorem de_tup {a : LF} {x1} (h : PA X es (tF X.K X.w O a)) : PE X (.Tuple es x1 pos) (tE X.K X.w O (eTup a)) := by
  refine (pe_tup h).mono fun σ H Q h => ?_
  obtain ⟨Z, F, env, d, env1, s, e, k⟩ := h
  obtain ⟨⟨ds, ea⟩, q1, e⟩ := Option.bind_eq_some_iff.mp e
  split at e
  · rename_i hl
    cases e
    refine ⟨Z, F, env, ds, _, s, q1, fun vs Z1 F1 H1 s1 t1 h1 => ⟨by rw [h1.length, lineN]; exact hl, fun p hp => ?_⟩⟩
    have g := Grow.new0 (o := .tup vs) s1.zh hp
    obtain ⟨s2, t2⟩ := s1.grow g
    exact k (.ref p) Z1 F1 _ s2 (t1.trans t2) (.tup (SqT.of upd_same) (h1.kp g.kp))
  · cases e
theorem sepNew {K : PySem.W.Frag} {w : World} {Z Z1 : Addr → Prop} {F F1 : Fts} {H H1 : Hp} {σ : L2.St} {env : Env} {p : Addr} {o : HO} (s : St' K w O Z1 F1 H1 σ env) (t : Step Z F H Z1 F1 H1) (hp : H1 p = none) : Sep Z F H Z1 F1 [p] := by
  intro a ha
  rw [List.mem_singleton.mp ha]
  refine ⟨fun z => s.zh p z hp, fun i hi => ?_, ?_⟩
  · exact Mut.ne (s.fz i p hi).2 hp
  · cases e : H p with
    | none => exact .inl rfl
    | some u => exact absurd hp (t.al p (by rw [e]; intro q; cases q))
theorem do_lst {a : LF} (h : PA X es (tF X.K X.w O a)) : PE X (.List es pos) (tO X.K X.w O (eLst a)) := by
  refine (pe_lst h).mono fun σ H Q h => ?_
  obtain ⟨Z, F, env, d, env1, s, e, k⟩ := h
  obtain ⟨⟨ds, ea⟩, q1, e⟩ := Option.bind_eq_some_iff.mp e
  split at e
  · rename_i hl
    cases e
    refine ⟨Z, F, env, ds, _, s, q1, fun vs Z1 F1 H1 s1 t1 h1 => ⟨by rw [h1.length, lineN]; exact hl, fun p hp => ?_⟩⟩
    have g := Grow.new0 (o := .lst vs) s1.zh hp
    obtain ⟨s2, t2⟩ := s1.grow g
    exact k (.ref p) Z1 F1 _ [p] s2 (t1.trans t2) (.lst upd_same (h1.kp g.kp)) (sepNew (o := .lst vs) s1 t1 hp)
  · cases e

/-! ### slices -/
def pN : PF := fun env => some (none, env)
def pS (f : EF) : PF := fun env => (f env).bind fun p => match p.1 with
  | .int i => some (some i, p.2)
  | _ => none
theorem dp_none : PO X none (tP X.K X.w O pN) := by
  refine ⟨fun pins s σ H Q I h => po_none.run pins s σ H Q I ?_⟩
  obtain ⟨Z, F, env, o, env1, s, e, k⟩ := h
  cases e
  exact k Z F H s Step.refl
theorem dp_some {f : EF} (h : PE X e (tE X.K X.w O f)) : PO X (some e) (tP X.K X.w O (pS f)) := by
  refine ⟨fun pins s σ H Q I hq => (po_some h).run pins s σ H Q I ?_⟩
  obtain ⟨Z, F, env, o, env1, s, e, k⟩ := hq
  obtain ⟨⟨d, ea⟩, q1, e⟩ := Option.bind_eq_some_iff.mp e
  cases d with
  | int i =>
    cases e
    refine ⟨Z, F, env, _, ea, s, q1, fun v Z1 F1 H1 s1 t1 h1 => ?_⟩
    cases h1
    exact ⟨i, rfl, k Z1 F1 H1 s1 t1⟩
  | _ => cases e
def eSl (g : D → Option Int → Option Int → Option D) (a : QF) (lo hi : PF) : EF := fun env => (a env).bind fun p => (lo p.2).bind fun l => (hi l.2).bind fun h => (p.1 h.2).bind fun x => (g x l.1 h.1).map fun d => (d, h.2)
def OkS (K : PySem.W.Frag) (w : World) (r : V → Option Int → Option Int → Hp → VK → Prop) (g : D → Option Int → Option Int → Option D) : Prop :=
  ∀ Z H x a lo hi d Q, (∀ p, Z p → H p ≠ none) → RepX K w Z H x a → g a lo hi = some d → (∀ v Z' H', Grow Z H Z' H' → RepD K w Z' H' v d → Q v H') → r x lo hi H Q
theorem de_sl {r : V → Option Int → Option Int → Hp → VK → Prop} {g : D → Option Int → Option Int → Option D} {qa : QF} {pl ph : PF} {lo hi : Option Expr} {p2 : Pos} (hr : SlR X r) (ok : OkS X.K X.w r g) (ha : PE X a (tQ X.K X.w O qa)) (hl : PO X lo (tP X.K X.w O pl)) (hh : PO X hi (tP X.K X.w O ph)) :
    PE X (.Subscript a (.Slice lo hi none p2) pos) (tE X.K X.w O (eSl g qa pl ph)) := by
  refine (pe_slice hr ha hl hh).mono fun σ H Q h => ?_
  obtain ⟨Z, F, env, d, env1, s, e, k⟩ := h
  obtain ⟨⟨ra, ea⟩, q1, e⟩ := Option.bind_eq_some_iff.mp e
  obtain ⟨⟨ol, eb⟩, q2, e⟩ := Option.bind_eq_some_iff.mp e
  obtain ⟨⟨oh, ec⟩, q3, e⟩ := Option.bind_eq_some_iff.mp e
  obtain ⟨x, e3, e⟩ := Option.bind_eq_some_iff.mp e
  obtain ⟨d', e5, e⟩ := Option.map_eq_some_iff.mp e
  cases e
  refine ⟨Z, F, env, ra, ea, s, q1, fun v Z1 F1 H1 s1 t1 h1 => ⟨Z1, F1, ea, ol, eb, s1, q2, fun Z2 F2 H2 s2 t2 => ⟨Z2, F2, eb, oh, ec, s2, q3, fun Z3 F3 H3 s3 t3 => ?_⟩⟩⟩
  refine ok Z3 H3 v x ol oh _ _ s3.zh (h1 Z3 F3 H3 ec x s3 (t2.trans t3) e3) e5 fun v' Z' H' g' r' => ?_
  obtain ⟨s4, t4⟩ := s3.grow g'
  exact k v' Z' F3 H' s4 ((t1.trans (t2.trans t3)).trans t4) r'

/-! ### tests -/
def tB1 (f : EF) : TF := fun env => (f env).bind fun p => match p.1 with
  | .bl b => some (b, p.2)
  | _ => none
def tNot1 (f : TF) : TF := fun env => (f env).map fun p => (!p.1, p.2)
def tAnd1 (f g : TF) : TF := fun env => (f env).bind fun p => if p.1 = true then g p.2 else some (false, p.2)
def tOr1 (f g : TF) : TF := fun env => (f env).bind fun p => if p.1 = true then some (true, p.2) else g p.2
theorem RepD.blv {K : PySem.W.Frag} {w : World} {Z : Addr → Prop} {H : Hp} {v : V} {b : Bool} (r : RepD K w Z H v (.bl b)) : v = .bl b := by cases r; rfl
theorem RepD.intv {K : PySem.W.Frag} {w : World} {Z : Addr → Prop} {H : Hp} {v : V} {b : Int} (r : RepD K w Z H v (.int b)) : v = .int b := by cases r; rfl
theorem RepD.strv {K : PySem.W.Frag} {w : World} {Z : Addr → Prop} {H : Hp} {v : V} {b : Str} (r : RepD K w Z H v (.str b)) : v = .str b := by cases r; rfl
theorem RepD.nonv {K : PySem.W.Frag} {w : World} {Z : Addr → Prop} {H : Hp} {v : V} (r : RepD K w Z H v .non) : v = .non := by cases r; rfl
theorem tt_of {f : EF} {σ : L2.St} {H : Hp} {Q : Bool → Hp → Prop} (h : tT X.K X.w O (tB1 f) σ H Q) : tE X.K X.w O f σ H fun x H1 => ∃ c, x = .bl c ∧ Q c H1 := by
  obtain ⟨Z, F, env, b, env1, s, e, k⟩ := h
  obtain ⟨⟨d, ea⟩, q1, e⟩ := Option.bind_eq_some_iff.mp e
  cases d with
  | bl c =>
    cases e
    exact ⟨Z, F, env, _, ea, s, q1, fun v Z1 F1 H1 s1 t1 h1 => ⟨b, h1.blv, k Z1 F1 H1 s1 t1⟩⟩
  | _ => cases e
theorem dt_val {f : EF} (h : PE X e (tE X.K X.w O f)) (he : ∀ whole, isTrue e X.env whole = (do let v ← whole; standAt e.pos; holding [v] (truthy v))) : PT X e (tT X.K X.w O (tB1 f)) :=
  (pt_val h he).mono fun _ _ _ h => tt_of h
theorem dt_cmp {op : CmpOp} {r : R2} {qa qb : QF} {g : D → D → Option D} (ho : OpR X (compareOp op) r) (ok : Ok2 X.K X.w r g) (ha : PE X a (tQ X.K X.w O qa)) (hb : PE X b (tQ X.K X.w O qb)) (hm : behindInMarks op b = false) :
    PT X (.Compare a [op] [b] pos) (tT X.K X.w O (tB1 (e2 g qa qb))) :=
  (pt_cmpR ho ha hb hm).mono fun _ _ _ h => two ok (tt_of h)
theorem dt_not {f : TF} (h : PT X a (tT X.K X.w O f)) : PT X (.UnaryOp .Not a pos) (tT X.K X.w O (tNot1 f)) := by
  refine (pt_not h).mono fun σ H Q h => ?_
  obtain ⟨Z, F, env, b, env1, s, e, k⟩ := h
  obtain ⟨⟨c, ea⟩, q1, e⟩ := Option.map_eq_some_iff.mp e
  cases e
  exact ⟨Z, F, env, c, ea, s, q1, k⟩
theorem _root_.L2.PW.mono {X : Cx} {e : Expr} {t t' : TT} (h : PW X e t) (m : ∀ σ H Q, t' σ H Q → t σ H Q) : PW X e t' :=
  ⟨fun wh pins s σ H Q I q => h.run wh pins s σ H Q I (m σ H Q q)⟩
theorem dw_and1 {f : TF} (h : PT X a (tT X.K X.w O f)) : PW X (.BoolOp .And [a] pos) (tT X.K X.w O f) := pw_and1 h
theorem dw_or1 {f : TF} (h : PT X a (tT X.K X.w O f)) : PW X (.BoolOp .Or [a] pos) (tT X.K X.w O f) := pw_or1 h
theorem dw_and {f g : TF} {rest : List Expr} (h : PT X a (tT X.K X.w O f)) (h2 : PW X (.BoolOp .And (b :: rest) pos) (tT X.K X.w O g)) : PW X (.BoolOp .And (a :: b :: rest) pos) (tT X.K X.w O (tAnd1 f g)) := by
  refine (pw_and h h2).mono fun σ H Q h => ?_
  obtain ⟨Z, F, env, b, env1, s, e, k⟩ := h
  obtain ⟨⟨c, ea⟩, q1, e⟩ := Option.bind_eq_some_iff.mp e
  refine ⟨Z, F, env, c, ea, s, q1, fun Z1 F1 H1 s1 t1 => ?_⟩
  cases c with
  | true =>
    rw [if_pos rfl] at e ⊢
    exact ⟨Z1, F1, ea, b, env1, s1, e, fun Z2 F2 H2 s2 t2 => k Z2 F2 H2 s2 (t1.trans t2)⟩
  | false =>
    rw [if_neg Bool.false_ne_true] at e ⊢
    cases e
    exact k Z1 F1 H1 s1 t1
theorem dw_or {f g : TF} {rest : List Expr} (h : PT X a (tT X.K X.w O f)) (h2 : PW X (.BoolOp .Or (b :: rest) pos) (tT X.K X.w O g)) : PW X (.BoolOp .Or (a :: b :: rest) pos) (tT X.K X.w O (tOr1 f g)) := by
  refine (pw_or h h2).mono fun σ H Q h => ?_
  obtain ⟨Z, F, env, b, env1, s, e, k⟩ := h
  obtain ⟨⟨c, ea⟩, q1, e⟩ := Option.bind_eq_some_iff.mp e
  refine ⟨Z, F, env, c, ea, s, q1, fun Z1 F1 H1 s1 t1 => ?_⟩
  cases c with
  | false =>
    rw [if_neg Bool.false_ne_true] at e ⊢
    exact ⟨Z1, F1, ea, b, env1, s1, e, fun Z2 F2 H2 s2 t2 => k Z2 F2 H2 s2 (t1.trans t2)⟩
  | true =>
    rw [if_pos rfl] at e ⊢
    cases e
    exact k Z1 F1 H1 s1 t1
/-- and, or, not as values, of truths -/
def vAnd (f g : EF) : EF := fun env => (f env).bind fun p => match p.1 with
  | .bl true => g p.2
  | .bl false => some (.bl false, p.2)
  | _ => none
def vOr (f g : EF) : EF := fun env => (f env).bind fun p => match p.1 with
  | .bl true => some (.bl true, p.2)
  | .bl false => g p.2
  | _ => none
def vNot (f : EF) : EF := fun env => (f env).bind fun p => match p.1 with
  | .bl b => some (.bl (!b), p.2)
  | _ => none
def vIf (c : TF) (f g : EF) : EF := fun env => (c env).bind fun p => if p.1 = true then f p.2 else g p.2
theorem de_one {op} {f : EF} (h : PE X a (tE X.K X.w O f)) : PE X (.BoolOp op [a] pos) (tE X.K X.w O f) := pe_one h
theorem de_and {f g : EF} {rest : List Expr} (h : PE X a (tE X.K X.w O f)) (h2 : PE X (.BoolOp .And (b :: rest) pos) (tE X.K X.w O g)) : PE X (.BoolOp .And (a :: b :: rest) pos) (tE X.K X.w O (vAnd f g)) := by
  refine (pe_and h h2).mono fun σ H Q h => ?_
  obtain ⟨Z, F, env, b, env1, s, e, k⟩ := h
  obtain ⟨⟨c, ea⟩, q1, e⟩ := Option.bind_eq_some_iff.mp e
  refine ⟨Z, F, env, c, ea, s, q1, fun v Z1 F1 H1 s1 t1 r1 => ?_⟩
  cases c with
  | bl c =>
    refine ⟨c, r1.blv, ?_⟩
    cases c with
    | true =>
      rw [if_pos rfl]
      exact ⟨Z1, F1, ea, b, env1, s1, e, fun v Z2 F2 H2 s2 t2 => k v Z2 F2 H2 s2 (t1.trans t2)⟩
    | false =>
      rw [if_neg Bool.false_ne_true]
      cases e
      exact k _ Z1 F1 H1 s1 t1 (.bl _)
  | _ => cases e
theorem de_or {f g : EF} {rest : List Expr} (h : PE X a (tE X.K X.w O f)) (h2 : PE X (.BoolOp .Or (b :: rest) pos) (tE X.K X.w O g)) : PE X (.BoolOp .Or (a :: b :: rest) pos) (tE X.K X.w O (vOr f g)) := by
  refine (pe_or h h2).mono fun σ H Q h => ?_
  obtain ⟨Z, F, env, b, env1, s, e, k⟩ := h
  obtain ⟨⟨c, ea⟩, q1, e⟩ := Option.bind_eq_some_iff.mp e
  refine ⟨Z, F, env, c, ea, s, q1, fun v Z1 F1 H1 s1 t1 r1 => ?_⟩
  cases c with
  | bl c =>
    refine ⟨c, r1.blv, ?_⟩
    cases c with
    | false =>
      rw [if_neg Bool.false_ne_true]
      exact ⟨Z1, F1, ea, b, env1, s1, e, fun v Z2 F2 H2 s2 t2 => k v Z2 F2 H2 s2 (t1.trans t2)⟩
    | true =>
      rw [if_pos rfl]
      cases e
      exact k _ Z1 F1 H1 s1 t1 (.bl _)
  | _ => cases e
theorem de_not {f : EF} (h : PE X a (tE X.K X.w O f)) : PE X (.UnaryOp .Not a pos) (tE X.K X.w O (vNot f)) := by
  refine (pe_not h).mono fun σ H Q h => ?_
  obtain ⟨Z, F, env, b, env1, s, e, k⟩ := h
  obtain ⟨⟨c, ea⟩, q1, e⟩ := Option.bind_eq_some_iff.mp e
  refine ⟨Z, F, env, c, ea, s, q1, fun v Z1 F1 H1 s1 t1 r1 => ?_⟩
  cases c with
  | bl c =>
    cases e
    exact ⟨c, r1.blv, k _ Z1 F1 H1 s1 t1 (.bl _)⟩
  | _ => cases e
theorem de_if {c : Expr} {t : TF} {f g : EF} (hc : PT X c (tT X.K X.w O t)) (h : PE X a (tE X.K X.w O f)) (h2 : PE X b (tE X.K X.w O g)) : PE X (.IfExp c a b pos) (tE X.K X.w O (vIf t f g)) := by
  refine (pe_ifExp hc h h2).mono fun σ H Q h => ?_
  obtain ⟨Z, F, env, b, env1, s, e, k⟩ := h
  obtain ⟨⟨c, ea⟩, q1, e⟩ := Option.bind_eq_some_iff.mp e
  refine ⟨Z, F, env, c, ea, s, q1, fun Z1 F1 H1 s1 t1 => ?_⟩
  cases c with
  | true =>
    rw [if_pos rfl] at e ⊢
    exact ⟨Z1, F1, ea, b, env1, s1, e, fun v Z2 F2 H2 s2 t2 => k v Z2 F2 H2 s2 (t1.trans t2)⟩
  | false =>
    rw [if_neg Bool.false_ne_true] at e ⊢
    exact ⟨Z1, F1, ea, b, env1, s1, e, fun v Z2 F2 H2 s2 t2 => k v Z2 F2 H2 s2 (t1.trans t2)⟩
end
end Ev

end

section
set_option Elab.async false
set_option linter.all false
set_option maxRecDepth 100000
/-! Ev4: statements, loops, comprehensions. -/
namespace Ev
open PySem PySem.Spec PyProof.Rows L2
inductive Out where
  | nx | rt (d : D) | bk | ct
abbrev SF := Env → Option (Out × Env)
abbrev GF := D → Env → Option Env
abbrev WF := Env → Option (List D × Env)
section
variable (K : PySem.W.Frag) (w : World) (O P : Nat → Bool) (ro : Bool)
def RtOk (Z : Addr → Prop) (F : Fts) (H : Hp) (Z1 : Addr → Prop) (F1 : Fts) (H1 : Hp) (v : V) (d : D) : Prop :=
  if ro = true then ∃ G, RO K w Z1 H1 G v d ∧ Sep Z F H Z1 F1 G else RepD K w Z1 H1 v d
def Prt (σ σ1 : L2.St) : Prop := ∀ j, P j = true → σ1[j]? = σ[j]?
def OutOk (Z : Addr → Prop) (F : Fts) (H : Hp) (Z1 : Addr → Prop) (F1 : Fts) (H1 : Hp) (Dn : Ends) (σ1 : L2.St) : Out → Prop
  | .nx => Dn.nx σ1 H1
  | .bk => Dn.bk σ1 H1
  | .ct => Dn.ct σ1 H1
  | .rt d => ∀ v, RtOk K w ro Z F H Z1 F1 H1 v d → Dn.rt v H1
def tS (g : SF) : TS := fun Dn σ H => ∃ Z F env out env1, St' K w O Z F H σ env ∧ g env = some (out, env1) ∧
  ∀ σ1 Z1 F1 H1, St' K w O Z1 F1 H1 σ1 env1 → Step Z F H Z1 F1 H1 → Prt P σ σ1 → OutOk K w ro Z F H Z1 F1 H1 Dn σ1 out
def tG (g : GF) : TG := fun v σ H Q => ∃ Z F env d env1, St' K w O Z F H σ env ∧ RepD K w Z H v d ∧ g d env = some env1 ∧
  ∀ σ1, St' K w O Z F H σ1 env1 → Prt P σ σ1 → Q σ1 H
def tI (wf : WF) : TI := fun σ H R => ∃ Z F env ds env1, St' K w O Z F H σ env ∧ wf env = some (ds, env1) ∧
  ∀ J G Y Z1 F1 H1, St' K w O Z1 F1 H1 σ env1 → Step Z F H Z1 F1 H1 → Walk J ds.length G Y → (∀ Z2 F2 H2, Step Z1 F1 H1 Z2 F2 H2 → G H2) →
    (∀ i x Z2 F2 H2 H3, (∀ a, Z2 a → H2 a ≠ none) → Step Z1 F1 H1 Z2 F2 H2 → Y i H2 x H3 → ∃ d Z3, ds[i]? = some d ∧ Grow Z2 H2 Z3 H3 ∧ RepD K w Z3 H3 x d) → R J H1
end
section
variable {K : PySem.W.Frag} {w : World} {O P : Nat → Bool} {ro : Bool} {Z Z' Z1 Z2 : Addr → Prop} {F F' F1 F2 : Fts} {H H' H1 H2 : Hp} {σ σ1 : L2.St} {env env' env1 : Env}
theorem Prt.refl : Prt P σ σ := fun _ _ => rfl
theorem Prt.trans {σ2 : L2.St} (a : Prt P σ σ1) (b : Prt P σ1 σ2) : Prt P σ σ2 := fun j h => (b j h).trans (a j h)
theorem Prt.set {i : Nat} {v : Option V} (h : P i = false) : Prt P σ (σ.set i v) := fun j hj => by
  rw [List.getElem?_set_ne (fun e => by rw [e, hj] at h; cases h)]
theorem Sep.from {G : List Addr} (t : Step Z F H Z1 F1 H1) (s : Sep Z1 F1 H1 Z2 F2 G) : Sep Z F H Z2 F2 G := fun a ha => by
  obtain ⟨h1, h2, h3⟩ := s a ha
  refine ⟨h1, h2, ?_⟩
  rcases h3 with h | ⟨i, h⟩
  · cases e : H a with
    | none => exact .inl rfl
    | some u => exact absurd h (t.al a (by rw [e]; intro q; cases q))
  · exact t.fn i a h
theorem RtOk.from {v : V} {d : D} (t : Step Z F H Z1 F1 H1) (s : RtOk K w ro Z1 F1 H1 Z2 F2 H2 v d) : RtOk K w ro Z F H Z2 F2 H2 v d := by
  unfold RtOk at s ⊢
  split
  · rename_i h
    rw [if_pos h] at s
    obtain ⟨G, r, sp⟩ := s
    exact ⟨G, r, sp.from t⟩
  · rename_i h
    rw [if_neg h] at s
    exact s
theorem OutOk.from {Dn : Ends} {o : Out} (t : Step Z F H Z1 F1 H1) (s : OutOk K w ro Z F H Z2 F2 H2 Dn σ o) : OutOk K w ro Z1 F1 H1 Z2 F2 H2 Dn σ o := by
  cases o with
  | rt d => exact fun v h => s v (h.from t)
  | _ => exact s
/-- a slot of what is known for good is stored -/
theorem St'.set (s : St' K w O Z F H σ env) {i : Nat} {v : V} {d : D} (ho : O i = false) (r : RepD K w Z H v d) : St' K w O Z F H (σ.set i (some v)) (env.set i (some d)) := by
  refine ⟨by rw [List.length_set, List.length_set]; exact s.len, fun j x e o => ?_, fun j x e o => ?_, s.sep, s.fz, s.zh⟩
  · by_cases hj : i = j
    · subst hj
      by_cases hl : i < env.length
      · rw [List.getElem?_set_self hl] at e
        cases e
        exact ⟨v, List.getElem?_set_self (by rw [← s.len]; exact hl), r⟩
      · rw [List.getElem?_eq_none (by simpa using hl)] at e; cases e
    · rw [List.getElem?_set_ne hj] at e ⊢
      exact s.frz j x e o
  · have hj : i ≠ j := fun q => by rw [q, o] at ho; cases ho
    rw [List.getElem?_set_ne hj] at e ⊢
    exact s.own j x e o
/-- a slot is forgotten -/
theorem St'.kill (s : St' K w O Z F H σ env) (i : Nat) : St' K w O Z F H σ (env.set i none) := by
  have pick : ∀ j x, (env.set i none)[j]? = some (some x) → env[j]? = some (some x) := fun j x e => by
    by_cases hj : i = j
    · subst hj
      by_cases hl : i < env.length
      · rw [List.getElem?_set_self hl] at e; cases e
      · rw [List.getElem?_eq_none (by simpa using hl)] at e; cases e
    · rw [List.getElem?_set_ne hj] at e; exact e
  exact ⟨by rw [List.length_set]; exact s.len, fun j x e o => s.frz j x (pick j x e) o, fun j x e o => s.own j x (pick j x e) o, s.sep, s.fz, s.zh⟩
def putF (F : Fts) (i : Nat) (G : List Addr) : Fts := fun j => if j = i then G else F j
theorem putF_ne {F : Fts} {i j : Nat} {G : List Addr} (h : j ≠ i) : putF F i G j = F j := if_neg h
theorem putF_self {F : Fts} {i : Nat} {G : List Addr} : putF F i G i = G := if_pos rfl
/-- an owned slot takes a container that is nobody's -/
theorem St'.setO (s : St' K w O Z1 F1 H1 σ env) {i : Nat} {v : V} {d : D} {G : List Addr} (ho : O i = true) (r : RO K w Z1 H1 G v d) (sp : ∀ a ∈ G, ¬ Z1 a ∧ ∀ i, a ∉ F1 i) :
    St' K w O Z1 (putF F1 i G) H1 (σ.set i (some v)) (env.set i (some d)) := by
  refine ⟨by rw [List.length_set, List.length_set]; exact s.len, fun j x e o => ?_, fun j x e o => ?_, fun j l a hj hl => ?_, fun j a hj => ?_, s.zh⟩
  · have hj : i ≠ j := fun q => by rw [q, o] at ho; cases ho
    rw [List.getElem?_set_ne hj] at e ⊢
    exact s.frz j x e o
  · by_cases hj : i = j
    · subst hj
      by_cases hl : i < env.length
      · rw [List.getElem?_set_self hl] at e
        cases e
        exact ⟨v, List.getElem?_set_self (by rw [← s.len]; exact hl), by rw [putF_self]; exact r⟩
      · rw [List.getElem?_eq_none (by simpa using hl)] at e; cases e
    · rw [List.getElem?_set_ne hj] at e ⊢
      rw [putF_ne (Ne.symm hj)]
      exact s.own j x e o
  · by_cases h1 : j = i
    · by_cases h2 : l = i
      · rw [h1, h2]
      · rw [h1, putF_self] at hj
        rw [putF_ne h2] at hl
        exact absurd hl ((sp a hj).2 l)
    · rw [putF_ne h1] at hj
      by_cases h2 : l = i
      · rw [h2, putF_self] at hl
        exact absurd hj ((sp a hl).2 j)
      · rw [putF_ne h2] at hl
        exact s.sep j l a hj hl
  · by_cases h1 : j = i
    · rw [h1, putF_self] at hj
      exact ⟨(sp a hj).1, r.mut a hj⟩
    · rw [putF_ne h1] at hj
      exact s.fz j a hj
theorem Step.setO {i : Nat} {G : List Addr} (t : Step Z F H Z1 F1 H1) (sp : Sep Z F H Z1 F1 G) : Step Z F H Z1 (putF F1 i G) H1 := by
  refine ⟨t.keep, t.zs, t.zn, fun j a hj => ?_, t.al⟩
  by_cases h1 : j = i
  · rw [h1, putF_self] at hj
    exact (sp a hj).2.2
  · rw [putF_ne h1] at hj
    exact t.fn j a hj
end
/-! ### the words -/
def sSeq (a b : SF) : SF := fun env => (a env).bind fun p => match p.1 with
  | .nx => b p.2
  | o => some (o, p.2)
def sNx : SF := fun env => some (.nx, env)
def sPass : SF := sNx
def sBk : SF := fun env => some (.bk, env)
def sCt : SF := fun env => some (.ct, env)
def sEx (f : EF) : SF := fun env => (f env).map fun p => (.nx, p.2)
def sRt (f : EF) : SF := fun env => (f env).map fun p => (.rt p.1, p.2)
def sRtN : SF := fun env => some (.rt .non, env)
/-- an owned slot is handed back -/
def sRtV (i : Nat) : SF := fun env => (env[i]?.join).map fun d => (.rt d, env.set i none)
def sIf (c : TF) (a b : SF) : SF := fun env => (c env).bind fun p => if p.1 = true then a p.2 else b p.2
def sSet (i : Nat) (f : EF) : SF := fun env => (f env).map fun p => (.nx, p.2.set i (some p.1))
def gN (i : Nat) : GF := fun d env => some (env.set i (some d))
def gsN : List D → Env → Option Env
  | [], env => some env
  | _ :: _, _ => none
def gsC (g : GF) (gs : List D → Env → Option Env) : List D → Env → Option Env
  | [], _ => none
  | d :: ds, env => (g d env).bind fun e => gs ds e
def gT (gs : List D → Env → Option Env) : GF := fun d env => match d with
  | .tup ds => gs ds env
  | _ => none
def sAsg (g : GF) (f : EF) : SF := fun env => (f env).bind fun p => (g p.1 p.2).map fun e => (.nx, e)
def forL (g : GF) (b : SF) : List D → Env → Option (Out × Env)
  | [], env => some (.nx, env)
  | d :: ds, env => (g d env).bind fun e => (b e).bind fun p => match p.1 with
    | .nx => forL g b ds p.2
    | .ct => forL g b ds p.2
    | .bk => some (.nx, p.2)
    | .rt r => some (.rt r, p.2)
def sFor (wf : WF) (g : GF) (b : SF) : SF := fun env => (wf env).bind fun p => forL g b p.1 p.2
def whileL : Nat → TF → SF → Env → Option (Out × Env)
  | 0, _, _, _ => none
  | n + 1, c, b, env => (c env).bind fun p => if p.1 = true then (b p.2).bind fun q => match q.1 with
      | .nx => whileL n c b q.2
      | .ct => whileL n c b q.2
      | .bk => some (.nx, q.2)
      | .rt r => some (.rt r, q.2)
    else some (.nx, p.2)
open Classical in
noncomputable def sWhile (c : TF) (b : SF) : SF := fun env => if h : ∃ n, (whileL n c b env).isSome = true then whileL h.choose c b env else none
theorem whileL_mono {c : TF} {b : SF} {r : Out × Env} : ∀ {n m : Nat} {env : Env}, n ≤ m → whileL n c b env = some r → whileL m c b env = some r
  | 0, _, _, _, h => by cases h
  | n + 1, 0, _, hm, _ => by omega
  | n + 1, m + 1, env, hm, h => by
    unfold whileL at h ⊢
    obtain ⟨p, h1, h⟩ := Option.bind_eq_some_iff.mp h
    refine Option.bind_eq_some_iff.mpr ⟨p, h1, ?_⟩
    split at h
    · rename_i hp
      rw [if_pos hp]
      obtain ⟨q, h2, h⟩ := Option.bind_eq_some_iff.mp h
      refine Option.bind_eq_some_iff.mpr ⟨q, h2, ?_⟩
      obtain ⟨o, e⟩ := q
      cases o with
      | nx => exact whileL_mono (by omega) h
      | ct => exact whileL_mono (by omega) h
      | bk => exact h
      | rt r => exact h
    · rename_i hp
      rw [if_neg hp]
      exact h
theorem sWhile_of {c : TF} {b : SF} {r : Out × Env} {n : Nat} {env : Env} (h : whileL n c b env = some r) : sWhile c b env = some r := by
  have hx : ∃ n, (whileL n c b env).isSome = true := ⟨n, by rw [h]; rfl⟩
  unfold sWhile
  rw [dif_pos hx]
  obtain ⟨r', hr⟩ := Option.isSome_iff_exists.mp hx.choose_spec
  rw [hr]
  rcases Nat.le_total n hx.choose with z | z
  · rw [whileL_mono z h] at hr; exact hr.symm
  · rw [whileL_mono z hr] at h; exact h
theorem sWhile_inv {c : TF} {b : SF} {r : Out × Env} {env : Env} (h : sWhile c b env = some r) : ∃ n, whileL n c b env = some r := by
  unfold sWhile at h
  split at h
  · exact ⟨_, h⟩
  · cases h
section
variable {X : Cx} {O P : Nat → Bool} {ro : Bool} {a b e : Expr} {es : List Expr} {st : Stmt} {sts : List Stmt} {pos : Pos}
theorem ds_nil : PSs X [] (tS X.K X.w O P ro sNx) := by
  refine pss_nil.mono fun Dn σ H h => ?_
  obtain ⟨Z, F, env, out, env1, s, e, k⟩ := h
  cases e
  exact k σ Z F H s Step.refl Prt.refl
theorem ds_cons {f g : SF} (h1 : PS X st (tS X.K X.w O P ro f)) (h2 : PSs X sts (tS X.K X.w O P ro g)) : PSs X (st :: sts) (tS X.K X.w O P ro (sSeq f g)) := by
  refine (pss_cons h1 h2).mono fun Dn σ H h => ?_
  obtain ⟨Z, F, env, out, env1, s, e, k⟩ := h
  obtain ⟨⟨o, ea⟩, q1, e⟩ := Option.bind_eq_some_iff.mp e
  refine ⟨Z, F, env, o, ea, s, q1, fun σ1 Z1 F1 H1 s1 t1 p1 => ?_⟩
  cases o with
  | nx => exact ⟨Z1, F1, ea, out, env1, s1, e, fun σ2 Z2 F2 H2 s2 t2 p2 => (k σ2 Z2 F2 H2 s2 (t1.trans t2) (p1.trans p2)).from t1⟩
  | rt d => cases e; exact k σ1 Z1 F1 H1 s1 t1 p1
  | bk => cases e; exact k σ1 Z1 F1 H1 s1 t1 p1
  | ct => cases e; exact k σ1 Z1 F1 H1 s1 t1 p1
theorem ds_one {f : SF} (h1 : PS X st (tS X.K X.w O P ro f)) : PSs X [st] (tS X.K X.w O P ro f) := pss_one h1
theorem ds_pass : PS X (.Pass pos) (tS X.K X.w O P ro sNx) := by
  refine ps_pass.mono fun Dn σ H h => ?_
  obtain ⟨Z, F, env, out, env1, s, e, k⟩ := h
  cases e
  exact k σ Z F H s Step.refl Prt.refl
theorem ds_continue : PS X (.Continue pos) (tS X.K X.w O P ro sCt) := by
  refine ps_continue.mono fun Dn σ H h => ?_
  obtain ⟨Z, F, env, out, env1, s, e, k⟩ := h
  cases e
  exact k σ Z F H s Step.refl Prt.refl
theorem ds_break : PS X (.Break pos) (tS X.K X.w O P ro sBk) := by
  refine ps_break.mono fun Dn σ H h => ?_
  obtain ⟨Z, F, env, out, env1, s, e, k⟩ := h
  cases e
  exact k σ Z F H s Step.refl Prt.refl
theorem ds_expr {f : EF} (h : PE X e (tE X.K X.w O f)) (hs : swapsWith e none pos.line X.env = pure false) : PS X (.Expr e pos) (tS X.K X.w O P ro (sEx f)) := by
  refine (ps_expr h hs).mono fun Dn σ H h => ?_
  obtain ⟨Z, F, env, out, env1, s, e, k⟩ := h
  obtain ⟨⟨d, ea⟩, q1, e⟩ := Option.map_eq_some_iff.mp e
  cases e
  exact ⟨Z, F, env, d, ea, s, q1, fun v Z1 F1 H1 s1 t1 _ => k σ Z1 F1 H1 s1 t1 Prt.refl⟩
theorem ds_ret {f : EF} (h : PE X e (tE X.K X.w O f)) : PS X (.Return (some e) pos) (tS X.K X.w O P false (sRt f)) := by
  refine (ps_ret h).mono fun Dn σ H h => ?_
  obtain ⟨Z, F, env, out, env1, s, e, k⟩ := h
  obtain ⟨⟨d, ea⟩, q1, e⟩ := Option.map_eq_some_iff.mp e
  cases e
  exact ⟨Z, F, env, d, ea, s, q1, fun v Z1 F1 H1 s1 t1 r1 => k σ Z1 F1 H1 s1 t1 Prt.refl v r1⟩
theorem ds_retO {f : EF} (h : PE X e (tO X.K X.w O f)) : PS X (.Return (some e) pos) (tS X.K X.w O P true (sRt f)) := by
  refine (ps_ret h).mono fun Dn σ H h => ?_
  obtain ⟨Z, F, env, out, env1, s, e, k⟩ := h
  obtain ⟨⟨d, ea⟩, q1, e⟩ := Option.map_eq_some_iff.mp e
  cases e
  exact ⟨Z, F, env, d, ea, s, q1, fun v Z1 F1 H1 G s1 t1 r1 sp => k σ Z1 F1 H1 s1 t1 Prt.refl v ⟨G, r1, sp⟩⟩
theorem ds_retN : PS X (.Return none pos) (tS X.K X.w O P false sRtN) := by
  refine ps_retN.mono fun Dn σ H h => ?_
  obtain ⟨Z, F, env, out, env1, s, e, k⟩ := h
  cases e
  exact k σ Z F H s Step.refl Prt.refl _ .non
theorem ds_retV {i : Nat} {x : Str} {p : Pos} (hN : X.N[i]? = some x) (hv : Vis X.env.scope x) (ho : O i = true) (hp : P i = false) (hd : (x == ("__debug__" : Str)) = false) (hcd : (x == ("__classdict__" : Str)) = false) :
    PS X (.Return (some (.Name x p)) pos) (tS X.K X.w O P true (sRtV i)) := by
  refine (ps_ret (pe_var hN hv hd hcd)).mono fun Dn σ H h => ?_
  obtain ⟨Z, F, env, out, env1, s, e, k⟩ := h
  obtain ⟨d, q1, e⟩ := Option.map_eq_some_iff.mp e
  cases e
  have q : env[i]? = some (some d) := by
    cases z : env[i]? with
    | none => rw [z] at q1; cases q1
    | some o => rw [z] at q1; cases o with
      | none => cases q1
      | some d' => cases q1; rfl
  obtain ⟨v, e1, r⟩ := s.own i d q ho
  refine ⟨v, e1, ?_⟩
  have s1 : St' X.K X.w O Z (putF F i []) H σ (env.set i none) := by
    refine ⟨(s.kill i).len, (s.kill i).frz, fun j x e o => ?_, fun j l a hj hl => ?_, fun j a hj => ?_, s.zh⟩
    · have hj : j ≠ i := fun z => by
        subst z
        by_cases hl : j < env.length
        · rw [List.getElem?_set_self hl] at e; cases e
        · rw [List.getElem?_eq_none (by simpa using hl)] at e; cases e
      rw [putF_ne hj]
      exact (s.kill i).own j x e o
    · by_cases h1 : j = i
      · rw [h1, putF_self] at hj; cases hj
      · by_cases h2 : l = i
        · rw [h2, putF_self] at hl; cases hl
        · rw [putF_ne h1] at hj; rw [putF_ne h2] at hl
          exact s.sep j l a hj hl
    · by_cases h1 : j = i
      · rw [h1, putF_self] at hj; cases hj
      · rw [putF_ne h1] at hj
        exact s.fz j a hj
  have t1 : Step Z F H Z (putF F i []) H := by
    refine ⟨fun _ _ e _ => e, fun _ z => z, fun _ z => .inl z, fun j a hj => ?_, fun _ h => h⟩
    by_cases h1 : j = i
    · rw [h1, putF_self] at hj; cases hj
    · rw [putF_ne h1] at hj; exact .inr ⟨j, hj⟩
  refine k σ Z _ H s1 t1 Prt.refl v ⟨F i, r, fun a ha => ⟨(s.fz i a ha).1, fun j hj => ?_, .inr ⟨i, ha⟩⟩⟩
  by_cases h1 : j = i
  · rw [h1, putF_self] at hj; cases hj
  · rw [putF_ne h1] at hj
    exact h1 (s.sep j i a hj ha)
theorem ds_if {c : Expr} {xs ys : List Stmt} {t : TF} {f g : SF} (hc : PT X c (tT X.K X.w O t)) (h1 : PSs X xs (tS X.K X.w O P ro f)) (h2 : PSs X ys (tS X.K X.w O P ro g)) : PS X (.If c xs ys pos) (tS X.K X.w O P ro (sIf t f g)) := by
  refine (ps_if hc h1 h2).mono fun Dn σ H h => ?_
  obtain ⟨Z, F, env, out, env1, s, e, k⟩ := h
  obtain ⟨⟨d, ea⟩, q1, e⟩ := Option.bind_eq_some_iff.mp e
  refine ⟨Z, F, env, d, ea, s, q1, fun Z1 F1 H1 s1 t1 => ?_⟩
  cases d with
  | true =>
    rw [if_pos rfl] at e ⊢
    exact ⟨Z1, F1, ea, out, env1, s1, e, fun σ2 Z2 F2 H2 s2 t2 p2 => (k σ2 Z2 F2 H2 s2 (t1.trans t2) p2).from t1⟩
  | false =>
    rw [if_neg Bool.false_ne_true] at e ⊢
    exact ⟨Z1, F1, ea, out, env1, s1, e, fun σ2 Z2 F2 H2 s2 t2 p2 => (k σ2 Z2 F2 H2 s2 (t1.trans t2) p2).from t1⟩
theorem ds_set {i : Nat} {x : Str} {f : EF} {pos' : Pos} (hN : X.N.Nodup) (hi : X.N[i]? = some x) (hx : Loc X.env.scope x) (ho : O i = false) (hp : P i = false) (he : PE X e (tE X.K X.w O f)) (hs : swapsWith e (some (.Name x pos')) pos.line X.env = pure false)
    (hf : X.fn x = true ∨ X.env.scope.names.lookup x = some .local) : PS X (.Assign [.Name x pos'] e pos) (tS X.K X.w O P ro (sSet i f)) := by
  refine (ps_set hN hi hx he hs hf).mono fun Dn σ H h => ?_
  obtain ⟨Z, F, env, out, env1, s, e, k⟩ := h
  obtain ⟨⟨d, ea⟩, q1, e⟩ := Option.map_eq_some_iff.mp e
  cases e
  exact ⟨Z, F, env, d, ea, s, q1, fun v Z1 F1 H1 s1 t1 r1 => k _ Z1 F1 H1 (s1.set ho r1) t1 (Prt.set hp)⟩
theorem ds_setO {i : Nat} {x : Str} {f : EF} {pos' : Pos} (hN : X.N.Nodup) (hi : X.N[i]? = some x) (hx : Loc X.env.scope x) (ho : O i = true) (hp : P i = false) (he : PE X e (tO X.K X.w O f)) (hs : swapsWith e (some (.Name x pos')) pos.line X.env = pure false)
    (hf : X.fn x = true ∨ X.env.scope.names.lookup x = some .local) : PS X (.Assign [.Name x pos'] e pos) (tS X.K X.w O P ro (sSet i f)) := by
  refine (ps_set hN hi hx he hs hf).mono fun Dn σ H h => ?_
  obtain ⟨Z, F, env, out, env1, s, e, k⟩ := h
  obtain ⟨⟨d, ea⟩, q1, e⟩ := Option.map_eq_some_iff.mp e
  cases e
  exact ⟨Z, F, env, d, ea, s, q1, fun v Z1 F1 H1 G s1 t1 r1 sp => k _ Z1 _ H1 (s1.setO ho r1 fun a ha => ⟨(sp a ha).1, (sp a ha).2.1⟩) (t1.setO sp) (Prt.set hp)⟩
/-! targets -/
def tGs (K : PySem.W.Frag) (w : World) (O P : Nat → Bool) (g : List D → Env → Option Env) : TGs := fun vs σ H Q => ∃ Z F env ds env1, St' K w O Z F H σ env ∧ RepL K w Z H vs ds ∧ g ds env = some env1 ∧
  ∀ σ1, St' K w O Z F H σ1 env1 → Prt P σ σ1 → Q σ1 H
theorem _root_.L2.PG.mono {X : Cx} {e : Expr} {t t' : TG} (h : PG X e t) (m : ∀ v σ H Q, t' v σ H Q → t v σ H Q) : PG X e t' :=
  ⟨fun pins s σ H v u Q I r q => h.run pins s σ H v u Q I r (m v σ H Q q)⟩
theorem _root_.L2.PGs.mono {X : Cx} {e : List Expr} {t t' : TGs} (h : PGs X e t) (m : ∀ v σ H Q, t' v σ H Q → t v σ H Q) : PGs X e t' :=
  ⟨fun pins s σ H v u Q I r q => h.run pins s σ H v u Q I r (m v σ H Q q)⟩
theorem dg_name {i : Nat} {x : Str} (hN : X.N.Nodup) (hi : X.N[i]? = some x) (hx : Loc X.env.scope x) (ho : O i = false) (hp : P i = false) (hf : X.fn x = true ∨ X.env.scope.names.lookup x = some .local) : PG X (.Name x pos) (tG X.K X.w O P (gN i)) := by
  refine (pg_name hN hi hx hf).mono fun v σ H Q h => ?_
  obtain ⟨Z, F, env, d, env1, s, r, e, k⟩ := h
  cases e
  exact k _ (s.set ho r) (Prt.set hp)
theorem dgs_nil : PGs X [] (tGs X.K X.w O P gsN) := by
  refine pgs_nil.mono fun vs σ H Q h => ?_
  obtain ⟨Z, F, env, ds, env1, s, r, e, k⟩ := h
  cases r with
  | nil => cases e; exact ⟨rfl, k σ s Prt.refl⟩
  | cons _ _ => cases e
theorem dgs_cons {g : GF} {gs : List D → Env → Option Env} (h1 : PG X e (tG X.K X.w O P g)) (h2 : PGs X es (tGs X.K X.w O P gs))
    (hs : (assignEach (e :: es) X.env).map (·.2) = assign e X.env :: (assignEach es X.env).map (·.2)) : PGs X (e :: es) (tGs X.K X.w O P (gsC g gs)) := by
  refine (pgs_cons h1 h2 hs).mono fun vs σ H Q h => ?_
  obtain ⟨Z, F, env, ds, env1, s, r, e, k⟩ := h
  cases r with
  | nil => cases e
  | cons r1 r2 =>
    obtain ⟨ea, q1, e⟩ := Option.bind_eq_some_iff.mp e
    exact ⟨_, _, rfl, Z, F, env, _, ea, s, r1, q1, fun σ1 s1 p1 => ⟨Z, F, ea, _, env1, s1, r2, e, fun σ2 s2 p2 => k σ2 s2 (p1.trans p2)⟩⟩
theorem gs_len {n : Nat} : True := trivial
theorem dg_tup {gs : List D → Env → Option Env} {n : Nat} {k : Nat} (hc : X.calm = true) (h : PGs X es (tGs X.K X.w O P gs)) (hl : ∀ ds env e, gs ds env = some e → ds.length = n)
    (hn : (assignEach es X.env).length = n) (hst : (assignEach es X.env).findIdx? (·.1) = none) : PG X (.Tuple es k pos) (tG X.K X.w O P (gT gs)) := by
  refine (pg_tup hc h hn hst).mono fun v σ H Q hh => ?_
  obtain ⟨Z, F, env, d, env1, s, r, e, k⟩ := hh
  cases r with
  | tup q rl => exact ⟨_, _, rfl, q, by rw [rl.length]; exact hl _ _ _ e, Z, F, env, _, env1, s, rl, e, k⟩
  | _ => cases e
theorem gl_nil : ∀ ds env e, gsN ds env = some e → ds.length = 0 := fun ds env e h => by
  cases ds with
  | nil => rfl
  | cons _ _ => cases h
theorem gl_cons {g : GF} {gs : List D → Env → Option Env} {n : Nat} (hl : ∀ ds env e, gs ds env = some e → ds.length = n) : ∀ ds env e, gsC g gs ds env = some e → ds.length = n + 1 := fun ds env e h => by
  cases ds with
  | nil => cases h
  | cons d ds =>
    obtain ⟨ea, q1, h⟩ := Option.bind_eq_some_iff.mp h
    rw [List.length_cons, hl _ _ _ h]
theorem ds_asg {tg : Expr} {g : GF} {f : EF} (he : PE X e (tE X.K X.w O f)) (hg : PG X tg (tG X.K X.w O P g)) (hs : swapsWithSole [tg] e pos.line X.env = pure false) (hw : swappedStores [tg] e X.env = pure none)
    (h1 : (assignEach [tg] X.env).map (·.2) = [assign tg X.env]) : PS X (.Assign [tg] e pos) (tS X.K X.w O P ro (sAsg g f)) := by
  refine (ps_asg he hg hs hw h1).mono fun Dn σ H h => ?_
  obtain ⟨Z, F, env, out, env1, s, e, k⟩ := h
  obtain ⟨⟨d, ea⟩, q1, e⟩ := Option.bind_eq_some_iff.mp e
  obtain ⟨eb, q2, e⟩ := Option.map_eq_some_iff.mp e
  cases e
  exact ⟨Z, F, env, d, ea, s, q1, fun v Z1 F1 H1 s1 t1 r1 => ⟨Z1, F1, ea, d, _, s1, r1, q2, fun σ1 s2 p2 => k σ1 Z1 F1 H1 s2 t1 p2⟩⟩
/-! loops -/
theorem ds_for {iter tg : Expr} {body : List Stmt} {wf : WF} {g : GF} {f : SF} (hp : PassesOwn (model X.prog X.w) X.A X.env X.xe) (hc : X.calm = true) (hi : PI X tg iter (tI X.K X.w O wf)) (hg : PG X tg (tG X.K X.w O P g)) (hb : PSs X body (tS X.K X.w O P ro f))
    (hs : ∀ x, foldedSetIterable iter X.env x = pure x) : PS X (.For tg iter body [] pos) (tS X.K X.w O P ro (sFor wf g f)) := by
  refine (ps_for hp hc hi hg hb hs).mono fun Dn σ H h => ?_
  obtain ⟨Z, F, env, out, env1, s, e, k⟩ := h
  obtain ⟨⟨ds, ea⟩, q1, e⟩ := Option.bind_eq_some_iff.mp e
  refine ⟨Z, F, env, ds, ea, s, q1, fun J G Y Z1 F1 H1 s1 t1 wk gs ys => ?_⟩
  refine for_it wk (fun i σ' H' => ∃ Z' F' env', St' X.K X.w O Z' F' H' σ' env' ∧ Step Z1 F1 H1 Z' F' H' ∧ Prt P σ σ' ∧ forL g f (ds.drop i) env' = some (out, env1)) ⟨Z1, F1, ea, s1, Step.refl, Prt.refl, by rw [List.drop_zero]; exact e⟩
    (fun i σ' H' _ ⟨Z', F', env', s', t', _, _⟩ => gs Z' F' H' t') ?_ ?_
  · rintro i x σ2 H2 H3 hi ⟨Z2, F2, env2, s2, t2, p2, e2⟩ hy
    obtain ⟨d, Z3, hd, g3, r3⟩ := ys i x Z2 F2 H2 H3 s2.zh t2 hy
    obtain ⟨s3, t3⟩ := s2.grow g3
    have hdr : ds.drop i = d :: ds.drop (i + 1) := by
      have hh := List.getElem?_eq_some_iff.mp hd
      rw [← hh.2]
      exact List.drop_eq_getElem_cons hi
    rw [hdr] at e2
    unfold forL at e2
    obtain ⟨e3, q3, e2⟩ := Option.bind_eq_some_iff.mp e2
    obtain ⟨⟨o4, e4⟩, q4, e2⟩ := Option.bind_eq_some_iff.mp e2
    refine ⟨Z3, F2, env2, d, e3, s3, r3, q3, fun σ4 s4 p4 => ⟨Z3, F2, e3, o4, e4, s4, q4, fun σ5 Z5 F5 H5 s5 t5 p5 => ?_⟩⟩
    have tt := t2.trans (t3.trans t5)
    have pp := p2.trans (p4.trans p5)
    cases o4 with
    | nx => exact ⟨Z5, F5, e4, s5, tt, pp, e2⟩
    | ct => exact ⟨Z5, F5, e4, s5, tt, pp, e2⟩
    | bk => cases e2; exact k σ5 Z5 F5 H5 s5 (t1.trans tt) pp
    | rt r =>
      cases e2
      exact (show OutOk X.K X.w ro Z F H Z5 F5 H5 Dn σ5 (.rt r) from k σ5 Z5 F5 H5 s5 (t1.trans tt) pp).from (t1.trans (t2.trans t3))
  · rintro σ2 H2 ⟨Z2, F2, env2, s2, t2, p2, e2⟩
    rw [List.drop_length] at e2
    cases e2
    exact k σ2 Z2 F2 H2 s2 (t1.trans t2) p2
theorem ds_while {c : Expr} {body : List Stmt} {t : TF} {f : SF} (hp : PassesOwn (model X.prog X.w) X.A X.env X.xe) (hc : PT X c (tT X.K X.w O t)) (hb : PSs X body (tS X.K X.w O P ro f)) : PS X (.While c body [] pos) (tS X.K X.w O P ro (sWhile t f)) := by
  refine (ps_while hp hc hb).mono fun Dn σ H h => ?_
  obtain ⟨Z, F, env, out, env1, s, e, k⟩ := h
  obtain ⟨n, e⟩ := sWhile_inv e
  refine ⟨fun m σ' H' => ∃ Z' F' env', St' X.K X.w O Z' F' H' σ' env' ∧ Step Z F H Z' F' H' ∧ Prt P σ σ' ∧ whileL m t f env' = some (out, env1), ⟨n, Z, F, env, s, Step.refl, Prt.refl, e⟩, ?_⟩
  rintro m σ2 H2 ⟨Z2, F2, env2, s2, t2, p2, e2⟩
  cases m with
  | zero => cases e2
  | succ m =>
    unfold whileL at e2
    obtain ⟨⟨b, e3⟩, q3, e2⟩ := Option.bind_eq_some_iff.mp e2
    refine ⟨Z2, F2, env2, b, e3, s2, q3, fun Z3 F3 H3 s3 t3 => ?_⟩
    cases b with
    | false =>
      rw [if_neg Bool.false_ne_true] at e2 ⊢
      cases e2
      exact k σ2 Z3 F3 H3 s3 (t2.trans t3) p2
    | true =>
      rw [if_pos rfl] at e2 ⊢
      obtain ⟨⟨o4, e4⟩, q4, e2⟩ := Option.bind_eq_some_iff.mp e2
      refine ⟨fun σ' H' => ∃ Z' F' env', St' X.K X.w O Z' F' H' σ' env' ∧ Step Z F H Z' F' H' ∧ Prt P σ σ' ∧ whileL m t f env' = some (out, env1), fun σ' H' h => ⟨m, Nat.lt_succ_self m, h⟩, ?_⟩
      refine ⟨Z3, F3, e3, o4, e4, s3, q4, fun σ5 Z5 F5 H5 s5 t5 p5 => ?_⟩
      have tt := t2.trans (t3.trans t5)
      have pp := p2.trans p5
      cases o4 with
      | nx => exact ⟨Z5, F5, e4, s5, tt, pp, e2⟩
      | ct => exact ⟨Z5, F5, e4, s5, tt, pp, e2⟩
      | bk => cases e2; exact k σ5 Z5 F5 H5 s5 tt pp
      | rt r =>
        cases e2
        exact (show OutOk X.K X.w ro Z F H Z5 F5 H5 Dn σ5 (.rt r) from k σ5 Z5 F5 H5 s5 tt pp).from (t2.trans t3)
end
end Ev

end

section
set_option Elab.async false
set_option linter.all false
set_option maxRecDepth 100000
/-! Ev5: list comprehensions. -/
namespace Ev
open PySem PySem.Spec PyProof.Rows L2
def wipeE (env : Env) : List Nat → Env
  | [] => env
  | v :: vs => (wipeE env vs).set v none
def restE (e0 env : Env) : List Nat → Env
  | [] => env
  | v :: vs => (restE e0 env vs).set v (e0[v]?.join)
def lcL (own : List Nat) (g : GF) (t : TF) (f : EF) : List D → Env → List D → Option (List D × Env)
  | [], env, acc => some (acc, env)
  | d :: ds, env, acc => (g d (wipeE env own)).bind fun e => (t e).bind fun p => if p.1 = true then (f p.2).bind fun q => if acc.length < 16777216 then lcL own g t f ds q.2 (acc ++ [q.1]) else none
      else lcL own g t f ds p.2 acc
def eLc (wf : WF) (own : List Nat) (g : GF) (t : TF) (f : EF) : EF := fun env => (wf env).bind fun p => (lcL own g t f p.1 p.2 []).map fun q => (.lst q.1, restE p.2 q.2 own)
def tYes1 : TF := fun env => some (true, env)

theorem wipe_get (σ : L2.St) (j : Nat) : ∀ vs : List Nat, (wipe σ vs)[j]? = if j ∈ vs then σ[j]?.map fun _ => none else σ[j]?
  | [] => by simp [wipe]
  | v :: vs => by
    unfold wipe
    have ih := wipe_get σ j vs
    by_cases h : v = j
    · subst h
      rw [if_pos (by simp)]
      by_cases hl : v < (wipe σ vs).length
      · rw [List.getElem?_set_self hl]
        rw [wipe_length] at hl
        rw [List.getElem?_eq_getElem hl]; rfl
      · rw [List.getElem?_eq_none (by simpa using hl)]
        rw [wipe_length] at hl
        rw [List.getElem?_eq_none (by omega)]; rfl
    · rw [List.getElem?_set_ne h, ih]
      by_cases h2 : j ∈ vs
      · rw [if_pos h2, if_pos (by simp [h2])]
      · rw [if_neg h2, if_neg (by simp only [List.mem_cons, not_or]; exact ⟨fun e => h e.symm, h2⟩)]
theorem wipeE_len (e : Env) : ∀ vs, (wipeE e vs).length = e.length
  | [] => rfl
  | v :: vs => by unfold wipeE; rw [List.length_set, wipeE_len e vs]
theorem restE_len (e0 e : Env) : ∀ vs, (restE e0 e vs).length = e.length
  | [] => rfl
  | v :: vs => by unfold restE; rw [List.length_set, restE_len e0 e vs]
theorem wipeE_get (e : Env) (j : Nat) : ∀ vs : List Nat, (wipeE e vs)[j]? = if j ∈ vs then e[j]?.map fun _ => none else e[j]?
  | [] => by simp [wipeE]
  | v :: vs => by
    unfold wipeE
    have ih := wipeE_get e j vs
    by_cases h : v = j
    · subst h
      rw [if_pos (by simp)]
      by_cases hl : v < (wipeE e vs).length
      · rw [List.getElem?_set_self hl]
        rw [wipeE_len] at hl
        rw [List.getElem?_eq_getElem hl]; rfl
      · rw [List.getElem?_eq_none (by simpa using hl)]
        rw [wipeE_len] at hl
        rw [List.getElem?_eq_none (by omega)]; rfl
    · rw [List.getElem?_set_ne h, ih]
      by_cases h2 : j ∈ vs
      · rw [if_pos h2, if_pos (by simp [h2])]
      · rw [if_neg h2, if_neg (by simp only [List.mem_cons, not_or]; exact ⟨fun e => h e.symm, h2⟩)]
theorem restE_get (e0 e : Env) (j : Nat) : ∀ vs : List Nat, (restE e0 e vs)[j]? = if j ∈ vs then e[j]?.map fun _ => e0[j]?.join else e[j]?
  | [] => by simp [restE]
  | v :: vs => by
    unfold restE
    have ih := restE_get e0 e j vs
    by_cases h : v = j
    · subst h
      rw [if_pos (by simp)]
      by_cases hl : v < (restE e0 e vs).length
      · rw [List.getElem?_set_self hl]
        rw [restE_len] at hl
        rw [List.getElem?_eq_getElem hl]; rfl
      · rw [List.getElem?_eq_none (by simpa using hl)]
        rw [restE_len] at hl
        have z : e[v]? = none := List.getElem?_eq_none (by omega)
        rw [z]; rfl
    · rw [List.getElem?_set_ne h, ih]
      by_cases h2 : j ∈ vs
      · rw [if_pos h2, if_pos (by simp [h2])]
      · rw [if_neg h2, if_neg (by simp only [List.mem_cons, not_or]; exact ⟨fun e => h e.symm, h2⟩)]
theorem wipe_eq {σ σ2 : L2.St} {vs : List Nat} (hl : σ2.length = σ.length) (h : ∀ j, j ∉ vs → σ2[j]? = (wipe σ vs)[j]?) : wipe σ2 vs = wipe σ vs := by
  apply List.ext_getElem?
  intro j
  rw [wipe_get, wipe_get]
  by_cases hj : j ∈ vs
  · rw [if_pos hj, if_pos hj]
    by_cases h1 : j < σ.length
    · rw [List.getElem?_eq_getElem h1, List.getElem?_eq_getElem (by omega : j < σ2.length)]; rfl
    · rw [List.getElem?_eq_none (by omega), List.getElem?_eq_none (by omega)]
  · rw [if_neg hj, if_neg hj, h j hj, wipe_get, if_neg hj]
section
variable {K : PySem.W.Frag} {w : World} {O P : Nat → Bool} {Z Z' Z1 Z2 : Addr → Prop} {F F' F1 F2 : Fts} {H H' H1 H2 : Hp} {σ σ1 : L2.St} {env env' env1 : Env}
theorem St'.wipe (s : St' K w O Z F H σ env) (vs : List Nat) : St' K w O Z F H (L2.wipe σ vs) (wipeE env vs) := by
  have pick : ∀ j x, (wipeE env vs)[j]? = some (some x) → env[j]? = some (some x) ∧ j ∉ vs := fun j x e => by
    rw [wipeE_get] at e
    by_cases hj : j ∈ vs
    · rw [if_pos hj] at e
      cases q : env[j]? with
      | none => rw [q] at e; cases e
      | some y => rw [q] at e; cases e
    · rw [if_neg hj] at e
      exact ⟨e, hj⟩
  refine ⟨by rw [wipeE_len, wipe_length]; exact s.len, fun j x e o => ?_, fun j x e o => ?_, s.sep, s.fz, s.zh⟩
  · obtain ⟨e, hj⟩ := pick j x e
    obtain ⟨v, e1, r⟩ := s.frz j x e o
    exact ⟨v, by rw [wipe_get, if_neg hj]; exact e1, r⟩
  · obtain ⟨e, hj⟩ := pick j x e
    obtain ⟨v, e1, r⟩ := s.own j x e o
    exact ⟨v, by rw [wipe_get, if_neg hj]; exact e1, r⟩
/-- an object that is nobody's is changed -/
theorem kpD {p : Addr} {o : HO} (hz : ¬ Z p) (mu : Mut (H p)) : Kp Z H Z (upd H p o) := by
  have ne : ∀ a u, H a = some u → ¬ Mut (some u) → a ≠ p := fun a u e nm q => by rw [← q, e] at mu; exact nm mu
  exact ⟨fun a u z e => by rw [upd_ne fun q => hz (by rw [← q]; exact z)]; exact e, fun _ z => z, fun a xs e => by rw [upd_ne (ne a _ e fun z => z)]; exact e, fun a b u e => by rw [upd_ne (ne a _ e fun z => z)]; exact e⟩
theorem St'.updD (s : St' K w O Z F H σ env) {p : Addr} {o : HO} (hz : ¬ Z p) (hf : ∀ i, p ∉ F i) (mu : Mut (H p)) : St' K w O Z F (upd H p o) σ env := by
  have k : Kp Z H Z (upd H p o) := kpD hz mu
  have ne : ∀ i a, a ∈ F i → a ≠ p := fun i a hi q => hf i (q ▸ hi)
  refine ⟨s.len, fun j x e o' => ?_, fun j x e o' => ?_, s.sep, fun i a hi => ⟨(s.fz i a hi).1, by rw [upd_ne (ne i a hi)]; exact (s.fz i a hi).2⟩, fun a z => ?_⟩
  · obtain ⟨v, e1, r⟩ := s.frz j x e o'
    exact ⟨v, e1, r.kp k⟩
  · obtain ⟨v, e1, r⟩ := s.own j x e o'
    exact ⟨v, e1, r.kp k fun a ha u hu => by rw [upd_ne (ne j a ha)]; exact hu⟩
  · rw [upd_ne fun q => hz (by rw [← q]; exact z)]; exact s.zh a z
theorem fresh0 (t : Step Z F H Z1 F1 H1) {a : Addr} (h : H1 a = none) : H a = none := by
  cases e : H a with
  | none => rfl
  | some u => exact absurd h (t.al a (by rw [e]; intro q; cases q))
end
theorem lc_red {K : PySem.W.Frag} {w : World} {O P : Nat → Bool} {wf : WF} {g : GF} {t : TF} {f : EF} {vs : List Nat} (hv : ∀ v ∈ vs, O v = false) (hP : ∀ j, j ∉ vs → P j = true) (hgl : ∀ d env e, g d env = some e → e.length = env.length)
    {σ : L2.St} {H : Hp} {Q : VK} (h : tO K w O (eLc wf vs g t f) σ H Q) : tLc (tI K w O wf) (tG K w O P g) (tT K w O t) (tE K w O f) vs σ H Q := by
  obtain ⟨Z, F, env, d, env1, s, e, k⟩ := h
  obtain ⟨⟨ds, ea⟩, q1, e⟩ := Option.bind_eq_some_iff.mp e
  obtain ⟨⟨res, eb⟩, q2, e⟩ := Option.map_eq_some_iff.mp e
  cases e
  refine ⟨Z, F, env, ds, ea, s, q1, fun J G Y Z1 F1 H1 s1 t1 wk gs ys Dd hD => ?_⟩
  have Dh : H Dd = none := fresh0 t1 hD
  have g0 : Grow Z1 H1 Z1 (upd H1 Dd (.lst [])) := Grow.new0 s1.zh hD
  obtain ⟨s0, t0⟩ := s1.grow g0
  have nD : ¬ Z1 Dd ∧ ∀ i, Dd ∉ F1 i := ⟨fun z => s1.zh _ z hD, fun i hi => Mut.ne (s1.fz i _ hi).2 hD⟩
  refine lc_it wk (fun i H' => ∃ Z' F' envb acc accV, St' K w O Z' F' H' (wipe σ vs) (wipeE envb vs) ∧ Step Z1 F1 H1 Z' F' H' ∧ H' Dd = some (.lst accV) ∧ RepL K w Z' H' accV acc ∧ (¬ Z' Dd ∧ ∀ i, Dd ∉ F' i) ∧ envb.length = ea.length ∧ lcL vs g t f (ds.drop i) envb acc = some (res, eb))
    ⟨Z1, F1, ea, [], [], s0.wipe vs, t0, upd_same, .nil, nD, rfl, by rw [List.drop_zero]; exact q2⟩ (fun i H' _ ⟨Z', F', _, _, _, _, t', _⟩ => gs Z' F' H' t') ?_ ?_
  · rintro i x H2 H3 hi ⟨Z2, F2, env2, acc, accV, s2, t2, hD2, ra, nd2, hl2, e2⟩ hy
    obtain ⟨d, Z3, hd, g3, r3⟩ := ys i x Z2 F2 H2 H3 s2.zh t2 hy
    obtain ⟨s3, t3⟩ := s2.grow g3
    have hdr : ds.drop i = d :: ds.drop (i + 1) := by
      have hh := List.getElem?_eq_some_iff.mp hd
      rw [← hh.2]
      exact List.drop_eq_getElem_cons hi
    rw [hdr] at e2
    unfold lcL at e2
    obtain ⟨e3, q3, e2⟩ := Option.bind_eq_some_iff.mp e2
    obtain ⟨⟨b4, e4⟩, q4, e2⟩ := Option.bind_eq_some_iff.mp e2
    have nd3 : ¬ Z3 Dd ∧ ∀ i, Dd ∉ F2 i := ⟨fun z => (g3.zn _ z).elim nd2.1 fun z => (by rw [hD2] at z; cases z), nd2.2⟩
    have hD3 : H3 Dd = some (.lst accV) := g3.keep _ _ hD2
    refine ⟨Z3, F2, wipeE env2 vs, d, e3, s3, r3, q3, fun σ4 s4 p4 => ⟨?_, ?_⟩⟩
    · refine wipe_eq ?_ fun j hj => p4 j (hP j hj)
      have l1 := s4.len
      have l2 := hgl _ _ _ q3
      rw [wipeE_len] at l2
      have l3 := s1.len
      omega
    have hw : wipe σ4 vs = wipe σ vs := by
      refine wipe_eq ?_ fun j hj => p4 j (hP j hj)
      have l1 := s4.len
      have l2 := hgl _ _ _ q3
      rw [wipeE_len] at l2
      have l3 := s1.len
      omega
    have l4 : e3.length = ea.length := by rw [hgl _ _ _ q3, wipeE_len, hl2]
    refine ⟨Z3, F2, e3, b4, e4, s4, q4, fun Z5 F5 H5 s5 t5 => ?_⟩
    have t15 : Step Z1 F1 H1 Z5 F5 H5 := t2.trans (t3.trans t5)
    have hD5 : H5 Dd = some (.lst accV) := t5.keep _ _ hD3 nd3.2
    have nd5 : ¬ Z5 Dd ∧ ∀ i, Dd ∉ F5 i := by
      refine ⟨fun z => ?_, fun i hi => ?_⟩
      · rcases t5.zn _ z with z | z | ⟨i, z⟩
        · exact nd3.1 z
        · rw [hD3] at z; cases z
        · exact nd3.2 i z
      · rcases t5.fn i _ hi with z | ⟨j, z⟩
        · rw [hD3] at z; cases z
        · exact nd3.2 j z
    have ra5 : RepL K w Z5 H5 accV acc := (ra.kp g3.kp).kp (s4.kp t5)
    have l5 : e4.length = ea.length := by
      have h1 := s5.len
      have h2 := s4.len
      omega
    cases b4 with
    | false =>
      rw [if_neg Bool.false_ne_true] at e2
      simp only [Bool.false_eq_true, if_false]
      have sw := s5.wipe vs
      rw [hw] at sw
      exact ⟨Z5, F5, e4, acc, accV, sw, t15, hD5, ra5, nd5, l5, e2⟩
    | true =>
      rw [if_pos rfl] at e2
      simp only [if_true]
      obtain ⟨⟨d6, e6⟩, q6, e2⟩ := Option.bind_eq_some_iff.mp e2
      split at e2
      · rename_i hlen
        refine ⟨Z5, F5, e4, d6, e6, s5, q6, fun y Z7 F7 H7 s7 t7 r7 => ?_⟩
        have hD7 : H7 Dd = some (.lst accV) := t7.keep _ _ hD5 nd5.2
        have nd7 : ¬ Z7 Dd ∧ ∀ i, Dd ∉ F7 i := by
          refine ⟨fun z => ?_, fun i hi => ?_⟩
          · rcases t7.zn _ z with z | z | ⟨i, z⟩
            · exact nd5.1 z
            · rw [hD5] at z; cases z
            · exact nd5.2 i z
          · rcases t7.fn i _ hi with z | ⟨j, z⟩
            · rw [hD5] at z; cases z
            · exact nd5.2 j z
        have ra7 : RepL K w Z7 H7 accV acc := ra5.kp (s5.kp t7)
        have t17 := t15.trans t7
        have mu : Mut (H7 Dd) := by rw [hD7]; trivial
        have sw := (s7.updD (o := .lst (accV ++ [y])) nd7.1 nd7.2 mu).wipe vs
        rw [hw] at sw
        have kk : Kp Z7 H7 Z7 (upd H7 Dd (.lst (accV ++ [y]))) := kpD nd7.1 mu
        refine ⟨accV, hD7, by rw [ra7.length, lineN]; exact hlen, Z7, F7, e6, acc ++ [d6], accV ++ [y], sw, ?_, upd_same, (ra7.append (.cons r7 .nil)).kp kk, nd7, ?_, e2⟩
        · refine ⟨fun a u e hf => ?_, t17.zs, t17.zn, t17.fn, fun a ha => ?_⟩
          · rw [upd_ne (ne_of_none e hD)]; exact t17.keep a u e hf
          · rw [upd_ne fun q => ha (by rw [q]; exact hD)]; exact t17.al a ha
        · have h1 := s7.len
          have h2 := s5.len
          omega
      · cases e2
  · rintro H2 ⟨Z2, F2, env2, acc, accV, s2, t2, hD2, ra, nd2, hl2, e2⟩
    rw [List.drop_length] at e2
    cases e2
    refine k (.ref Dd) Z2 F2 H2 [Dd] ?_ (t1.trans t2) (.lst hD2 ra) fun a ha => by rw [List.mem_singleton.mp ha]; exact ⟨nd2.1, nd2.2, .inl Dh⟩
    have kp2 := s1.kp t2
    refine ⟨by rw [restE_len]; have h1 := s1.len; show eb.length = σ.length; omega, fun j x e o => ?_, fun j x e o => ?_, s2.sep, s2.fz, s2.zh⟩
    · rw [restE_get] at e
      by_cases hj : j ∈ vs
      · rw [if_pos hj] at e
        have e' : ea[j]? = some (some x) := by
          cases q : eb[j]? with
          | none => rw [q] at e; cases e
          | some z =>
            rw [q] at e
            have e' : ea[j]?.join = some x := by simpa using e
            cases q3 : ea[j]? with
            | none => rw [q3] at e'; cases e'
            | some z2 => rw [q3] at e'; cases z2 with
              | none => cases e'
              | some z3 => cases e'; rfl
        obtain ⟨v, e1, r⟩ := s1.frz j x e' o
        exact ⟨v, e1, r.kp kp2⟩
      · rw [if_neg hj] at e
        obtain ⟨v, e1, r⟩ := s2.frz j x (by rw [wipeE_get, if_neg hj]; exact e) o
        rw [wipe_get, if_neg hj] at e1
        exact ⟨v, e1, r⟩
    · have hj : j ∉ vs := fun hj => by rw [hv j hj] at o; cases o
      rw [restE_get, if_neg hj] at e
      obtain ⟨v, e1, r⟩ := s2.own j x (by rw [wipeE_get, if_neg hj]; exact e) o
      rw [wipe_get, if_neg hj] at e1
      exact ⟨v, e1, r⟩
theorem gN_len {i : Nat} : ∀ d env e, gN i d env = some e → e.length = env.length := fun d env e h => by cases h; rw [List.length_set]
theorem gsN_len : ∀ ds env e, gsN ds env = some e → e.length = env.length := fun ds env e h => by
  cases ds with
  | nil => cases h; rfl
  | cons _ _ => cases h
theorem gsC_len {g : GF} {gs : List D → Env → Option Env} (h1 : ∀ d env e, g d env = some e → e.length = env.length) (h2 : ∀ ds env e, gs ds env = some e → e.length = env.length) : ∀ ds env e, gsC g gs ds env = some e → e.length = env.length := fun ds env e h => by
  cases ds with
  | nil => cases h
  | cons d ds =>
    obtain ⟨ea, q1, h⟩ := Option.bind_eq_some_iff.mp h
    rw [h2 _ _ _ h, h1 _ _ _ q1]
theorem gT_len {gs : List D → Env → Option Env} (h2 : ∀ ds env e, gs ds env = some e → e.length = env.length) : ∀ d env e, gT gs d env = some e → e.length = env.length := fun d env e h => by
  cases d with
  | tup ds => exact h2 _ _ _ h
  | _ => cases h
section
variable {X : Cx} {O P : Nat → Bool} {ro : Bool}
theorem dts_nil : PTs X [] (tT X.K X.w O tYes1) := by
  refine ⟨fun pins s σ H Q I h => pts_nil.run pins s σ H Q I ?_⟩
  obtain ⟨Z, F, env, b, env1, s, e, k⟩ := h
  cases e
  exact k Z F H s Step.refl
theorem dts_one {c : Expr} {t : TF} (h : PT X c (tT X.K X.w O t)) : PTs X [c] (tT X.K X.w O t) := pts_one h
theorem do_lc {elt tg iter : Expr} {ifs : List Expr} {scope : Scope} {own : List (Str × Nat)} {pos : Pos} {wf : WF} {g : GF} {t : TF} {f : EF} (hc : X.calm = true) (hN : X.N.Nodup) (hi : PI X tg iter (tI X.K X.w O wf)) (ok : BlkOk X.N X.env.scope scope own)
    (hg : ∀ (s : Shared) (H : Hp) (C : Addr) (cl : List (Str × Addr)) (fp : List Addr), PG (X.blk s H scope (compEnvC scope cl C X.env) fp) tg (tG X.K X.w O (fun j => !(own.map (·.2)).contains j) g))
    (ht : ∀ (s : Shared) (H : Hp) (C : Addr) (cl : List (Str × Addr)) (fp : List Addr), PTs (X.blk s H scope (compEnvC scope cl C X.env) fp) ifs (tT X.K X.w O t))
    (he : ∀ (s : Shared) (H : Hp) (C : Addr) (cl : List (Str × Addr)) (fp : List Addr), PE (X.blk s H scope (compEnvC scope cl C X.env) fp) elt (tE X.K X.w O f)) (hs : ∀ x, foldedSetIterable iter X.env x = pure x)
    (hv : ∀ v ∈ own.map (·.2), O v = false) (hgl : ∀ d env e, g d env = some e → e.length = env.length) : PE X (.ListComp elt [⟨tg, iter, ifs, 0⟩] scope pos) (tO X.K X.w O (eLc wf (own.map (·.2)) g t f)) :=
  (pe_lc hc hN hi ok hg ht he hs).mono fun _ _ _ h => lc_red hv (fun j hj => by simpa using hj) hgl h
theorem ds_setLc {i : Nat} {y : Str} {py : Pos} {elt tg iter : Expr} {ifs : List Expr} {scope : Scope} {own : List (Str × Nat)} {pos spos : Pos} {wf : WF} {g : GF} {t : TF} {f : EF} (hc : X.calm = true) (hN : X.N.Nodup) (hy : X.N[i]? = some y) (hyl : X.env.scope.names.lookup y = some .local)
    (ho : O i = false) (hp : P i = false) (hsw : swapsWith (.ListComp elt [⟨tg, iter, ifs, 0⟩] scope pos) (some (.Name y py)) spos.line X.env = pure true) (hi : PI X tg iter (tI X.K X.w O wf)) (ok : BlkOk X.N X.env.scope scope own)
    (hg : ∀ (s : Shared) (H : Hp) (C : Addr) (cl : List (Str × Addr)) (fp : List Addr), PG (X.blk s H scope (compEnvC scope cl C X.env) fp) tg (tG X.K X.w O (fun j => !(own.map (·.2)).contains j) g))
    (ht : ∀ (s : Shared) (H : Hp) (C : Addr) (cl : List (Str × Addr)) (fp : List Addr), PTs (X.blk s H scope (compEnvC scope cl C X.env) fp) ifs (tT X.K X.w O t))
    (he : ∀ (s : Shared) (H : Hp) (C : Addr) (cl : List (Str × Addr)) (fp : List Addr), PE (X.blk s H scope (compEnvC scope cl C X.env) fp) elt (tE X.K X.w O f)) (hs : ∀ x, foldedSetIterable iter X.env x = pure x)
    (hv : ∀ v ∈ own.map (·.2), O v = false) (hgl : ∀ d env e, g d env = some e → e.length = env.length) : PS X (.Assign [.Name y py] (.ListComp elt [⟨tg, iter, ifs, 0⟩] scope pos) spos) (tS X.K X.w O P ro (sSet i (eLc wf (own.map (·.2)) g t f))) := by
  refine (ps_setLc hc hN hy hyl hsw hi ok hg ht he hs).mono fun Dn σ H h => ?_
  refine lc_red hv (fun j hj => by simpa using hj) hgl ?_
  obtain ⟨Z, F, env, out, env1, s, e, k⟩ := h
  obtain ⟨⟨d, ea⟩, q1, e⟩ := Option.map_eq_some_iff.mp e
  cases e
  exact ⟨Z, F, env, d, ea, s, q1, fun v Z1 F1 H1 G s1 t1 r1 sp => k _ _ F1 H1 ((s1.frzG sp r1.mut).set ho r1.frz) (t1.frzG sp) (Prt.set hp)⟩
end
end Ev

end

section
set_option Elab.async false
set_option linter.all false
set_option maxRecDepth 100000
/-! Ev6: defs of the program: what they promise, how they are called. -/
namespace Ev
open PySem PySem.Spec PyProof.Rows L2
inductive AV where
  | fz (d : D) | ow (i : Nat) | tm (d : D)
abbrev UF := Env → Option (List AV × Env)
def isO : AV → Bool
  | .fz _ => false
  | _ => true
def owns : List AV → List Nat
  | [] => []
  | .ow i :: as => i :: owns as
  | _ :: as => owns as
def cont1 (env : Env) : AV → Option D
  | .fz d => some d
  | .ow i => env[i]?.join
  | .tm d => some d
def conts (env : Env) : List AV → Option (List D)
  | [] => some []
  | a :: as => (cont1 env a).bind fun d => (conts env as).map fun ds => d :: ds
def putBack (fin : Env) : Nat → List AV → Env → Option Env
  | _, [], env => some env
  | j, .ow i :: as, env => (fin[j]?.join).bind fun d => putBack fin (j + 1) as (env.set i (some d))
  | j, .fz _ :: as, env => putBack fin (j + 1) as env
  | j, .tm _ :: as, env => putBack fin (j + 1) as env
abbrev SemF := List D → Option (D × Env)
def eCall (ms : List Bool) (S : SemF) (dds : List D) (u : UF) : EF := fun env => (u env).bind fun p => if (p.1.map isO ++ dds.map fun _ => false) = ms ∧ (owns p.1).Nodup then
  (conts p.2 p.1).bind fun ds => (S (ds ++ dds)).bind fun r => (putBack r.2 0 p.1 p.2).map fun e => (r.1, e) else none

inductive HU (K : PySem.W.Frag) (w : World) (O : Nat → Bool) (Z : Addr → Prop) (F : Fts) (H : Hp) (σ : L2.St) : List V → List AV → List (List Addr) → Prop
  | nil : HU K w O Z F H σ [] [] []
  | fz {v : V} {d : D} {vs : List V} {as : List AV} {gs : List (List Addr)} : RepD K w Z H v d → HU K w O Z F H σ vs as gs → HU K w O Z F H σ (v :: vs) (.fz d :: as) ([] :: gs)
  | ow {v : V} {i : Nat} {vs : List V} {as : List AV} {gs : List (List Addr)} : σ[i]? = some (some v) → O i = true → HU K w O Z F H σ vs as gs → HU K w O Z F H σ (v :: vs) (.ow i :: as) ([] :: gs)
  | tm {v : V} {d : D} {G : List Addr} {vs : List V} {as : List AV} {gs : List (List Addr)} : RO K w Z H G v d → (∀ a ∈ G, ¬ Z a ∧ (∀ i, a ∉ F i) ∧ ∀ g ∈ gs, a ∉ g) → HU K w O Z F H σ vs as gs →
      HU K w O Z F H σ (v :: vs) (.tm d :: as) (G :: gs)
def tU (K : PySem.W.Frag) (w : World) (O : Nat → Bool) (u : UF) : TA := fun σ H Q => ∃ Z F env as env1, St' K w O Z F H σ env ∧ u env = some (as, env1) ∧
  ∀ vs gs Z1 F1 H1, St' K w O Z1 F1 H1 σ env1 → Step Z F H Z1 F1 H1 → HU K w O Z1 F1 H1 σ vs as gs → (∀ g ∈ gs, ∀ a ∈ g, H a = none ∨ ∃ i, a ∈ F i) → Q vs H1
structure Sig where
  n : Nat
  np : Nat
  O : Nat → Bool
  ro : Bool
def padV (n : Nat) (vs : List V) : L2.St := vs.map some ++ List.replicate (n - vs.length) none
def padE (n : Nat) (ds : List D) : Env := ds.map some ++ List.replicate (n - ds.length) none
def spOf (K : PySem.W.Frag) (w : World) (g : Sig) (S : SemF) : Sp := fun vs H Q _ => vs.length = g.np ∧ ∃ Z F ds r fin, ds.length = g.np ∧ St' K w g.O Z F H (padV g.n vs) (padE g.n ds) ∧ S ds = some (r, fin) ∧
  ∀ v σ1 Z1 F1 H1, St' K w g.O Z1 F1 H1 σ1 fin → Step Z F H Z1 F1 H1 → (∀ j, j < g.np → g.O j = true → σ1[j]? = (padV g.n vs)[j]?) → RtOk K w g.ro Z F H Z1 F1 H1 v r → Q v H1
section
variable {K : PySem.W.Frag} {w : World} {O : Nat → Bool} {Z Z' Z1 Z2 : Addr → Prop} {F F' F1 F2 : Fts} {H H' H1 H2 : Hp} {σ σ1 : L2.St} {env env' env1 e2 : Env}
theorem HU.lens : ∀ {vs : List V} {as : List AV} {gs : List (List Addr)}, HU K w O Z F H σ vs as gs → vs.length = as.length ∧ gs.length = as.length
  | _, _, _, .nil => ⟨rfl, rfl⟩
  | _, _, _, .fz _ t => by obtain ⟨a, b⟩ := HU.lens t; exact ⟨by simp [a], by simp [b]⟩
  | _, _, _, .ow _ _ t => by obtain ⟨a, b⟩ := HU.lens t; exact ⟨by simp [a], by simp [b]⟩
  | _, _, _, .tm _ _ t => by obtain ⟨a, b⟩ := HU.lens t; exact ⟨by simp [a], by simp [b]⟩
theorem HU.fzAt : ∀ {vs : List V} {as : List AV} {gs : List (List Addr)} {j : Nat} {d : D}, HU K w O Z F H σ vs as gs → as[j]? = some (.fz d) → ∃ v, vs[j]? = some v ∧ RepD K w Z H v d
  | _, _, _, _, _, .nil, e => by simp at e
  | _, _, _, 0, _, .fz r _, e => by simp at e; subst e; exact ⟨_, rfl, r⟩
  | _, _, _, 0, _, .ow _ _ _, e => by simp at e
  | _, _, _, 0, _, .tm _ _ _, e => by simp at e
  | _, _, _, j + 1, _, .fz _ t, e => by simpa using HU.fzAt (j := j) t (by simpa using e)
  | _, _, _, j + 1, _, .ow _ _ t, e => by simpa using HU.fzAt (j := j) t (by simpa using e)
  | _, _, _, j + 1, _, .tm _ _ t, e => by simpa using HU.fzAt (j := j) t (by simpa using e)
theorem HU.owAt : ∀ {vs : List V} {as : List AV} {gs : List (List Addr)} {j i : Nat}, HU K w O Z F H σ vs as gs → as[j]? = some (.ow i) → ∃ v, vs[j]? = some v ∧ σ[i]? = some (some v) ∧ O i = true
  | _, _, _, _, _, .nil, e => by simp at e
  | _, _, _, 0, _, .fz r _, e => by simp at e
  | _, _, _, 0, _, .ow a b _, e => by simp at e; subst e; exact ⟨_, rfl, a, b⟩
  | _, _, _, 0, _, .tm _ _ _, e => by simp at e
  | _, _, _, j + 1, _, .fz _ t, e => by simpa using HU.owAt (j := j) t (by simpa using e)
  | _, _, _, j + 1, _, .ow _ _ t, e => by simpa using HU.owAt (j := j) t (by simpa using e)
  | _, _, _, j + 1, _, .tm _ _ t, e => by simpa using HU.owAt (j := j) t (by simpa using e)
theorem HU.tmAt : ∀ {vs : List V} {as : List AV} {gs : List (List Addr)} {j : Nat} {d : D}, HU K w O Z F H σ vs as gs → as[j]? = some (.tm d) → ∃ v G, vs[j]? = some v ∧ gs[j]? = some G ∧ RO K w Z H G v d
  | _, _, _, _, _, .nil, e => by simp at e
  | _, _, _, 0, _, .fz r _, e => by simp at e
  | _, _, _, 0, _, .ow a b _, e => by simp at e
  | _, _, _, 0, _, .tm r _ _, e => by simp at e; subst e; exact ⟨_, _, rfl, rfl, r⟩
  | _, _, _, j + 1, _, .fz _ t, e => by simpa using HU.tmAt (j := j) t (by simpa using e)
  | _, _, _, j + 1, _, .ow _ _ t, e => by simpa using HU.tmAt (j := j) t (by simpa using e)
  | _, _, _, j + 1, _, .tm _ _ t, e => by simpa using HU.tmAt (j := j) t (by simpa using e)
theorem HU.gOut : ∀ {vs : List V} {as : List AV} {gs : List (List Addr)}, HU K w O Z F H σ vs as gs → ∀ g ∈ gs, ∀ a ∈ g, ¬ Z a ∧ (∀ i, a ∉ F i) ∧ Mut (H a)
  | _, _, _, .nil, _, hg, _, _ => by cases hg
  | _, _, _, .fz _ t, g, hg, a, ha => by
    rcases List.mem_cons.mp hg with rfl | hg
    · cases ha
    · exact HU.gOut t g hg a ha
  | _, _, _, .ow _ _ t, g, hg, a, ha => by
    rcases List.mem_cons.mp hg with rfl | hg
    · cases ha
    · exact HU.gOut t g hg a ha
  | _, _, _, .tm r h t, g, hg, a, ha => by
    rcases List.mem_cons.mp hg with rfl | hg
    · exact ⟨(h a ha).1, (h a ha).2.1, r.mut a ha⟩
    · exact HU.gOut t g hg a ha
theorem HU.gSep : ∀ {vs : List V} {as : List AV} {gs : List (List Addr)} {j l : Nat} {G G' : List Addr} {a : Addr}, HU K w O Z F H σ vs as gs → gs[j]? = some G → gs[l]? = some G' → a ∈ G → a ∈ G' → j = l
  | _, _, _, _, _, _, _, _, .nil, e, _, _, _ => by simp at e
  | _, _, _, 0, 0, _, _, _, _, _, _, _, _ => rfl
  | _, _, _, 0, l + 1, _, _, _, .fz _ _, e, _, ha, _ => by simp at e; subst e; cases ha
  | _, _, _, 0, l + 1, _, _, _, .ow _ _ _, e, _, ha, _ => by simp at e; subst e; cases ha
  | _, _, _, 0, l + 1, _, _, _, .tm _ h _, e, e', ha, ha' => by
    simp at e e'; subst e
    exact absurd ha' ((h _ ha).2.2 _ (List.mem_of_getElem? e'))
  | _, _, _, j + 1, 0, _, _, _, .fz _ _, _, e, _, ha => by simp at e; subst e; cases ha
  | _, _, _, j + 1, 0, _, _, _, .ow _ _ _, _, e, _, ha => by simp at e; subst e; cases ha
  | _, _, _, j + 1, 0, _, _, _, .tm _ h _, e', e, ha', ha => by
    simp at e e'; subst e
    exact absurd ha' ((h _ ha).2.2 _ (List.mem_of_getElem? e'))
  | _, _, _, j + 1, l + 1, _, _, _, .fz _ t, e, e', a, b => by rw [HU.gSep (j := j) (l := l) t (by simpa using e) (by simpa using e') a b]
  | _, _, _, j + 1, l + 1, _, _, _, .ow _ _ t, e, e', a, b => by rw [HU.gSep (j := j) (l := l) t (by simpa using e) (by simpa using e') a b]
  | _, _, _, j + 1, l + 1, _, _, _, .tm _ _ t, e, e', a, b => by rw [HU.gSep (j := j) (l := l) t (by simpa using e) (by simpa using e') a b]
theorem HU.append : ∀ {vs us : List V} {as bs : List AV} {gs hs : List (List Addr)}, HU K w O Z F H σ vs as gs → HU K w O Z F H σ us bs hs → (∀ h ∈ hs, h = []) → HU K w O Z F H σ (vs ++ us) (as ++ bs) (gs ++ hs)
  | _, _, _, _, _, _, .nil, s, _ => s
  | _, _, _, _, _, _, .fz r t, s, n => .fz r (HU.append t s n)
  | _, _, _, _, _, _, .ow a b t, s, n => .ow a b (HU.append t s n)
  | _, _, _, _, _, _, .tm r h t, s, n => .tm r (fun a ha => ⟨(h a ha).1, (h a ha).2.1, fun g hg => by
      rcases List.mem_append.mp hg with z | z
      · exact (h a ha).2.2 g z
      · rw [n g z]; simp⟩) (HU.append t s n)
theorem HU.frz : ∀ {vs : List V} {ds : List D}, RepL K w Z H vs ds → HU K w O Z F H σ vs (ds.map AV.fz) (ds.map fun _ => [])
  | _, _, .nil => .nil
  | _, _, .cons r t => .fz r (HU.frz t)
theorem conts_at : ∀ {as : List AV} {ds : List D}, conts env as = some ds → as.length = ds.length ∧ ∀ (j : Nat) (d : D), ds[j]? = some d → ∃ a, as[j]? = some a ∧ cont1 env a = some d
  | [], _, e => by cases e; exact ⟨rfl, fun j d e => by simp at e⟩
  | a :: as, _, e => by
    obtain ⟨d, h1, e⟩ := Option.bind_eq_some_iff.mp e
    obtain ⟨ds, h2, e⟩ := Option.map_eq_some_iff.mp e
    cases e
    obtain ⟨l, h⟩ := conts_at h2
    refine ⟨by simp [l], fun j x e => ?_⟩
    cases j with
    | zero => simp at e; subst e; exact ⟨a, rfl, h1⟩
    | succ j => simpa using h j x (by simpa using e)
theorem conts_append {bs : List D} : ∀ {as : List AV} {ds : List D}, conts env as = some ds → conts env (as ++ bs.map AV.fz) = some (ds ++ bs)
  | [], _, e => by
    cases e
    induction bs with
    | nil => rfl
    | cons b bs ih =>
      show (conts env (bs.map AV.fz)).map _ = _
      have ih' : conts env (bs.map AV.fz) = some bs := by simpa using ih
      rw [ih']; rfl
  | a :: as, _, e => by
    obtain ⟨d, h1, e⟩ := Option.bind_eq_some_iff.mp e
    obtain ⟨ds, h2, e⟩ := Option.map_eq_some_iff.mp e
    cases e
    show (cont1 env a).bind _ = _
    rw [h1]
    show (conts env (as ++ bs.map AV.fz)).map _ = _
    rw [conts_append h2]; rfl
theorem putBack_append {fin : Env} {bs : List D} : ∀ {as : List AV} {j : Nat} {env : Env}, putBack fin j (as ++ bs.map AV.fz) env = putBack fin j as env
  | [], j, env => by
    induction bs generalizing j with
    | nil => rfl
    | cons b bs ih => exact ih (j := j + 1)
  | .ow i :: as, j, env => by
    show (fin[j]?.join).bind _ = (fin[j]?.join).bind _
    cases fin[j]?.join with
    | none => rfl
    | some d => exact putBack_append (as := as)
  | .fz _ :: as, j, env => putBack_append (as := as) (j := j + 1)
  | .tm _ :: as, j, env => putBack_append (as := as) (j := j + 1)
theorem owns_append {bs : List D} : ∀ as : List AV, owns (as ++ bs.map AV.fz) = owns as
  | [] => by
    induction bs with
    | nil => rfl
    | cons b bs ih => exact ih
  | .ow i :: as => congrArg (i :: ·) (owns_append as)
  | .fz _ :: as => owns_append as
  | .tm _ :: as => owns_append as
theorem mem_owns {i : Nat} : ∀ {as : List AV} {j : Nat}, as[j]? = some (.ow i) → i ∈ owns as
  | [], _, e => by simp at e
  | .ow k :: as, 0, e => by simp at e; subst e; exact List.mem_cons_self
  | .fz _ :: as, 0, e => by simp at e
  | .tm _ :: as, 0, e => by simp at e
  | .ow k :: as, j + 1, e => List.mem_cons_of_mem _ (mem_owns (as := as) (j := j) (by simpa using e))
  | .fz _ :: as, j + 1, e => mem_owns (as := as) (j := j) (by simpa using e)
  | .tm _ :: as, j + 1, e => mem_owns (as := as) (j := j) (by simpa using e)
theorem owns_mem {i : Nat} : ∀ {as : List AV}, i ∈ owns as → ∃ j : Nat, as[j]? = some (AV.ow i)
  | [], h => by cases h
  | .ow k :: as, h => by
    rcases List.mem_cons.mp h with rfl | h
    · exact ⟨0, rfl⟩
    · obtain ⟨j, e⟩ := owns_mem h
      exact ⟨j + 1, by simpa using e⟩
  | .fz _ :: as, h => by
    obtain ⟨j, e⟩ := owns_mem (as := as) h
    exact ⟨j + 1, by simpa using e⟩
  | .tm _ :: as, h => by
    obtain ⟨j, e⟩ := owns_mem (as := as) h
    exact ⟨j + 1, by simpa using e⟩
theorem owns_inj {i : Nat} : ∀ {as : List AV} {j l : Nat}, (owns as).Nodup → as[j]? = some (.ow i) → as[l]? = some (.ow i) → j = l
  | [], _, _, _, e, _ => by simp at e
  | a :: as, 0, 0, _, _, _ => rfl
  | a :: as, 0, l + 1, hn, e, e' => by
    simp at e; subst e
    exact absurd (mem_owns (as := as) (j := l) (by simpa using e')) (List.nodup_cons.mp hn).1
  | a :: as, j + 1, 0, hn, e', e => by
    simp at e; subst e
    exact absurd (mem_owns (as := as) (j := j) (by simpa using e')) (List.nodup_cons.mp hn).1
  | .ow k :: as, j + 1, l + 1, hn, e, e' => by rw [owns_inj (as := as) (j := j) (l := l) (List.nodup_cons.mp hn).2 (by simpa using e) (by simpa using e')]
  | .fz _ :: as, j + 1, l + 1, hn, e, e' => by rw [owns_inj (as := as) (j := j) (l := l) hn (by simpa using e) (by simpa using e')]
  | .tm _ :: as, j + 1, l + 1, hn, e, e' => by rw [owns_inj (as := as) (j := j) (l := l) hn (by simpa using e) (by simpa using e')]
theorem putBack_at {fin : Env} : ∀ {as : List AV} {k : Nat} {env e2 : Env}, (owns as).Nodup → putBack fin k as env = some e2 →
    e2.length = env.length ∧ (∀ i : Nat, i ∉ owns as → e2[i]? = env[i]?) ∧ ∀ j i : Nat, as[j]? = some (.ow i) → ∃ d, fin[k + j]?.join = some d ∧ (i < env.length → e2[i]? = some (some d))
  | [], k, env, e2, _, e => by cases e; exact ⟨rfl, fun _ _ => rfl, fun j i e => by simp at e⟩
  | .fz _ :: as, k, env, e2, hn, e => by
    obtain ⟨a, b, c⟩ := putBack_at (as := as) (k := k + 1) hn e
    refine ⟨a, b, fun j i e => ?_⟩
    cases j with
    | zero => simp at e
    | succ j => have := c j i (by simpa using e); rw [show k + (j + 1) = k + 1 + j by omega]; exact this
  | .tm _ :: as, k, env, e2, hn, e => by
    obtain ⟨a, b, c⟩ := putBack_at (as := as) (k := k + 1) hn e
    refine ⟨a, b, fun j i e => ?_⟩
    cases j with
    | zero => simp at e
    | succ j => have := c j i (by simpa using e); rw [show k + (j + 1) = k + 1 + j by omega]; exact this
  | .ow m :: as, k, env, e2, hn, e => by
    obtain ⟨d, h1, e⟩ := Option.bind_eq_some_iff.mp e
    have hn' := List.nodup_cons.mp hn
    obtain ⟨a, b, c⟩ := putBack_at (as := as) (k := k + 1) hn'.2 e
    refine ⟨by rw [a, List.length_set], fun i hi => ?_, fun j i e => ?_⟩
    · have hi' : ¬ (i = m ∨ i ∈ owns as) := fun q => hi (List.mem_cons.mpr q)
      rw [b i fun q => hi' (.inr q), List.getElem?_set_ne fun q => hi' (.inl q.symm)]
    · cases j with
      | zero =>
        simp at e; subst e
        refine ⟨d, h1, fun hl => ?_⟩
        rw [b m hn'.1, List.getElem?_set_self hl]
      | succ j =>
        have := c j i (by simpa using e)
        rw [show k + (j + 1) = k + 1 + j by omega]
        rw [List.length_set] at this
        exact this

def fcOf (F : Fts) (as : List AV) (gs : List (List Addr)) : Fts := fun j => match as[j]? with
  | some (.ow i) => F i
  | some (.tm _) => gs.getD j []
  | _ => []
theorem padE_get {n : Nat} {ds : List D} {j : Nat} {d : D} (h : (padE n ds)[j]? = some (some d)) : ds[j]? = some d := by
  unfold padE at h
  by_cases hj : j < ds.length
  · rw [List.getElem?_append_left (by simpa using hj), List.getElem?_map] at h
    cases e : ds[j]? with
    | none => rw [e] at h; cases h
    | some x => rw [e] at h; simpa using h
  · rw [List.getElem?_append_right (by simpa using hj), List.getElem?_replicate] at h
    split at h
    · cases h
    · cases h
theorem padV_get {n : Nat} {vs : List V} {j : Nat} {v : V} (h : vs[j]? = some v) : (padV n vs)[j]? = some (some v) := by
  unfold padV
  have hj := (List.getElem?_eq_some_iff.mp h).1
  rw [List.getElem?_append_left (by simpa using hj), List.getElem?_map, h]; rfl
def isOw (i : Nat) : AV → Bool
  | .ow m => m == i
  | _ => false
theorem isOw_eq {i : Nat} {a : AV} (h : isOw i a = true) : a = .ow i := by
  cases a with
  | ow m => have e : m = i := by simpa [isOw] using h
            rw [e]
  | fz _ => cases h
  | tm _ => cases h
def f2Of (F1 Fc : Fts) (as : List AV) : Fts := fun i => match as.findIdx? (isOw i) with
  | some j => Fc j
  | none => F1 i
/-- the call of a def, from what is held of its arguments -/
theorem call_core {sg : Sig} {S : SemF} {vs : List V} {as : List AV} {gs : List (List Addr)} {ds : List D} {r : D} {fin : Env} {Q : VK} {E : XK} (s1 : St' K w O Z1 F1 H1 σ env1) (t1 : Step Z F H Z1 F1 H1) (hu : HU K w O Z1 F1 H1 σ vs as gs) (hor : ∀ g ∈ gs, ∀ a ∈ g, H a = none ∨ ∃ i, a ∈ F i)
    (hm : as.map isO = (List.range sg.np).map sg.O) (hnd : (owns as).Nodup) (hc : conts env1 as = some ds) (hS : S ds = some (r, fin)) (hp : putBack fin 0 as env1 = some e2)
    (k : ∀ v Z2 F2 H2, St' K w O Z2 F2 H2 σ e2 → Step Z F H Z2 F2 H2 → RtOk K w sg.ro Z F H Z2 F2 H2 v r → Q v H2) : spOf K w sg S vs H1 Q E := by
  obtain ⟨lv, lg⟩ := hu.lens
  obtain ⟨lc, hat⟩ := conts_at hc
  have la : as.length = sg.np := by simpa using congrArg List.length hm
  have mode : ∀ j a, as[j]? = some a → isO a = sg.O j := fun j a e => by
    have hj : j < as.length := (List.getElem?_eq_some_iff.mp e).1
    have h1 : (as.map isO)[j]? = some (isO a) := by rw [List.getElem?_map, e]; rfl
    rw [hm, List.getElem?_map, List.getElem?_range (by omega)] at h1
    simpa using h1.symm
  have gfc : ∀ j a, a ∈ fcOf F1 as gs j → (∃ i, as[j]? = some (.ow i) ∧ a ∈ F1 i) ∨ ∃ G d, as[j]? = some (.tm d) ∧ gs[j]? = some G ∧ a ∈ G := fun j a h => by
    unfold fcOf at h
    split at h
    · rename_i i e; exact .inl ⟨i, e, h⟩
    · rename_i d e
      cases q : gs[j]? with
      | none => rw [List.getD_eq_getElem?_getD, q] at h; cases h
      | some G => rw [List.getD_eq_getElem?_getD, q] at h; exact .inr ⟨G, d, e, rfl, h⟩
    · cases h
  have fco : ∀ j i, as[j]? = some (.ow i) → fcOf F1 as gs j = F1 i := fun j i e => by unfold fcOf; rw [e]
  have out : ∀ j a, a ∈ fcOf F1 as gs j → ¬ Z1 a ∧ Mut (H1 a) := fun j a h => by
    rcases gfc j a h with ⟨i, _, hi⟩ | ⟨G, d, _, hg, ha⟩
    · exact s1.fz i a hi
    · have := hu.gOut G (List.mem_of_getElem? hg) a ha
      exact ⟨this.1, this.2.2⟩
  have sc : St' K w sg.O Z1 (fcOf F1 as gs) H1 (padV sg.n vs) (padE sg.n ds) := by
    refine ⟨?_, fun j d e o => ?_, fun j d e o => ?_, fun j l a hj hl => ?_, out, s1.zh⟩
    · unfold padV padE
      simp only [List.length_append, List.length_map, List.length_replicate]
      omega
    · obtain ⟨a, e1, e2⟩ := hat j d (padE_get e)
      have hmo := mode j a e1
      rw [o] at hmo
      cases a with
      | fz d' =>
        cases e2
        obtain ⟨v, h1, h2⟩ := hu.fzAt e1
        exact ⟨v, padV_get h1, h2⟩
      | ow i => cases hmo
      | tm d' => cases hmo
    · obtain ⟨a, e1, e2⟩ := hat j d (padE_get e)
      have hmo := mode j a e1
      rw [o] at hmo
      cases a with
      | fz d' => cases hmo
      | ow i =>
        obtain ⟨v, h1, h2, h3⟩ := hu.owAt e1
        have e2' : env1[i]? = some (some d) := by
          have e2 : env1[i]?.join = some d := e2
          cases q : env1[i]? with
          | none => rw [q] at e2; cases e2
          | some x => rw [q] at e2; cases x with
            | none => cases e2
            | some y => cases e2; rfl
        obtain ⟨v', h4, h5⟩ := s1.own i d e2' h3
        rw [h2] at h4; cases h4
        exact ⟨v, padV_get h1, by rw [fco j i e1]; exact h5⟩
      | tm d' =>
        cases e2
        obtain ⟨v, G, h1, h2, h3⟩ := hu.tmAt e1
        refine ⟨v, padV_get h1, ?_⟩
        have : fcOf F1 as gs j = G := by unfold fcOf; rw [e1, List.getD_eq_getElem?_getD, h2]; rfl
        rw [this]; exact h3
    · rcases gfc j a hj with ⟨i, e1, h1⟩ | ⟨G, d, e1, hg, h1⟩
      · rcases gfc l a hl with ⟨i', e1', h1'⟩ | ⟨G', d', e1', hg', h1'⟩
        · have := s1.sep i i' a h1 h1'
          subst this
          exact owns_inj hnd e1 e1'
        · exact absurd h1 ((hu.gOut G' (List.mem_of_getElem? hg') a h1').2.1 i)
      · rcases gfc l a hl with ⟨i', e1', h1'⟩ | ⟨G', d', e1', hg', h1'⟩
        · exact absurd h1' ((hu.gOut G (List.mem_of_getElem? hg) a h1).2.1 i')
        · exact hu.gSep hg hg' h1 h1'
  refine ⟨by omega, Z1, fcOf F1 as gs, ds, r, fin, by omega, sc, hS, fun v σ2 Z2 Fc H2 s2 t2 pr rt => ?_⟩
  obtain ⟨pl, pn, po⟩ := putBack_at hnd hp
  -- the caller's slots behind the call
  have ex : ∀ i, i ∈ owns as → ∃ j : Nat, as[j]? = some (.ow i) := fun i h => owns_mem h
  have pick : ∃ F2 : Fts, (∀ i, i ∉ owns as → F2 i = F1 i) ∧ ∀ j i, as[j]? = some (.ow i) → F2 i = Fc j := by
    refine ⟨f2Of F1 Fc as, fun i hi => ?_, fun j i e => ?_⟩
    · unfold f2Of
      cases q : as.findIdx? (isOw i) with
      | none => rfl
      | some j =>
        obtain ⟨hj, h1, _⟩ := List.findIdx?_eq_some_iff_getElem.mp q
        exact absurd (mem_owns (j := j) (by rw [List.getElem?_eq_getElem hj, isOw_eq h1])) hi
    · unfold f2Of
      cases q : as.findIdx? (isOw i) with
      | none =>
        have := List.findIdx?_eq_none_iff.mp q _ (List.mem_of_getElem? e)
        simp [isOw] at this
      | some l =>
        obtain ⟨hj, h1, _⟩ := List.findIdx?_eq_some_iff_getElem.mp q
        have : l = j := owns_inj hnd (by rw [List.getElem?_eq_getElem hj, isOw_eq h1]) e
        rw [this]
  obtain ⟨F2, f1, f2⟩ := pick
  have kp : Kp Z1 H1 Z2 H2 := sc.kp t2
  -- what was allocated and nobody handed over is kept
  have nofc : ∀ i, i ∉ owns as → ∀ a ∈ F1 i, ∀ j, a ∉ fcOf F1 as gs j := fun i hi a ha j hj => by
    rcases gfc j a hj with ⟨m, e1, h1⟩ | ⟨G, d, e1, hg, h1⟩
    · have := s1.sep i m a ha h1
      subst this
      exact hi (mem_owns e1)
    · exact (hu.gOut G (List.mem_of_getElem? hg) a h1).2.1 i ha
  have al1 : ∀ i a, a ∈ F1 i → H1 a ≠ none := fun i a h => Mut.ne (s1.fz i a h).2
  have keptF : ∀ i, i ∉ owns as → ∀ a ∈ F1 i, ∀ o, H1 a = some o → H2 a = some o := fun i hi a ha o e => t2.keep a o e (nofc i hi a ha)
  have F2in : ∀ i a, a ∈ F2 i → (i ∉ owns as ∧ a ∈ F1 i) ∨ ∃ j, as[j]? = some (.ow i) ∧ a ∈ Fc j := fun i a h => by
    by_cases hi : i ∈ owns as
    · obtain ⟨j, e⟩ := ex i hi
      rw [f2 j i e] at h
      exact .inr ⟨j, e, h⟩
    · rw [f1 i hi] at h
      exact .inl ⟨hi, h⟩
  have apart : ∀ i, i ∉ owns as → ∀ a ∈ F1 i, ∀ j, a ∉ Fc j := fun i hi a ha j hj => by
    rcases t2.fn j a hj with q | ⟨l, q⟩
    · exact al1 i a ha q
    · exact nofc i hi a ha l q
  have s3 : St' K w O Z2 F2 H2 σ e2 := by
    refine ⟨by rw [pl]; exact s1.len, fun i d e o => ?_, fun i d e o => ?_, fun i l a hi hl => ?_, fun i a hi => ?_, s2.zh⟩
    · have hi : i ∉ owns as := fun h => by
        obtain ⟨j, ej⟩ := ex i h
        obtain ⟨v, _, _, h3⟩ := hu.owAt ej
        rw [h3] at o; cases o
      rw [pn i hi] at e
      obtain ⟨v, e1, r1⟩ := s1.frz i d e o
      exact ⟨v, e1, r1.kp kp⟩
    · by_cases hi : i ∈ owns as
      · obtain ⟨j, ej⟩ := ex i hi
        obtain ⟨v, h1, h2, h3⟩ := hu.owAt ej
        obtain ⟨d', h4, h5⟩ := po j i ej
        have hil : i < env1.length := by
          have := (List.getElem?_eq_some_iff.mp e).1
          omega
        rw [h5 hil] at e
        cases e
        rw [Nat.zero_add] at h4
        have hf : fin[j]? = some (some d) := by
          cases q : fin[j]? with
          | none => rw [q] at h4; cases h4
          | some x => rw [q] at h4; cases x with
            | none => cases h4
            | some y => cases h4; rfl
        have hjo : sg.O j = true := by rw [← mode j _ ej]; rfl
        obtain ⟨v', h6, h7⟩ := s2.own j d hf hjo
        have hjn : j < sg.np := by rw [← la]; exact (List.getElem?_eq_some_iff.mp ej).1
        rw [pr j hjn hjo, padV_get h1] at h6
        cases h6
        exact ⟨v, h2, by rw [f2 j i ej]; exact h7⟩
      · rw [pn i hi] at e
        obtain ⟨v, e1, r1⟩ := s1.own i d e o
        exact ⟨v, e1, by rw [f1 i hi]; exact r1.kp kp (keptF i hi)⟩
    · rcases F2in i a hi with ⟨n1, a1⟩ | ⟨j, e1, a1⟩
      · rcases F2in l a hl with ⟨n2, a2⟩ | ⟨j', e1', a2⟩
        · exact s1.sep i l a a1 a2
        · exact absurd a2 (apart i n1 a a1 j')
      · rcases F2in l a hl with ⟨n2, a2⟩ | ⟨j', e1', a2⟩
        · exact absurd a1 (apart l n2 a a2 j)
        · have := s2.sep j j' a a1 a2
          subst this
          rw [e1] at e1'
          cases e1'; rfl
    · rcases F2in i a hi with ⟨n1, a1⟩ | ⟨j, e1, a1⟩
      · refine ⟨fun z => ?_, ?_⟩
        · rcases t2.zn a z with q | q | ⟨l, q⟩
          · exact (s1.fz i a a1).1 q
          · exact al1 i a a1 q
          · exact nofc i n1 a a1 l q
        · cases q : H1 a with
          | none => exact absurd q (al1 i a a1)
          | some o =>
            rw [keptF i n1 a a1 o q, ← q]
            exact (s1.fz i a a1).2
      · exact s2.fz j a a1
  have inFc : ∀ j a, a ∈ fcOf F1 as gs j → (∃ i, a ∈ F1 i) ∨ ∃ g ∈ gs, a ∈ g := fun j a h => by
    rcases gfc j a h with ⟨i, _, hi⟩ | ⟨G, d, _, hg, ha⟩
    · exact .inl ⟨i, hi⟩
    · exact .inr ⟨G, List.mem_of_getElem? hg, ha⟩
  have orF : ∀ j a, a ∈ fcOf F1 as gs j → H a = none ∨ ∃ i, a ∈ F i := fun j a h => by
    rcases inFc j a h with ⟨i, hi⟩ | ⟨g, hg, ha⟩
    · exact t1.fn i a hi
    · exact hor g hg a ha
  have t3 : Step Z F H Z2 F2 H2 := by
    refine ⟨fun a o e hf => ?_, fun a z => t2.zs a (t1.zs a z), fun a z => ?_, fun i a hi => ?_, fun a h => t2.al a (t1.al a h)⟩
    · refine t2.keep a o (t1.keep a o e hf) fun j hj => ?_
      rcases orF j a hj with q | ⟨i, q⟩
      · rw [q] at e; cases e
      · exact hf i q
    · rcases t2.zn a z with q | q | ⟨j, q⟩
      · exact t1.zn a q
      · exact .inr (.inl (fresh0 t1 q))
      · exact .inr (orF j a q)
    · rcases F2in i a hi with ⟨_, a1⟩ | ⟨j, _, a1⟩
      · exact t1.fn i a a1
      · rcases t2.fn j a a1 with q | ⟨l, q⟩
        · exact .inl (fresh0 t1 q)
        · exact orF l a q
  refine k v Z2 F2 H2 s3 t3 ?_
  unfold RtOk at rt ⊢
  split
  · rename_i h
    rw [if_pos h] at rt
    obtain ⟨G, r1, sp⟩ := rt
    refine ⟨G, r1, fun a ha => ?_⟩
    obtain ⟨p1, p2, p3⟩ := sp a ha
    refine ⟨p1, fun i hi => ?_, ?_⟩
    · rcases F2in i a hi with ⟨n1, a1⟩ | ⟨j, _, a1⟩
      · rcases p3 with q | ⟨l, q⟩
        · exact al1 i a a1 q
        · exact nofc i n1 a a1 l q
      · exact p2 j a1
    · rcases p3 with q | ⟨l, q⟩
      · exact .inl (fresh0 t1 q)
      · exact orF l a q
  · rename_i h
    rw [if_neg h] at rt
    exact rt
end
section
variable {X : Cx} {O : Nat → Bool} {e : Expr} {es : List Expr} {pos : Pos}
def uN : UF := fun env => some ([], env)
def uF (f : EF) (r : UF) : UF := fun env => (f env).bind fun p => (r p.2).map fun q => (.fz p.1 :: q.1, q.2)
def uT (f : EF) (r : UF) : UF := fun env => (f env).bind fun p => (r p.2).map fun q => (.tm p.1 :: q.1, q.2)
def uO (i : Nat) (r : UF) : UF := fun env => (env[i]?.join).bind fun _ => (r env).map fun q => (.ow i :: q.1, q.2)
theorem du_nil : PA X [] (tU X.K X.w O uN) := by
  refine pa_nil.mono fun σ H Q h => ?_
  obtain ⟨Z, F, env, rs, env1, s, e, k⟩ := h
  cases e
  exact k [] [] Z F H s Step.refl .nil fun g hg => by cases hg
theorem du_f {f : EF} {r : UF} (ha : PE X e (tE X.K X.w O f)) (hr : PA X es (tU X.K X.w O r)) (hs : starEach (e :: es) X.env = (false, eval e X.env) :: starEach es X.env) : PA X (e :: es) (tU X.K X.w O (uF f r)) := by
  refine (pa_cons ha hr hs).mono fun σ H Q h => ?_
  obtain ⟨Z, F, env, ds, env1, s, e, k⟩ := h
  obtain ⟨⟨d, ea⟩, q1, e⟩ := Option.bind_eq_some_iff.mp e
  obtain ⟨⟨rb, eb⟩, q2, e⟩ := Option.map_eq_some_iff.mp e
  cases e
  refine ⟨Z, F, env, d, ea, s, q1, fun v Z1 F1 H1 s1 t1 h1 => ⟨Z1, F1, ea, rb, eb, s1, q2, fun vs gs Z2 F2 H2 s2 t2 h2 o2 => ?_⟩⟩
  refine k (v :: vs) ([] :: gs) Z2 F2 H2 s2 (t1.trans t2) (.fz (h1.kp (s1.kp t2)) h2) fun g hg a ha => ?_
  rcases List.mem_cons.mp hg with rfl | hg
  · cases ha
  · rcases o2 g hg a ha with q | ⟨i, q⟩
    · exact .inl (fresh0 t1 q)
    · exact t1.fn i a q
theorem du_o {i : Nat} {x : Str} {p : Pos} {r : UF} (hN : X.N[i]? = some x) (hv : Vis X.env.scope x) (ho : O i = true) (hd : (x == ("__debug__" : Str)) = false) (hcd : (x == ("__classdict__" : Str)) = false) (hr : PA X es (tU X.K X.w O r))
    (hs : starEach ((.Name x p) :: es) X.env = (false, eval (.Name x p) X.env) :: starEach es X.env) : PA X ((.Name x p) :: es) (tU X.K X.w O (uO i r)) := by
  refine (pa_cons (pe_var hN hv hd hcd) hr hs).mono fun σ H Q h => ?_
  obtain ⟨Z, F, env, ds, env1, s, e, k⟩ := h
  obtain ⟨d, q1, e⟩ := Option.bind_eq_some_iff.mp e
  obtain ⟨⟨rb, eb⟩, q2, e⟩ := Option.map_eq_some_iff.mp e
  cases e
  have q : env[i]? = some (some d) := by
    cases z : env[i]? with
    | none => rw [z] at q1; cases q1
    | some o => rw [z] at q1; cases o with
      | none => cases q1
      | some d' => cases q1; rfl
  obtain ⟨v, e1, _⟩ := s.own i d q ho
  refine ⟨v, e1, Z, F, env, rb, _, s, q2, fun vs gs Z2 F2 H2 s2 t2 h2 o2 => ?_⟩
  refine k (v :: vs) ([] :: gs) Z2 F2 H2 s2 t2 (.ow e1 ho h2) fun g hg a ha => ?_
  rcases List.mem_cons.mp hg with rfl | hg
  · cases ha
  · exact o2 g hg a ha
theorem du_t {f : EF} {r : UF} (ha : PE X e (tO X.K X.w O f)) (hr : PA X es (tU X.K X.w O r)) (hs : starEach (e :: es) X.env = (false, eval e X.env) :: starEach es X.env) : PA X (e :: es) (tU X.K X.w O (uT f r)) := by
  refine (pa_cons ha hr hs).mono fun σ H Q h => ?_
  obtain ⟨Z, F, env, ds, env1, s, e, k⟩ := h
  obtain ⟨⟨d, ea⟩, q1, e⟩ := Option.bind_eq_some_iff.mp e
  obtain ⟨⟨rb, eb⟩, q2, e⟩ := Option.map_eq_some_iff.mp e
  cases e
  refine ⟨Z, F, env, d, ea, s, q1, fun v Z1 F1 H1 G s1 t1 h1 sp => ⟨Z1, F1, ea, rb, eb, s1, q2, fun vs gs Z2 F2 H2 s2 t2 h2 o2 => ?_⟩⟩
  have mu := h1.mut
  have al : ∀ a ∈ G, H1 a ≠ none := fun a ha => Mut.ne (mu a ha)
  refine k (v :: vs) (G :: gs) Z2 F2 H2 s2 (t1.trans t2) (.tm (h1.kp (s1.kp t2) fun a ha o e => t2.keep a o e (sp a ha).2.1) (fun a ha => ⟨fun z => ?_, fun i hi => ?_, fun g hg hh => ?_⟩) h2) fun g hg a ha => ?_
  · rcases t2.zn a z with q | q | ⟨i, q⟩
    · exact (sp a ha).1 q
    · exact al a ha q
    · exact (sp a ha).2.1 i q
  · rcases t2.fn i a hi with q | ⟨j, q⟩
    · exact al a ha q
    · exact (sp a ha).2.1 j q
  · rcases o2 g hg a hh with q | ⟨j, q⟩
    · exact al a ha q
    · exact (sp a ha).2.1 j q
  · rcases List.mem_cons.mp hg with rfl | hg
    · exact (sp a ha).2.2
    · rcases o2 g hg a ha with q | ⟨i, q⟩
      · exact .inl (fresh0 t1 q)
      · exact t1.fn i a q
theorem call_red {K : PySem.W.Frag} {w : World} {sg : Sig} {S : SemF} {u : UF} {dvs : List V} {dds : List D} {ms : List Bool} {E : XK} (hms : ms = (List.range sg.np).map sg.O) (hd : ∀ Z H, RepL K w Z H dvs dds) {σ : L2.St} {H : Hp} {Q : VK}
    (h : ∃ Z F env d env1, St' K w O Z F H σ env ∧ eCall ms S dds u env = some (d, env1) ∧ ∀ v Z1 F1 H1, St' K w O Z1 F1 H1 σ env1 → Step Z F H Z1 F1 H1 → RtOk K w sg.ro Z F H Z1 F1 H1 v d → Q v H1) :
    tU K w O u σ H fun vs H1 => spOf K w sg S (vs ++ dvs) H1 Q E := by
  obtain ⟨Z, F, env, d, env1, s, e, k⟩ := h
  obtain ⟨⟨as, ea⟩, q1, e⟩ := Option.bind_eq_some_iff.mp e
  split at e
  · rename_i hc
    obtain ⟨ds, q2, e⟩ := Option.bind_eq_some_iff.mp e
    obtain ⟨⟨r, fin⟩, q3, e⟩ := Option.bind_eq_some_iff.mp e
    obtain ⟨e2, q4, e⟩ := Option.map_eq_some_iff.mp e
    cases e
    refine ⟨Z, F, env, as, ea, s, q1, fun vs gs Z1 F1 H1 s1 t1 hu ho => ?_⟩
    refine call_core (as := as ++ dds.map AV.fz) (gs := gs ++ dds.map fun _ => []) s1 t1 (hu.append (HU.frz (hd Z1 H1)) fun h hh => ?_) (fun g hg a ha => ?_) ?_ ?_ (conts_append q2) q3 ?_ k
    · obtain ⟨_, _, e⟩ := List.mem_map.mp hh
      exact e.symm
    · rcases List.mem_append.mp hg with z | z
      · exact ho g z a ha
      · obtain ⟨_, _, e⟩ := List.mem_map.mp z
        rw [← e] at ha; cases ha
    · rw [← hms, ← hc.1, List.map_append, List.map_map]; rfl
    · rw [owns_append]; exact hc.2
    · rw [putBack_append]; exact q4
  · cases e
variable {f : Addr} {fd : FuncData} {ps : List Str} {x : Str} {p : Pos} {k : Nat} {ds : List Value} {sg : Sig} {S : SemF} {u : UF} {dvs : List V} {dds : List D} {ms : List Bool}
theorem de_call (FN : FnOk X.prog X.w X.K X.mg X.base CX0 k f fd ps (spOf X.K X.w sg S)) (hr : Room k X.A) (hg : Gl X x) (hm : X.mg x = some (.ref f)) (hk : PySem.W.keepIn X.K (.ref f) = true) (hb : Binds X.K fd ps ds) (hv : Vals dvs ds) (hd : ∀ Z H, RepL X.K X.w Z H dvs dds)
    (hro : sg.ro = false) (hms : ms = (List.range sg.np).map sg.O) (ha : PA X (e :: es) (tU X.K X.w O u)) (hdb : (x == ("__debug__" : Str)) = false) (he : starEach (e :: es) X.env = (false, eval e X.env) :: starEach es X.env)
    (hpl : (backTo pos (starEach es X.env)).any (·.1) = false) : PE X (.Call (.Name x p) (e :: es) [] pos) (tE X.K X.w O (eCall ms S dds u)) := by
  refine (pe_call FN hr hg hm hk hb hv pass0 ha hdb he hpl).mono fun σ H Q h => ?_
  refine call_red hms hd ?_
  obtain ⟨Z, F, env, d, env1, s, e, k⟩ := h
  exact ⟨Z, F, env, d, env1, s, e, fun v Z1 F1 H1 s1 t1 r => k v Z1 F1 H1 s1 t1 (by unfold RtOk at r; rw [hro, if_neg Bool.false_ne_true] at r; exact r)⟩
theorem do_call (FN : FnOk X.prog X.w X.K X.mg X.base CX0 k f fd ps (spOf X.K X.w sg S)) (hr : Room k X.A) (hg : Gl X x) (hm : X.mg x = some (.ref f)) (hk : PySem.W.keepIn X.K (.ref f) = true) (hb : Binds X.K fd ps ds) (hv : Vals dvs ds) (hd : ∀ Z H, RepL X.K X.w Z H dvs dds)
    (hro : sg.ro = true) (hms : ms = (List.range sg.np).map sg.O) (ha : PA X (e :: es) (tU X.K X.w O u)) (hdb : (x == ("__debug__" : Str)) = false) (he : starEach (e :: es) X.env = (false, eval e X.env) :: starEach es X.env)
    (hpl : (backTo pos (starEach es X.env)).any (·.1) = false) : PE X (.Call (.Name x p) (e :: es) [] pos) (tO X.K X.w O (eCall ms S dds u)) := by
  refine (pe_call FN hr hg hm hk hb hv pass0 ha hdb he hpl).mono fun σ H Q h => ?_
  refine call_red hms hd ?_
  obtain ⟨Z, F, env, d, env1, s, e, k⟩ := h
  exact ⟨Z, F, env, d, env1, s, e, fun v Z1 F1 H1 s1 t1 r => by
    unfold RtOk at r; rw [hro, if_pos rfl] at r
    obtain ⟨G, r1, sp⟩ := r
    exact k v Z1 F1 H1 G s1 t1 r1 sp⟩
/-! a def's body keeps its promise -/
def semOf (sg : Sig) (g : SF) : SemF := fun ds => if ds.length = sg.np then (g (padE sg.n ds)).bind fun p => match p.1 with
  | .rt d => some (d, p.2)
  | .nx => if sg.ro = true then none else some (.non, p.2)
  | _ => none else none
def prot (sg : Sig) : Nat → Bool := fun j => decide (j < sg.np) && sg.O j
theorem fn_body {P : Program} {w : World} {K : PySem.W.Frag} {mg : Str → Option Value} {base : Heap} {x qual : Str} {params : Arguments} {body : List Stmt} {scope : Scope} {dvs : List V} {kws : List (Str × V)} {f : Addr} {fd : FuncData} {N ps : List Str} {k : Nat} {sg : Sig} {g : SF}
    (F : FunD K x qual params body scope dvs kws f fd) (S : FnScope N ps scope) (hn : N.length = sg.n) (hp : ps.length = sg.np)
    (hb : ∀ (cdv : Value) (A : Around) (outer : List PySem.Env) (s : Shared) (H : Hp) (E : XK), Room k (A.deeper (envOfC qual scope s.heap.objs.size f cdv)) → PSs (cxOf CX0 P w K mg base N qual scope f cdv A outer s H E).nox body (tS K w sg.O (prot sg) sg.ro g)) :
    FnOk P w K mg base CX0 (k + 1) f fd ps (spOf K w sg (semOf sg g)) := by
  refine F.ok S (fun vs H Q E h => by rw [h.1, hp]) fun cdv A outer s H vs Q E hr h => ⟨_, PSs.nox (hb cdv A outer s H E hr), ?_⟩
  obtain ⟨hl, Z, F', ds, r, fin, hl2, st, e, kk⟩ := h
  unfold semOf at e
  rw [if_pos hl2] at e
  obtain ⟨⟨o, e1⟩, q1, e⟩ := Option.bind_eq_some_iff.mp e
  have hst : L2.start N vs = padV sg.n vs := by unfold L2.start padV; rw [hn]
  rw [hst]
  refine ⟨Z, F', _, o, e1, st, q1, fun σ1 Z1 F1 H1 s1 t1 p1 => ?_⟩
  have pp : ∀ j, j < sg.np → sg.O j = true → σ1[j]? = (padV sg.n vs)[j]? := fun j h1 h2 => p1 j (by unfold prot; rw [h2, decide_eq_true h1]; rfl)
  cases o with
  | rt d => cases e; exact fun v rt => kk v σ1 Z1 F1 H1 s1 t1 pp rt
  | nx =>
    have e : (if sg.ro = true then none else some (D.non, e1)) = some (r, fin) := e
    by_cases hro : sg.ro = true
    · rw [if_pos hro] at e; cases e
    · rw [if_neg hro] at e
      cases e
      exact kk .non σ1 Z1 F1 H1 s1 t1 pp (by unfold RtOk; rw [if_neg hro]; exact .non)
  | bk => cases e
  | ct => cases e
end
end Ev

end

section
set_option Elab.async false
set_option linter.all false
set_option maxRecDepth 100000
/-! Ev7: operators over data. -/
namespace Ev
open PySem PySem.Spec PyProof.Rows L2
section
variable {K : PySem.W.Frag} {w : World} {Z : Addr → Prop} {H : Hp} {v : V}
theorem RepX.intv {i : Int} (r : RepX K w Z H v (.int i)) : v = .int i := by
  cases r with
  | d r => exact r.intv
  | o r => cases r
theorem RepX.strv {i : Str} (r : RepX K w Z H v (.str i)) : v = .str i := by
  cases r with
  | d r => exact r.strv
  | o r => cases r
theorem RepX.blv {i : Bool} (r : RepX K w Z H v (.bl i)) : v = .bl i := by
  cases r with
  | d r => exact r.blv
  | o r => cases r
theorem RepX.nonv (r : RepX K w Z H v .non) : v = .non := by
  cases r with
  | d r => exact r.nonv
  | o r => cases r
theorem RepX.tupv {ds : List D} (r : RepX K w Z H v (.tup ds)) : RepD K w Z H v (.tup ds) ∧ ∃ a vs, v = .ref a ∧ SqT K H a vs ∧ RepL K w Z H vs ds := by
  cases r with
  | d r =>
    refine ⟨r, ?_⟩
    cases r with
    | tup h l => exact ⟨_, _, rfl, h, l⟩
  | o r => cases r
theorem RepX.lstv {ds : List D} (r : RepX K w Z H v (.lst ds)) : ∃ a vs, v = .ref a ∧ H a = some (.lst vs) ∧ RepL K w Z H vs ds := by
  cases r with
  | d r =>
    cases r with
    | lst h _ l => exact ⟨_, _, rfl, h, l⟩
  | o r =>
    cases r with
    | lst h l => exact ⟨_, _, rfl, h, l⟩
theorem RepX.scrv {ns : List Int} (r : RepX K w Z H v (.scr ns)) : ∃ a, v = .ref a ∧ SqL K H a (ns.map V.int) := by
  cases r with
  | d r =>
    cases r with
    | scr h =>
      rcases h with ⟨h, _⟩ | h
      · exact ⟨_, rfl, .inl h⟩
      · exact ⟨_, rfl, .inr h⟩
  | o r => cases r
end
/-! plain data -/
mutual
def py : D → PyData
  | .non => .none
  | .bl b => .bool b
  | .int i => .int i
  | .str x => .str x
  | .tup xs => .tuple (pyL xs)
  | .lst xs => .list (pyL xs)
  | .dic _ _ => .none
  | .exc _ _ _ => .none
  | .scr _ => .none
def pyL : List D → List PyData
  | [] => []
  | x :: xs => py x :: pyL xs
end
mutual
def plain : D → Bool
  | .tup xs => plainL xs
  | .lst xs => plainL xs
  | .dic _ _ => false
  | .exc _ _ _ => false
  | .scr _ => false
  | .non | .bl _ | .int _ | .str _ => true
def plainL : List D → Bool
  | [] => true
  | x :: xs => plain x && plainL xs
end
section
variable {K : PySem.W.Frag} {w : World} {Z : Addr → Prop} {H : Hp}
mutual
theorem RepD.dp : ∀ {v : V} {d : D}, RepD K w Z H v d → plain d = true → Dp K H v (py d)
  | _, _, .non, _ => .non
  | _, _, .bl b, _ => .bl b
  | _, _, .int i, _ => .int i
  | _, _, .str x, _ => .str x
  | _, _, .tup h l, e => .tup h (RepL.dp l e)
  | _, _, .lst h _ l, e => .lst (SqL.of h) (RepL.dp l e)
  | _, _, .dic _ _ _, e => by cases e
  | _, _, .kdic _ _ _, e => by cases e
  | _, _, .exc _ _ _ _ _ _, e => by cases e
  | _, _, .exc0 _ _, e => by cases e
  | _, _, .scr _, e => by cases e
theorem RepL.dp : ∀ {vs : List V} {ds : List D}, RepL K w Z H vs ds → plainL ds = true → DpAll K H vs (pyL ds)
  | _, _, .nil, _ => .nil
  | _, _, .cons r l, e => by
    have e' := Bool.and_eq_true_iff.mp (show (plain _ && plainL _) = true from e)
    exact .cons (RepD.dp r e'.1) (RepL.dp l e'.2)
end
theorem RepX.dp {v : V} {d : D} (r : RepX K w Z H v d) (e : plain d = true) : Dp K H v (py d) := by
  cases r with
  | d r => exact r.dp e
  | o r =>
    cases r with
    | lst h l => exact .lst (SqL.of h) (l.dp e)
    | dic _ _ => cases e
end
def okD (d : D) : Bool := plain d && SeqAt.shaped (py d)
theorem okD_of {d : D} (h : okD d = true) : plain d = true ∧ SeqAt.shaped (py d) = true := Bool.and_eq_true_iff.mp h
/-! ### == -/
def eqD : D → D → Option D := fun a b => match a, b with
  | .str x, .str y => some (.bl (decide (x = y)))
  | .int x, .int y => some (.bl (decide (x = y)))
  | .bl x, .bl y => some (.bl (decide (x = y)))
  | a, b => if okD a = true ∧ okD b = true then some (.bl (PyData.eqv (py a) (py b))) else none
def neD : D → D → Option D := fun a b => match eqD a b with
  | some (.bl c) => some (.bl (!c))
  | _ => none
abbrev rEq2 (K : PySem.W.Frag) : R2 := fun x y H Q => rEq x y H Q ∨ rEqD K x y H Q
abbrev rNe2 (K : PySem.W.Frag) : R2 := fun x y H Q => rNe x y H Q ∨ rNeD K x y H Q
theorem eqD_ok {K : PySem.W.Frag} {w : World} {Z : Addr → Prop} {H : Hp} {x y : V} {a b d : D} (rx : RepX K w Z H x a) (ry : RepX K w Z H y b) (e : eqD a b = some d) :
    ∃ c : Bool, d = .bl c ∧ ((scal x y = true ∧ decide (x = y) = c) ∨ ∃ p q, Dp K H x p ∧ Dp K H y q ∧ SeqAt.shaped p = true ∧ SeqAt.shaped q = true ∧ PyData.eqv p q = c) := by
  unfold eqD at e
  split at e
  · cases e
    rw [rx.strv, ry.strv]
    refine ⟨_, rfl, .inl ⟨rfl, ?_⟩⟩
    rw [dec_str, Bool.beq_eq_decide_eq]
  · cases e
    rw [rx.intv, ry.intv]
    refine ⟨_, rfl, .inl ⟨rfl, ?_⟩⟩
    rw [dec_int, Bool.beq_eq_decide_eq]
  · cases e
    rw [rx.blv, ry.blv]
    refine ⟨_, rfl, .inl ⟨rfl, ?_⟩⟩
    rw [dec_bl, Bool.beq_eq_decide_eq]
  · split at e
    · rename_i h
      cases e
      obtain ⟨h1, h2⟩ := okD_of h.1
      obtain ⟨h3, h4⟩ := okD_of h.2
      exact ⟨_, rfl, .inr ⟨_, _, rx.dp h1, ry.dp h3, h2, h4, rfl⟩⟩
    · cases e
section
variable {K : PySem.W.Frag} {w : World}
theorem ok_eq : Ok2 K w (rEq2 K) eqD := fun Z H x y a b d Q zh rx ry e k => by
  obtain ⟨c, rfl, ⟨h1, h2⟩ | ⟨p, q, h1, h2, h3, h4, h5⟩⟩ := eqD_ok rx ry e
  · exact .inl ⟨h1, by rw [h2]; exact k _ Z H (Grow.refl zh) (.bl _)⟩
  · exact .inr ⟨p, q, h1, h2, h3, h4, by rw [h5]; exact k _ Z H (Grow.refl zh) (.bl _)⟩
theorem ok_ne : Ok2 K w (rNe2 K) neD := fun Z H x y a b d Q zh rx ry e k => by
  unfold neD at e
  split at e
  · rename_i c' e'
    cases e
    obtain ⟨c, hc, ⟨h1, h2⟩ | ⟨p, q, h1, h2, h3, h4, h5⟩⟩ := eqD_ok rx ry e'
    · cases hc
      exact .inl ⟨h1, by rw [h2]; exact k _ Z H (Grow.refl zh) (.bl _)⟩
    · cases hc
      exact .inr ⟨p, q, h1, h2, h3, h4, by rw [h5]; exact k _ Z H (Grow.refl zh) (.bl _)⟩
  · cases e
/-! ### arithmetic -/
def i2 (g : Int → Int → D) : D → D → Option D := fun a b => match a, b with
  | .int x, .int y => some (g x y)
  | _, _ => none
theorem ok_i2 {C : Int → Int → V} {g : Int → Int → D} (h : ∀ i j Z H, RepD K w Z H (C i j) (g i j)) : Ok2 K w (rI0 C) (i2 g) := fun Z H x y a b d Q zh rx ry e k => by
  unfold i2 at e
  split at e
  · cases e
    exact ⟨_, _, rx.intv, ry.intv, k _ Z H (Grow.refl zh) (h _ _ _ _)⟩
  · cases e
def subD := i2 fun i j => .int (i - j)
theorem ok_sub : Ok2 K w (rI0 fun i j => .int (i - j)) subD := ok_i2 fun _ _ _ _ => .int _
def ltI := i2 fun i j => .bl (decide (i < j))
def leI := i2 fun i j => .bl (decide (i ≤ j))
def gtI := i2 fun i j => .bl (decide (j < i))
def geI := i2 fun i j => .bl (decide (j ≤ i))
theorem ok_lt : Ok2 K w (rI0 fun i j => .bl (decide (i < j))) ltI := ok_i2 fun _ _ _ _ => .bl _
theorem ok_le : Ok2 K w (rI0 fun i j => .bl (decide (i ≤ j))) leI := ok_i2 fun _ _ _ _ => .bl _
theorem ok_gt : Ok2 K w (rI0 fun i j => .bl (decide (j < i))) gtI := ok_i2 fun _ _ _ _ => .bl _
theorem ok_ge : Ok2 K w (rI0 fun i j => .bl (decide (j ≤ i))) geI := ok_i2 fun _ _ _ _ => .bl _
def modD : D → D → Option D := fun a b => match a, b with
  | .int x, .int y => if 0 < y then some (.int (x % y)) else none
  | _, _ => none
theorem ok_mod : Ok2 K w (rI (fun _ j => 0 < j) fun i j => .int (i % j)) modD := fun Z H x y a b d Q zh rx ry e k => by
  unfold modD at e
  split at e
  · split at e
    · rename_i h
      cases e
      exact ⟨_, _, rx.intv, ry.intv, h, k _ Z H (Grow.refl zh) (.int _)⟩
    · cases e
  · cases e
def fdivD : D → D → Option D := fun a b => match a, b with
  | .int x, .int y => if 0 < y ∧ y.natAbs.log2 < 9000 then some (.int (x / y)) else none
  | _, _ => none
theorem ok_fdiv : Ok2 K w (rI CDivW fun i j => .int (i / j)) fdivD := fun Z H x y a b d Q zh rx ry e k => by
  unfold fdivD at e
  split at e
  · split at e
    · rename_i h
      cases e
      exact ⟨_, _, rx.intv, ry.intv, h, k _ Z H (Grow.refl zh) (.int _)⟩
    · cases e
  · cases e
def powD : D → D → Option D := fun a b => match a, b with
  | .int x, .int y => if 0 ≤ y ∧ y ≤ 1000000 ∧ x.natAbs < 18446744073709551616 then some (.int (x ^ y.toNat)) else none
  | _, _ => none
theorem ok_pow : Ok2 K w (rI CPow fun i j => .int (i ^ j.toNat)) powD := fun Z H x y a b d Q zh rx ry e k => by
  unfold powD at e
  split at e
  · split at e
    · rename_i h
      cases e
      exact ⟨_, _, rx.intv, ry.intv, h, k _ Z H (Grow.refl zh) (.int _)⟩
    · cases e
  · cases e
/-! ### + and * -/
def addD : D → D → Option D := fun a b => match a, b with
  | .int x, .int y => some (.int (x + y))
  | .str x, .str y => if x.length + y.length ≤ 16777216 then some (.str (x ++ y)) else none
  | .tup x, .tup y => if x.length + y.length ≤ 16777216 then some (.tup (x ++ y)) else none
  | .lst x, .lst y => if x.length + y.length ≤ 16777216 then some (.lst (x ++ y)) else none
  | _, _ => none
abbrev rStrA : R2 := fun x y H Q => ∃ i j, x = .str i ∧ y = .str j ∧ i.length + j.length ≤ sizeLine ∧ Q (.str (i ++ j)) H
abbrev rAdd4 (K : PySem.W.Frag) : R2 := fun x y H Q => (rI0 fun i j => .int (i + j)) x y H Q ∨ (rStrA x y H Q ∨ (rCatA K x y H Q ∨ rCat x y H Q))
theorem newT {Z : Addr → Prop} {H : Hp} {p : Addr} {vs : List V} {ds : List D} (zh : ∀ a, Z a → H a ≠ none) (hp : H p = none) (r : RepL K w Z H vs ds) : Grow Z H Z (upd H p (.tup vs)) ∧ RepD K w Z (upd H p (.tup vs)) (.ref p) (.tup ds) :=
  have g := Grow.new0 (o := .tup vs) zh hp
  ⟨g, .tup (SqT.of upd_same) (r.kp g.kp)⟩
theorem newL {Z : Addr → Prop} {H : Hp} {p : Addr} {vs : List V} {ds : List D} (zh : ∀ a, Z a → H a ≠ none) (hp : H p = none) (r : RepL K w Z H vs ds) : Grow Z H (fun a => Z a ∨ a = p) (upd H p (.lst vs)) ∧ RepD K w (fun a => Z a ∨ a = p) (upd H p (.lst vs)) (.ref p) (.lst ds) :=
  have g := Grow.new (o := .lst vs) zh hp
  ⟨g, .lst upd_same (.inr rfl) (r.kp g.kp)⟩
theorem ok_add : Ok2 K w (rAdd4 K) addD := fun Z H x y a b d Q zh rx ry e k => by
  unfold addD at e
  split at e
  · cases e
    exact .inl ⟨_, _, rx.intv, ry.intv, k _ Z H (Grow.refl zh) (.int _)⟩
  · split at e
    · rename_i h
      cases e
      exact .inr (.inl ⟨_, _, rx.strv, ry.strv, by rw [lineN]; exact h, k _ Z H (Grow.refl zh) (.str _)⟩)
    · cases e
  · split at e
    · rename_i h
      cases e
      obtain ⟨qx, p, vs, rfl, h1, h2⟩ := rx.tupv
      obtain ⟨qy, q, us, rfl, h3, h4⟩ := ry.tupv
      refine .inr (.inr (.inl ⟨p, q, vs, us, rfl, rfl, h1, h3, by rw [h2.length, h4.length, lineN]; exact h, fun e => ?_, fun _ e => ?_, fun _ _ n hn => ?_⟩))
      · subst e
        cases h2
        exact k _ Z H (Grow.refl zh) (by rw [List.nil_append]; exact qy)
      · subst e
        cases h4
        exact k _ Z H (Grow.refl zh) (by rw [List.append_nil]; exact qx)
      · obtain ⟨g, r⟩ := newT zh hn (h2.append h4)
        exact k _ Z _ g r
    · cases e
  · split at e
    · rename_i h
      cases e
      obtain ⟨p, vs, rfl, h1, h2⟩ := rx.lstv
      obtain ⟨q, us, rfl, h3, h4⟩ := ry.lstv
      refine .inr (.inr (.inr ⟨p, q, vs, us, rfl, rfl, h1, h3, by rw [h2.length, h4.length, lineN]; exact h, fun n hn => ?_⟩))
      obtain ⟨g, r⟩ := newL zh hn (h2.append h4)
      exact k _ _ _ g r
    · cases e
  · cases e
theorem RepL.rep {Z : Addr → Prop} {H : Hp} {vs : List V} {ds : List D} (r : RepL K w Z H vs ds) : ∀ n : Nat, RepL K w Z H (List.replicate n vs).flatten (List.replicate n ds).flatten
  | 0 => .nil
  | n + 1 => by
    rw [List.replicate_succ, List.replicate_succ, List.flatten_cons, List.flatten_cons]
    exact r.append (RepL.rep r n)
def mulD : D → D → Option D := fun a b => match a, b with
  | .int x, .int y => if x.natAbs.log2 + y.natAbs.log2 < 1000000 then some (.int (x * y)) else none
  | .lst x, .int y => if -(2 ^ 62) ≤ y ∧ y ≤ 16777216 ∧ x.length * y.toNat ≤ 16777216 then some (.lst (List.replicate y.toNat x).flatten) else none
  | .tup x, .int y => if x ≠ [] ∧ 2 ≤ y ∧ y ≤ 1000 ∧ x.length ≤ 1000 then some (.tup (List.replicate y.toNat x).flatten) else none
  | _, _ => none
abbrev rMul3 (K : PySem.W.Frag) : R2 := fun x y H Q => (rI CMulW fun i j => .int (i * j)) x y H Q ∨ (rRep x y H Q ∨ rRepT K x y H Q)
theorem ok_mul : Ok2 K w (rMul3 K) mulD := fun Z H x y a b d Q zh rx ry e k => by
  unfold mulD at e
  split at e
  · split at e
    · rename_i h
      cases e
      exact .inl ⟨_, _, rx.intv, ry.intv, h, k _ Z H (Grow.refl zh) (.int _)⟩
    · cases e
  · split at e
    · rename_i h
      cases e
      obtain ⟨p, vs, rfl, h1, h2⟩ := rx.lstv
      refine .inr (.inl ⟨p, _, vs, rfl, ry.intv, h1, by omega, by omega, by rw [h2.length, lineN]; exact h.2.2, fun n hn => ?_⟩)
      obtain ⟨g, r⟩ := newL zh hn (h2.rep _)
      exact k _ _ _ g r
    · cases e
  · split at e
    · rename_i h
      cases e
      obtain ⟨_, p, vs, rfl, h1, h2⟩ := rx.tupv
      refine .inr (.inr ⟨p, _, vs, rfl, ry.intv, h1, fun q => ?_, h.2.1, h.2.2.1, by rw [h2.length]; exact h.2.2.2, fun n hn => ?_⟩)
      · subst q
        cases h2
        exact h.1 rfl
      · obtain ⟨g, r⟩ := newT zh hn (h2.rep _)
        exact k _ _ _ g r
    · cases e
  · cases e
/-! ### is None, in -/
def nonB : D → Bool
  | .non => true
  | _ => false
def isNonD : D → D → Option D := fun a b => match b with
  | .non => some (.bl (nonB a))
  | _ => none
def notNonD : D → D → Option D := fun a b => match b with
  | .non => some (.bl (!nonB a))
  | _ => none
theorem RepX.nonB {Z : Addr → Prop} {H : Hp} {v : V} {a : D} (r : RepX K w Z H v a) : decide (v = .non) = Ev.nonB a := by
  cases r with
  | d r => cases r <;> rfl
  | o r => cases r <;> rfl
theorem ok_isN : Ok2 K w (fun x y H Q => y = .non ∧ Q (.bl (decide (x = .non))) H) isNonD := fun Z H x y a b d Q zh rx ry e k => by
  unfold isNonD at e
  split at e
  · cases e
    exact ⟨ry.nonv, by rw [rx.nonB]; exact k _ Z H (Grow.refl zh) (.bl _)⟩
  · cases e
theorem ok_notN : Ok2 K w (fun x y H Q => y = .non ∧ Q (.bl (!decide (x = .non))) H) notNonD := fun Z H x y a b d Q zh rx ry e k => by
  unfold notNonD at e
  split at e
  · cases e
    exact ⟨ry.nonv, by rw [rx.nonB]; exact k _ Z H (Grow.refl zh) (.bl _)⟩
  · cases e
def flatD : D → Bool
  | .non | .bl _ | .int _ | .str _ => true
  | _ => false
def vD : D → V
  | .non => .non
  | .bl b => .bl b
  | .int i => .int i
  | .str x => .str x
  | _ => .non
theorem RepX.vD {Z : Addr → Prop} {H : Hp} {v : V} {a : D} (r : RepX K w Z H v a) (h : flatD a = true) : v = Ev.vD a ∧ flatV v = true := by
  cases r with
  | d r => cases r <;> first | exact ⟨rfl, rfl⟩ | cases h
  | o r => cases r <;> cases h
theorem RepL.vD {Z : Addr → Prop} {H : Hp} : ∀ {vs : List V} {ds : List D}, RepL K w Z H vs ds → ds.all flatD = true → vs = ds.map Ev.vD ∧ vs.all flatV = true
  | _, _, .nil, _ => ⟨rfl, rfl⟩
  | _, _, .cons r t, h => by
    obtain ⟨h1, h2⟩ := Bool.and_eq_true_iff.mp (show (flatD _ && List.all _ flatD) = true by simpa using h)
    obtain ⟨a, b⟩ := RepX.vD (.d r) h1
    obtain ⟨c, d⟩ := RepL.vD t h2
    exact ⟨by rw [List.map_cons, ← a, ← c], by rw [List.all_cons, b, d]; rfl⟩
def inFlat (x : D) (ds : List D) : Bool := ds.any fun y => eqV (vD y) (vD x)
/-- x in ds: flat things by their values, else plain data in a list -/
def inB (x : D) : D → Option Bool
  | .lst ds => if flatD x = true ∧ ds.all flatD = true then some (inFlat x ds) else if okD x = true ∧ okD (.lst ds) = true then some ((pyL ds).any fun z => PyData.eqv z (py x)) else none
  | .tup ds => if flatD x = true ∧ ds.all flatD = true then some (inFlat x ds) else none
  | _ => none
def inD : D → D → Option D := fun x c => (inB x c).map .bl
def notInD : D → D → Option D := fun x c => (inB x c).map fun b => .bl (!b)
theorem inV_map {x : D} {ds : List D} : inV (vD x) (ds.map vD) = inFlat x ds := by
  unfold inV inFlat
  rw [List.any_map]; rfl
theorem inB_ok {Z : Addr → Prop} {H : Hp} {x y : V} {a b : D} {c : Bool} (rx : RepX K w Z H x a) (ry : RepX K w Z H y b) (e : inB a b = some c) :
    (∃ p xs, y = .ref p ∧ (SqL K H p xs ∨ SqT K H p xs) ∧ flatV x = true ∧ xs.all flatV = true ∧ inV x xs = c) ∨
      ∃ d ds, Dp K H x d ∧ Dp K H y (.list ds) ∧ SeqAt.shaped d = true ∧ SeqAt.shaped (.list ds) = true ∧ (ds.any fun z => PyData.eqv z d) = c := by
  unfold inB at e
  split at e
  · split at e
    · rename_i h
      cases e
      obtain ⟨p, vs, rfl, h1, h2⟩ := ry.lstv
      obtain ⟨e1, e2⟩ := rx.vD h.1
      obtain ⟨e3, e4⟩ := h2.vD h.2
      refine .inl ⟨p, vs, rfl, .inl (SqL.of h1), e2, e4, ?_⟩
      rw [e1, e3, inV_map]
    · split at e
      · rename_i h
        cases e
        obtain ⟨h1, h2⟩ := okD_of h.1
        obtain ⟨h3, h4⟩ := okD_of h.2
        exact .inr ⟨_, _, rx.dp h1, ry.dp h3, h2, h4, rfl⟩
      · cases e
  · split at e
    · rename_i h
      cases e
      obtain ⟨_, p, vs, rfl, h1, h2⟩ := ry.tupv
      obtain ⟨e1, e2⟩ := rx.vD h.1
      obtain ⟨e3, e4⟩ := h2.vD h.2
      refine .inl ⟨p, vs, rfl, .inr h1, e2, e4, ?_⟩
      rw [e1, e3, inV_map]
    · cases e
  · cases e
abbrev rIn2 (K : PySem.W.Frag) : R2 := fun x y H Q => rIn K false x y H Q ∨ rInD K x y H Q
abbrev rNotIn2 (K : PySem.W.Frag) : R2 := fun x y H Q => rIn K true x y H Q ∨ rNotInD K x y H Q
theorem ok_in : Ok2 K w (rIn2 K) inD := fun Z H x y a b d Q zh rx ry e k => by
  obtain ⟨c, e1, e2⟩ := Option.map_eq_some_iff.mp e
  cases e2
  have kk := k (.bl c) Z H (Grow.refl zh) (.bl _)
  rcases inB_ok rx ry e1 with ⟨p, xs, h1, h2, h3, h4, h5⟩ | ⟨dd, ds, h1, h2, h3, h4, h5⟩
  · exact .inl ⟨p, xs, h1, h2, h3, h4, by rw [if_neg Bool.false_ne_true, h5]; exact kk⟩
  · exact .inr ⟨dd, ds, h1, h2, h3, h4, by rw [h5]; exact kk⟩
theorem ok_notIn : Ok2 K w (rNotIn2 K) notInD := fun Z H x y a b d Q zh rx ry e k => by
  obtain ⟨c, e1, e2⟩ := Option.map_eq_some_iff.mp e
  cases e2
  have kk := k (.bl (!c)) Z H (Grow.refl zh) (.bl _)
  rcases inB_ok rx ry e1 with ⟨p, xs, h1, h2, h3, h4, h5⟩ | ⟨dd, ds, h1, h2, h3, h4, h5⟩
  · exact .inl ⟨p, xs, h1, h2, h3, h4, by rw [if_pos rfl, h5]; exact kk⟩
  · exact .inr ⟨dd, ds, h1, h2, h3, h4, by rw [h5]; exact kk⟩
/-! ### items, slices -/
def ixL {α : Type} (ds : List α) (i : Int) : Option α := if 0 ≤ i then ds[i.toNat]? else if -(ds.length : Int) ≤ i then ds[(i + ds.length).toNat]? else none
theorem ixL_at {α : Type} {ds : List α} {i : Int} {d : α} (h : ixL ds i = some d) : atI ds i = some d := by
  unfold ixL at h
  unfold atI ixN
  split at h
  · rename_i h0
    have hl := (List.getElem?_eq_some_iff.mp h).1
    rw [if_pos h0, if_pos (by omega)]
    exact h
  · rename_i h0
    rw [if_neg h0]
    split at h
    · rename_i h1
      rw [if_pos h1]
      exact h
    · cases h
theorem atI_rep {Z : Addr → Prop} {H : Hp} {vs : List V} {ds : List D} {i : Int} {d : D} (r : RepL K w Z H vs ds) (h : ixL ds i = some d) : ∃ v, atI vs i = some v ∧ RepD K w Z H v d := by
  have h' := ixL_at h
  unfold atI at h' ⊢
  obtain ⟨j, e1, e2⟩ := Option.bind_eq_some_iff.mp h'
  obtain ⟨v, h1, h2⟩ := r.getD e2
  exact ⟨v, Option.bind_eq_some_iff.mpr ⟨j, by rw [r.length]; exact e1, h1⟩, h2⟩
def ixD : D → D → Option D := fun a b => match a, b with
  | .lst ds, .int i => ixL ds i
  | .tup ds, .int i => ixL ds i
  | .scr ns, .int i => (ixL ns i).map .int
  | .str z, .int i => if z.length ≤ 16777216 then (ixL z.cps.toList i).map fun c => .str ⟨#[c]⟩ else none
  | _, _ => none
theorem ok_ix : Ok2 K w (rIx K) ixD := fun Z H x y a b d Q zh rx ry e k => by
  unfold ixD at e
  split at e
  · obtain ⟨p, vs, rfl, h1, h2⟩ := rx.lstv
    obtain ⟨v, e1, e2⟩ := atI_rep h2 e
    exact .inl ⟨p, vs, _, v, rfl, ry.intv, SqL.of h1, e1, k _ Z H (Grow.refl zh) e2⟩
  · obtain ⟨_, p, vs, rfl, h1, h2⟩ := rx.tupv
    obtain ⟨v, e1, e2⟩ := atI_rep h2 e
    exact .inr (.inl ⟨p, vs, _, v, rfl, ry.intv, h1, e1, k _ Z H (Grow.refl zh) e2⟩)
  · obtain ⟨n, e1, e2⟩ := Option.map_eq_some_iff.mp e
    cases e2
    obtain ⟨p, rfl, h1⟩ := rx.scrv
    have e3 := ixL_at e1
    refine .inl ⟨p, _, _, .int n, rfl, ry.intv, h1, ?_, k _ Z H (Grow.refl zh) (.int _)⟩
    unfold atI at e3 ⊢
    obtain ⟨j, q1, q2⟩ := Option.bind_eq_some_iff.mp e3
    exact Option.bind_eq_some_iff.mpr ⟨j, by rw [List.length_map]; exact q1, by rw [List.getElem?_map, q2]; rfl⟩
  · split at e
    · rename_i h
      obtain ⟨n, e1, e2⟩ := Option.map_eq_some_iff.mp e
      cases e2
      exact .inr (.inr ⟨_, _, n, rx.strv, ry.intv, by rw [lineN]; exact h, ixL_at e1, k _ Z H (Grow.refl zh) (.str _)⟩)
    · cases e
  · cases e
def cutD {α : Type} (xs : List α) (lo hi : Option Int) : List α := (xs.drop (HT.sIx xs.length 0 lo)).take (HT.sIx xs.length xs.length hi - HT.sIx xs.length 0 lo)
theorem cut_rep {Z : Addr → Prop} {H : Hp} {vs : List V} {ds : List D} (lo hi : Option Int) (r : RepL K w Z H vs ds) : RepL K w Z H (cutV vs lo hi) (cutD ds lo hi) := by
  unfold cutV cutD
  rw [r.length]
  exact (r.drop _).take _
def slD : D → Option Int → Option Int → Option D := fun a lo hi => match a with
  | .lst ds => some (.lst (cutD ds lo hi))
  | .tup ds => some (.tup (cutD ds lo hi))
  | .scr ns => some (.lst ((cutD ns lo hi).map .int))
  | .str z => if z.length ≤ 16777216 then some (.str (cutS z lo hi)) else none
  | _ => none
abbrev rSl3 (K : PySem.W.Frag) : V → Option Int → Option Int → Hp → VK → Prop := fun x lo hi H Q => rSlL K x lo hi H Q ∨ (rSlA K x lo hi H Q ∨ rSlS x lo hi H Q)
theorem ok_sl : OkS K w (rSl3 K) slD := fun Z H x a lo hi d Q zh rx e k => by
  unfold slD at e
  split at e
  · cases e
    obtain ⟨p, vs, rfl, h1, h2⟩ := rx.lstv
    refine .inl ⟨p, vs, rfl, SqL.of h1, fun n hn => ?_⟩
    obtain ⟨g, r⟩ := newL zh hn (cut_rep lo hi h2)
    exact k _ _ _ g r
  · cases e
    obtain ⟨q, p, vs, rfl, h1, h2⟩ := rx.tupv
    refine .inr (.inl ⟨p, vs, rfl, h1, fun h => ?_, fun _ n hn => ?_⟩)
    · rename_i ds
      have e : cutD ds lo hi = ds := by
        unfold cutD
        rw [h2.length] at h
        rw [h.1, h.2, List.drop_zero, Nat.sub_zero, List.take_length]
      rw [e] at k
      exact k _ Z H (Grow.refl zh) q
    · obtain ⟨g, r⟩ := newT zh hn (cut_rep lo hi h2)
      exact k _ _ _ g r
  · cases e
    obtain ⟨p, rfl, h1⟩ := rx.scrv
    refine .inl ⟨p, _, rfl, h1, fun n hn => ?_⟩
    have e1 : ∀ ns : List Int, cutV (ns.map V.int) lo hi = (cutD ns lo hi).map V.int := fun ns => by
      unfold cutV cutD
      rw [List.length_map, ← List.map_drop, ← List.map_take]
    rw [e1]
    obtain ⟨g, r⟩ := newL (K := K) (w := w) zh hn (RepL.ints (cutD _ lo hi))
    exact k _ _ _ g r
  · split at e
    · rename_i h
      cases e
      exact .inr (.inr ⟨_, rx.strv, by rw [lineN]; exact h, k _ Z H (Grow.refl zh) (.str _)⟩)
    · cases e
  · cases e
end
section
variable {X : Cx}
theorem or_eq (hu : X.A.units + 64 < cLine) : OpR X (compareOp .Eq) (rEq2 X.K) := op_eq.or (op_eqD hu)
theorem or_ne (hu : X.A.units + 64 < cLine) : OpR X (compareOp .NotEq) (rNe2 X.K) := op_ne.or (op_neD hu)
theorem or_add : OpR X (binaryOp .Add) (rAdd4 X.K) := op_add.or (op_add_str.or (op_catA.or op_cat))
theorem or_mul : OpR X (binaryOp .Mult) (rMul3 X.K) := op_mulW.or (op_rep.or op_repT)
theorem or_in (hu : X.A.units + 65 < cLine) : OpR X (compareOp .In) (rIn2 X.K) := op_in_seq.or (op_inD hu)
theorem or_notIn (hu : X.A.units + 65 < cLine) : OpR X (compareOp .NotIn) (rNotIn2 X.K) := op_notIn_seq.or (op_notInD hu)
theorem or_sl : SlR X (rSl3 X.K) := sl_list.or (sl_tupA.or sl_str)
end
end Ev

end

section
set_option Elab.async false
set_option linter.all false
set_option maxRecDepth 100000
/-! Ev8: built-ins over data; what is walked. -/
namespace Ev
open PySem PySem.Spec PyProof.Rows L2
section
variable {K : PySem.W.Frag} {w : World}
def lenD : List D → Option D := fun xs => match xs with
  | [.lst ds] => some (.int ds.length)
  | [.tup ds] => some (.int ds.length)
  | [.scr ns] => some (.int ns.length)
  | [.str z] => if z.length ≤ 16777216 then some (.int z.length) else none
  | _ => none
theorem RepXs.one {Z : Addr → Prop} {H : Hp} {xs : List V} {d : D} (r : RepXs K w Z H xs [d]) : ∃ v, xs = [v] ∧ RepX K w Z H v d := by
  cases r with
  | cons r t => cases t; exact ⟨_, rfl, r⟩
theorem RepXs.two {Z : Addr → Prop} {H : Hp} {xs : List V} {d e : D} (r : RepXs K w Z H xs [d, e]) : ∃ v u, xs = [v, u] ∧ RepX K w Z H v d ∧ RepX K w Z H u e := by
  cases r with
  | cons r t =>
    obtain ⟨u, rfl, r2⟩ := t.one
    exact ⟨_, _, rfl, r, r2⟩
theorem ok_len : OkA K w (fun xs H Q => ∃ x n, xs = [x] ∧ LenV K x H n ∧ Q (.int n) H) lenD := fun Z H xs as d Q zh r0 e k => by
  unfold lenD at e
  split at e
  · cases e
    obtain ⟨v, rfl, r⟩ := r0.one
    obtain ⟨p, vs, rfl, h1, h2⟩ := r.lstv
    exact ⟨_, _, rfl, .inl ⟨vs, SqL.of h1, rfl⟩, by rw [h2.length]; exact k _ Z H (Grow.refl zh) (.int _)⟩
  · cases e
    obtain ⟨v, rfl, r⟩ := r0.one
    obtain ⟨_, p, vs, rfl, h1, h2⟩ := r.tupv
    exact ⟨_, _, rfl, .inr ⟨vs, h1, rfl⟩, by rw [h2.length]; exact k _ Z H (Grow.refl zh) (.int _)⟩
  · cases e
    obtain ⟨v, rfl, r⟩ := r0.one
    obtain ⟨p, rfl, h1⟩ := r.scrv
    exact ⟨_, _, rfl, .inl ⟨_, h1, rfl⟩, by rw [List.length_map]; exact k _ Z H (Grow.refl zh) (.int _)⟩
  · split at e
    · rename_i h
      cases e
      obtain ⟨v, rfl, r⟩ := r0.one
      rw [r.strv]
      exact ⟨_, _, rfl, ⟨by rw [lineN]; exact h, rfl⟩, k _ Z H (Grow.refl zh) (.int _)⟩
    · cases e
  · cases e
def b2iD (b : Bool) : Int := if b then 1 else 0
def intD : List D → Option D := fun xs => match xs with
  | [.int i] => some (.int i)
  | [.bl b] => some (.int (b2iD b))
  | _ => none
theorem ok_int1 : OkA K w (fun xs H Q => (∃ i, xs = [.int i] ∧ Q (.int i) H) ∨ ∃ k, xs = [.bl k] ∧ Q (.int (if k then 1 else 0)) H) intD := fun Z H xs as d Q zh r0 e k => by
  unfold intD at e
  split at e
  · cases e
    obtain ⟨v, rfl, r⟩ := r0.one
    rw [r.intv]
    exact .inl ⟨_, rfl, k _ Z H (Grow.refl zh) (.int _)⟩
  · cases e
    obtain ⟨v, rfl, r⟩ := r0.one
    rw [r.blv]
    exact .inr ⟨_, rfl, k _ Z H (Grow.refl zh) (.int _)⟩
  · cases e
def absD : List D → Option D := fun xs => match xs with
  | [.int i] => some (.int (if i < 0 then -i else i))
  | _ => none
theorem ok_abs : OkA K w (fun xs H Q => ∃ i, xs = [.int i] ∧ Q (.int (if i < 0 then -i else i)) H) absD := fun Z H xs as d Q zh r0 e k => by
  unfold absD at e
  split at e
  · cases e
    obtain ⟨v, rfl, r⟩ := r0.one
    rw [r.intv]
    exact ⟨_, rfl, k _ Z H (Grow.refl zh) (.int _)⟩
  · cases e
def max2D : List D → Option D := fun xs => match xs with
  | [.int i, .int j] => some (.int (if j > i then j else i))
  | _ => none
theorem ok_max2 : OkA K w (fun xs H Q => ∃ i j, xs = [.int i, .int j] ∧ Q (.int (if j > i then j else i)) H) max2D := fun Z H xs as d Q zh r0 e k => by
  unfold max2D at e
  split at e
  · cases e
    obtain ⟨v, u, rfl, r1, r2⟩ := r0.two
    rw [r1.intv, r2.intv]
    exact ⟨_, _, rfl, k _ Z H (Grow.refl zh) (.int _)⟩
  · cases e
def min2D : List D → Option D := fun xs => match xs with
  | [.int i, .int j] => some (.int (if j < i then j else i))
  | _ => none
theorem ok_min2 : OkA K w (fun xs H Q => ∃ i j, xs = [.int i, .int j] ∧ Q (.int (if j < i then j else i)) H) min2D := fun Z H xs as d Q zh r0 e k => by
  unfold min2D at e
  split at e
  · cases e
    obtain ⟨v, u, rfl, r1, r2⟩ := r0.two
    rw [r1.intv, r2.intv]
    exact ⟨_, _, rfl, k _ Z H (Grow.refl zh) (.int _)⟩
  · cases e
/-- tuple(x) -/
def tupleD : List D → Option D := fun xs => match xs with
  | [.lst ds] => some (.tup ds)
  | [.tup ds] => some (.tup ds)
  | _ => none
theorem ok_tuple : OkA K w (fun xs H Q => ∃ p ys, xs = [.ref p] ∧ ((SqL K H p ys ∧ ∀ l, H l = none → Q (.ref l) (upd H l (.tup ys))) ∨ (SqT K H p ys ∧ Q (.ref p) H))) tupleD := fun Z H xs as d Q zh r0 e k => by
  unfold tupleD at e
  split at e
  · cases e
    obtain ⟨v, rfl, r⟩ := r0.one
    obtain ⟨p, vs, rfl, h1, h2⟩ := r.lstv
    refine ⟨p, vs, rfl, .inl ⟨SqL.of h1, fun l hl => ?_⟩⟩
    obtain ⟨g, r⟩ := newT zh hl h2
    exact k _ Z _ g r
  · cases e
    obtain ⟨v, rfl, r⟩ := r0.one
    obtain ⟨q, p, vs, rfl, h1, h2⟩ := r.tupv
    exact ⟨p, vs, rfl, .inr ⟨h1, k _ Z H (Grow.refl zh) q⟩⟩
  · cases e
/-- list(x) -/
def listD : List D → Option D := fun xs => match xs with
  | [.lst ds] => some (.lst ds)
  | [.tup ds] => some (.lst ds)
  | _ => none
theorem ok_list : OkA K w (fun xs H Q => ∃ p ys, xs = [.ref p] ∧ (SqL K H p ys ∨ SqT K H p ys) ∧ ∀ l, H l = none → Q (.ref l) (upd H l (.lst ys))) listD := fun Z H xs as d Q zh r0 e k => by
  unfold listD at e
  split at e
  · cases e
    obtain ⟨v, rfl, r⟩ := r0.one
    obtain ⟨p, vs, rfl, h1, h2⟩ := r.lstv
    refine ⟨p, vs, rfl, .inl (SqL.of h1), fun l hl => ?_⟩
    obtain ⟨g, r⟩ := newL zh hl h2
    exact k _ _ _ g r
  · cases e
    obtain ⟨v, rfl, r⟩ := r0.one
    obtain ⟨_, p, vs, rfl, h1, h2⟩ := r.tupv
    refine ⟨p, vs, rfl, .inr h1, fun l hl => ?_⟩
    obtain ⟨g, r⟩ := newL zh hl h2
    exact k _ _ _ g r
  · cases e
def asInts : List D → Option (List Int)
  | [] => some []
  | .int i :: ds => (asInts ds).map fun is => i :: is
  | _ => none
def asBools : List D → Option (List Bool)
  | [] => some []
  | .bl i :: ds => (asBools ds).map fun is => i :: is
  | _ => none
theorem asInts_rep {Z : Addr → Prop} {H : Hp} : ∀ {ds : List D} {vs : List V} {ns : List Int}, RepL K w Z H vs ds → asInts ds = some ns → vs = ns.map V.int
  | [], _, _, r, e => by cases r; cases e; rfl
  | .int i :: ds, _, _, r, e => by
    cases r with
    | cons r t =>
      obtain ⟨is, e1, e2⟩ := Option.map_eq_some_iff.mp e
      cases e2
      rw [r.intv, asInts_rep t e1]; rfl
  | .non :: _, _, _, _, e | .bl _ :: _, _, _, _, e | .str _ :: _, _, _, _, e | .tup _ :: _, _, _, _, e | .lst _ :: _, _, _, _, e | .dic _ _ :: _, _, _, _, e | .exc _ _ _ :: _, _, _, _, e | .scr _ :: _, _, _, _, e => by cases e
theorem asBools_rep {Z : Addr → Prop} {H : Hp} : ∀ {ds : List D} {vs : List V} {ns : List Bool}, RepL K w Z H vs ds → asBools ds = some ns → vs = ns.map V.bl
  | [], _, _, r, e => by cases r; cases e; rfl
  | .bl i :: ds, _, _, r, e => by
    cases r with
    | cons r t =>
      obtain ⟨is, e1, e2⟩ := Option.map_eq_some_iff.mp e
      cases e2
      rw [r.blv, asBools_rep t e1]; rfl
  | .non :: _, _, _, _, e | .int _ :: _, _, _, _, e | .str _ :: _, _, _, _, e | .tup _ :: _, _, _, _, e | .lst _ :: _, _, _, _, e | .dic _ _ :: _, _, _, _, e | .exc _ _ _ :: _, _, _, _, e | .scr _ :: _, _, _, _, e => by cases e
def sumD : List D → Option D := fun xs => match xs with
  | [.lst ds] => (asInts ds).map fun ns => .int ns.sum
  | _ => none
theorem ok_sum : OkA K w (rSum K) sumD := fun Z H xs as d Q zh r0 e k => by
  unfold sumD at e
  split at e
  · obtain ⟨ns, e1, e2⟩ := Option.map_eq_some_iff.mp e
    cases e2
    obtain ⟨v, rfl, r⟩ := r0.one
    obtain ⟨p, vs, rfl, h1, h2⟩ := r.lstv
    exact ⟨p, ns, rfl, SqL.of (by rw [← asInts_rep h2 e1]; exact h1), k _ Z H (Grow.refl zh) (.int _)⟩
  · cases e
def allD : List D → Option D := fun xs => match xs with
  | [.lst ds] => (asBools ds).map fun ns => .bl (ns.all id)
  | _ => none
theorem ok_all : OkA K w (rAll K) allD := fun Z H xs as d Q zh r0 e k => by
  unfold allD at e
  split at e
  · obtain ⟨ns, e1, e2⟩ := Option.map_eq_some_iff.mp e
    cases e2
    obtain ⟨v, rfl, r⟩ := r0.one
    obtain ⟨p, vs, rfl, h1, h2⟩ := r.lstv
    exact ⟨p, ns, rfl, SqL.of (by rw [← asBools_rep h2 e1]; exact h1), k _ Z H (Grow.refl zh) (.bl _)⟩
  · cases e
def anyD : List D → Option D := fun xs => match xs with
  | [.lst ds] => (asBools ds).map fun ns => .bl (ns.any id)
  | _ => none
theorem ok_any : OkA K w (rAny K) anyD := fun Z H xs as d Q zh r0 e k => by
  unfold anyD at e
  split at e
  · obtain ⟨ns, e1, e2⟩ := Option.map_eq_some_iff.mp e
    cases e2
    obtain ⟨v, rfl, r⟩ := r0.one
    obtain ⟨p, vs, rfl, h1, h2⟩ := r.lstv
    exact ⟨p, ns, rfl, SqL.of (by rw [← asBools_rep h2 e1]; exact h1), k _ Z H (Grow.refl zh) (.bl _)⟩
  · cases e
end
/-! ### isinstance -/
def tyN : D → String
  | .non => "NoneType"
  | .bl _ => "bool"
  | .int _ => "int"
  | .str _ => "str"
  | .tup _ => "tuple"
  | .lst _ => "list"
  | .dic _ _ => "dict"
  | .exc _ _ _ => "exc"
  | .scr _ => "list"
def isiD (T : String) (d : D) : Bool := if T == "int" then tyN d == "int" || tyN d == "bool" else tyN d == T
def rIsS (K : PySem.W.Frag) (T : String) : V → Hp → VK → Prop := fun x H Q => (∃ t b, TyX K H x (.type t) ∧ kitB t T = some b ∧ Q (.bl b) H) ∨ ∃ a ys b, x = .ref a ∧ SqT K H a ys ∧ kitB "tuple" T = some b ∧ Q (.bl b) H
theorem call_isS {X : Cx} {T : String} : CallR X (.builtin "isinstance") (fun xs H Q => ∃ x, xs = [x, .ty T] ∧ rIsS X.K T x H Q) := by
  intro pins s σ H xs us Q I r h
  obtain ⟨x, rfl, h | ⟨a, ys, b, rfl, hq, e, q⟩⟩ := h
  · obtain ⟨t, b, ty, e, q⟩ := h
    exact call_isi pins s σ H _ us Q I r ⟨x, .ty T, _, _, b, rfl, .ty T, ty, kit_ty e, q⟩
  · obtain ⟨u1, u2, rfl, r1, r2⟩ := vals2 r
    cases (show u1 = Value.ref a from r1)
    cases (show u2 = Value.type T from r2)
    obtain ⟨its, _, ht, _⟩ := I.tuple hq
    obtain ⟨o, h1, h2, _⟩ := ht
    exact PySem.W.kia_one PySem.W.kitx_tuple I.kIn ⟨o, h1, h2⟩ (kit_ty e) (fun z => nomatch z) fun tk => ⟨.bl b, H, I.tok _, rfl, q⟩
/-- isinstance(x, T): T of these four -/
def eIsi (T : String) (a : QF) : EF := fun env => (a env).bind fun p => (p.1 p.2).bind fun x => match x with
  | .dic _ _ => none
  | .exc _ _ _ => none
  | .scr _ => none
  | x => some (.bl (isiD T x), p.2)
theorem rIsS_of {K : PySem.W.Frag} {w : World} {Z : Addr → Prop} {H : Hp} {T : String} {v : V} {d : D} {Q : VK} (hT : T = "int" ∨ T = "bool" ∨ T = "str" ∨ T = "tuple" ∨ T = "list") (hd : (match d with | .dic _ _ => False | .exc _ _ _ => False | .scr _ => False | _ => True)) (r : RepX K w Z H v d) (q : Q (.bl (isiD T d)) H) : rIsS K T v H Q := by
  cases d with
  | non => rw [r.nonv]; exact .inl ⟨"NoneType", _, .base .non, by rcases hT with rfl | rfl | rfl | rfl | rfl <;> decide +kernel, q⟩
  | bl b => rw [r.blv]; exact .inl ⟨"bool", _, .base (.bl b), by rcases hT with rfl | rfl | rfl | rfl | rfl <;> (show kitB "bool" _ = some (isiD _ (.bl true)); decide +kernel), q⟩
  | int b => rw [r.intv]; exact .inl ⟨"int", _, .base (.int b), by rcases hT with rfl | rfl | rfl | rfl | rfl <;> (show kitB "int" _ = some (isiD _ (.int 0)); decide +kernel), q⟩
  | str b => rw [r.strv]; exact .inl ⟨"str", _, .base (.str b), by rcases hT with rfl | rfl | rfl | rfl | rfl <;> (show kitB "str" _ = some (isiD _ (.str ⟨#[]⟩)); decide +kernel), q⟩
  | tup b =>
    obtain ⟨_, p, vs, rfl, h1, h2⟩ := r.tupv
    exact .inr ⟨p, vs, _, rfl, h1, by rcases hT with rfl | rfl | rfl | rfl | rfl <;> (show kitB "tuple" _ = some (isiD _ (.tup [])); decide +kernel), q⟩
  | lst b =>
    obtain ⟨p, vs, rfl, h1, h2⟩ := r.lstv
    exact .inl ⟨"list", _, .base (.lst h1), by rcases hT with rfl | rfl | rfl | rfl | rfl <;> (show kitB "list" _ = some (isiD _ (.lst [])); decide +kernel), q⟩
  | dic b c => exact hd.elim
  | exc b c d => exact hd.elim
  | scr b => exact hd.elim
section
variable {X : Cx} {O P : Nat → Bool} {e : Expr} {pos p p2 : Pos}
theorem de_isi {T : String} {x : Str} {q : QF} (hT : T = "int" ∨ T = "bool" ∨ T = "str" ∨ T = "tuple" ∨ T = "list") (hg : Gl X "isinstance") (hm : X.mg "isinstance" = none) (hgt : Gl X x) (hmt : X.mg x = none) (hvt : bootBuiltins x = some (.type T)) (hn : x ≠ "__name__") (hdb : (x == ("__debug__" : Str)) = false)
    (he : PE X e (tQ X.K X.w O q)) (h1 : starEach (e :: [.Name x p2]) X.env = (false, eval e X.env) :: starEach [.Name x p2] X.env) :
    PE X (.Call (.Name "isinstance" p) [e, .Name x p2] [] pos) (tE X.K X.w O (eIsi T q)) := by
  refine (pe_callB (call_isS (T := T)) hg hm (by decide +kernel) (pa_cons he (pa_cons (pe_bltn (v := .ty T) hgt hmt hvt rfl hn hdb) pa_nil) h1) (by decide) (by decide) h1).mono fun σ H Q h => ?_
  obtain ⟨Z, F, env, d, env1, s, e, k⟩ := h
  obtain ⟨⟨ra, ea⟩, q1, e⟩ := Option.bind_eq_some_iff.mp e
  obtain ⟨y, e3, e⟩ := Option.bind_eq_some_iff.mp e
  refine ⟨Z, F, env, ra, ea, s, q1, fun v Z1 F1 H1 s1 t1 h1 => ⟨v, rfl, ?_⟩⟩
  have r := h1 Z1 F1 H1 ea y s1 Step.refl e3
  cases y with
  | dic _ _ => cases e
  | exc _ _ _ => cases e
  | scr _ => cases e
  | non => cases e; exact rIsS_of hT trivial r (k _ Z1 F1 H1 s1 t1 (.bl _))
  | bl _ => cases e; exact rIsS_of hT trivial r (k _ Z1 F1 H1 s1 t1 (.bl _))
  | int _ => cases e; exact rIsS_of hT trivial r (k _ Z1 F1 H1 s1 t1 (.bl _))
  | str _ => cases e; exact rIsS_of hT trivial r (k _ Z1 F1 H1 s1 t1 (.bl _))
  | tup _ => cases e; exact rIsS_of hT trivial r (k _ Z1 F1 H1 s1 t1 (.bl _))
  | lst _ => cases e; exact rIsS_of hT trivial r (k _ Z1 F1 H1 s1 t1 (.bl _))
/-! ### what is walked -/
theorem _root_.L2.PI.mono {tg : Expr} {wi wi' : TI} (h : PI X tg e wi) (m : ∀ σ H R, wi' σ H R → wi σ H R) : PI X tg e wi' := ⟨fun pins s σ H R I q => h.run pins s σ H R I (m σ H R q)⟩
theorem _root_.L2.PI.or {tg : Expr} {wi wi' : TI} (h : PI X tg e wi) (h' : PI X tg e wi') : PI X tg e (fun σ H R => wi σ H R ∨ wi' σ H R) := ⟨fun pins s σ H R I q => q.elim (h.run pins s σ H R I) (h'.run pins s σ H R I)⟩
def wSeq (f : EF) : WF := fun env => (f env).bind fun p => match p.1 with
  | .lst ds => some (ds, p.2)
  | .tup ds => some (ds, p.2)
  | _ => none
theorem di_seq {tg : Expr} {f : EF} (h : PE X e (tE X.K X.w O f)) : PI X tg e (tI X.K X.w O (wSeq f)) := by
  refine ((pi_list h).or (pi_tup h)).mono fun σ H R hh => ?_
  obtain ⟨Z, F, env, ds, env1, s, e, k⟩ := hh
  obtain ⟨⟨d, ea⟩, q1, e⟩ := Option.bind_eq_some_iff.mp e
  cases d with
  | lst xs =>
    cases e
    refine .inl ⟨Z, F, env, _, ea, s, q1, fun v Z1 F1 H1 s1 t1 r1 => ?_⟩
    cases r1 with
    | @lst a vs _ h1 z1 l1 =>
      refine ⟨a, rfl, ⟨vs, SqL.of h1⟩, k (Itl X.K a) (fun H => SqL X.K H a vs) (YAt vs) Z1 F1 H1 s1 t1 (by rw [← l1.length]; exact walk_list) (fun Z2 F2 H2 t2 => SqL.of ((s1.kp t2).z a _ z1 h1)) fun i x Z2 F2 H2 H3 zh t2 y => ?_⟩
      obtain ⟨rfl, hx⟩ := y
      obtain ⟨d, h2, h3⟩ := l1.get hx
      exact ⟨d, Z2, h2, Grow.refl zh, h3.kp (s1.kp t2)⟩
  | tup xs =>
    cases e
    refine .inr ⟨Z, F, env, _, ea, s, q1, fun v Z1 F1 H1 s1 t1 r1 => ?_⟩
    cases r1 with
    | @tup a vs _ h1 l1 =>
      refine ⟨a, rfl, ⟨vs, h1⟩, k (Itt X.K a) (fun H => SqT X.K H a vs) (YAt vs) Z1 F1 H1 s1 t1 (by rw [← l1.length]; exact walk_tup) (fun Z2 F2 H2 t2 => (s1.kp t2).rdT h1) fun i x Z2 F2 H2 H3 zh t2 y => ?_⟩
      obtain ⟨rfl, hx⟩ := y
      obtain ⟨d, h2, h3⟩ := l1.get hx
      exact ⟨d, Z2, h2, Grow.refl zh, h3.kp (s1.kp t2)⟩
  | _ => cases e
def rgD (lo : Int) (n : Nat) : List D := (List.range n).map fun i => .int (lo + (i : Nat))
def wRg1 (f : EF) : WF := fun env => (f env).bind fun p => match p.1 with
  | .int j => if -4611686018427387904 ≤ j ∧ j < 4611686018427387904 then some (rgD 0 j.toNat, p.2) else none
  | _ => none
theorem rg_walk {K : PySem.W.Frag} {w : World} {O : Nat → Bool} {Z : Addr → Prop} {F : Fts} {H : Hp} {σ : L2.St} {env1 : Env} {R : It → Hp → Prop} {Z1 : Addr → Prop} {F1 : Fts} {H1 : Hp} (lo : Int) (n : Nat) (s1 : St' K w O Z1 F1 H1 σ env1) (t1 : Step Z F H Z1 F1 H1)
    (k : ∀ J G Y Z1 F1 H1, St' K w O Z1 F1 H1 σ env1 → Step Z F H Z1 F1 H1 → Walk J (rgD lo n).length G Y → (∀ Z2 F2 H2, Step Z1 F1 H1 Z2 F2 H2 → G H2) →
      (∀ i x Z2 F2 H2 H3, (∀ a, Z2 a → H2 a ≠ none) → Step Z1 F1 H1 Z2 F2 H2 → Y i H2 x H3 → ∃ d Z3, (rgD lo n)[i]? = some d ∧ Grow Z2 H2 Z3 H3 ∧ RepD K w Z3 H3 x d) → R J H1) : R (Itr lo n) H1 := by
  have hl : (rgD lo n).length = n := by unfold rgD; rw [List.length_map, List.length_range]
  have wk : Walk (Itr lo n) n (fun _ => True) (fun i H x H' => (H' = H ∧ x = .int (lo + (i : Nat))) ∧ i < n) :=
    ⟨fun i _ hi _ => hi, fun _ _ => Nat.le_refl _, fun i _ _ _ hi _ y => ⟨y, hi⟩⟩
  refine k (Itr lo n) _ _ Z1 F1 H1 s1 t1 (by rw [hl]; exact wk) (fun _ _ _ _ => trivial) fun i x Z2 F2 H2 H3 zh t2 y => ?_
  obtain ⟨⟨rfl, rfl⟩, hi⟩ := y
  refine ⟨.int (lo + (i : Nat)), Z2, ?_, Grow.refl zh, .int _⟩
  unfold rgD
  rw [List.getElem?_map, List.getElem?_range hi]; rfl
theorem di_rg1 {tg : Expr} {f : EF} (hg : Gl X "range") (hm : X.mg "range" = none) (h : PE X e (tE X.K X.w O f)) (hs : starEach [e] X.env = [(false, eval e X.env)]) : PI X tg (.Call (.Name "range" p) [e] [] pos) (tI X.K X.w O (wRg1 f)) := by
  refine (pi_range1 hg hm (pa_cons h pa_nil hs) hs).mono fun σ H R hh => ?_
  obtain ⟨Z, F, env, ds, env1, s, e, k⟩ := hh
  obtain ⟨⟨d, ea⟩, q1, e⟩ := Option.bind_eq_some_iff.mp e
  cases d with
  | int j =>
    have e : (if -4611686018427387904 ≤ j ∧ j < 4611686018427387904 then some (rgD 0 j.toNat, ea) else none) = some (ds, env1) := e
    split at e
    · rename_i hj
      cases e
      refine ⟨Z, F, env, _, _, s, q1, fun v Z1 F1 H1 s1 t1 r1 => ?_⟩
      rw [r1.intv]
      exact ⟨j, rfl, by omega, by omega, rg_walk 0 j.toNat s1 t1 k⟩
    · cases e
  | _ => cases e
def wRg2 (f g : EF) : WF := fun env => (f env).bind fun p => (g p.2).bind fun q => match p.1, q.1 with
  | .int i, .int j => if (-4611686018427387904 ≤ i ∧ i < 4611686018427387904) ∧ (-4611686018427387904 ≤ j ∧ j < 4611686018427387904) then some (rgD i (j - i).toNat, q.2) else none
  | _, _ => none
theorem di_rg2 {tg a b : Expr} {f g : EF} (hg : Gl X "range") (hm : X.mg "range" = none) (ha : PE X a (tE X.K X.w O f)) (hb : PE X b (tE X.K X.w O g)) (hs : starEach [a, b] X.env = [(false, eval a X.env), (false, eval b X.env)]) (hs2 : starEach [b] X.env = [(false, eval b X.env)]) :
    PI X tg (.Call (.Name "range" p) [a, b] [] pos) (tI X.K X.w O (wRg2 f g)) := by
  refine (pi_range2 hg hm (pa_cons ha (pa_cons hb pa_nil hs2) (by rw [hs, hs2])) hs hs2).mono fun σ H R hh => ?_
  obtain ⟨Z, F, env, ds, env1, s, e, k⟩ := hh
  obtain ⟨⟨d, ea⟩, q1, e⟩ := Option.bind_eq_some_iff.mp e
  obtain ⟨⟨d2, eb⟩, q2, e⟩ := Option.bind_eq_some_iff.mp e
  refine ⟨Z, F, env, _, ea, s, q1, fun v Z1 F1 H1 s1 t1 r1 => ⟨Z1, F1, ea, _, eb, s1, q2, fun u Z2 F2 H2 s2 t2 r2 => ?_⟩⟩
  cases d with
  | int i =>
    cases d2 with
    | int j =>
      have e : (if (-4611686018427387904 ≤ i ∧ i < 4611686018427387904) ∧ (-4611686018427387904 ≤ j ∧ j < 4611686018427387904) then some (rgD i (j - i).toNat, eb) else none) = some (ds, env1) := e
      split at e
      · rename_i hj
        cases e
        rw [r1.intv, r2.intv]
        exact ⟨i, j, rfl, by omega, rg_walk i (j - i).toNat s2 (t1.trans t2) k⟩
      · cases e
    | _ => cases e
  | _ => cases e
/-- enumerate(a list) -/
def enD : Nat → List D → List D
  | _, [] => []
  | i, d :: ds => .tup [.int (i : Nat), d] :: enD (i + 1) ds
theorem enD_at : ∀ (ds : List D) (k i : Nat) (d : D), ds[i]? = some d → (enD k ds)[i]? = some (.tup [.int ((k + i : Nat)), d])
  | [], _, _, _, h => by simp at h
  | x :: xs, k, 0, d, h => by simp at h; subst h; rfl
  | x :: xs, k, i + 1, d, h => by
    have := enD_at xs (k + 1) i d (by simpa using h)
    show (enD (k + 1) xs)[i]? = _
    rw [this, show k + 1 + i = k + (i + 1) by omega]
theorem enD_len : ∀ (ds : List D) (k : Nat), (enD k ds).length = ds.length
  | [], _ => rfl
  | _ :: xs, k => by show (enD (k + 1) xs).length + 1 = xs.length + 1; rw [enD_len xs]
def wEn (f : EF) : WF := fun env => (f env).bind fun p => match p.1 with
  | .lst ds => some (enD 0 ds, p.2)
  | _ => none
theorem di_enum {f : EF} {elts : List Expr} {kk : Nat} {tpos : Pos} (hg : Gl X "enumerate") (hm : X.mg "enumerate" = none) (h : PE X e (tE X.K X.w O f)) (hs : starEach [e] X.env = [(false, eval e X.env)]) :
    PI X (.Tuple elts kk tpos) (.Call (.Name "enumerate" p) [e] [] pos) (tI X.K X.w O (wEn f)) := by
  refine (pi_enum hg hm (pa_cons h pa_nil hs) hs).mono fun σ H R hh => ?_
  obtain ⟨Z, F, env, ds, env1, s, e, k⟩ := hh
  obtain ⟨⟨d, ea⟩, q1, e⟩ := Option.bind_eq_some_iff.mp e
  cases d with
  | lst xs =>
    cases e
    refine ⟨Z, F, env, _, ea, s, q1, fun v Z1 F1 H1 s1 t1 r1 => ?_⟩
    cases r1 with
    | @lst a vs _ h1 z1 l1 =>
      refine ⟨a, vs, rfl, SqL.of h1, k (Ite X.K a) (fun H => SqL X.K H a vs) _ Z1 F1 H1 s1 t1 (by rw [enD_len, ← l1.length]; exact walk_enum) (fun Z2 F2 H2 t2 => SqL.of ((s1.kp t2).z a _ z1 h1)) fun i x Z2 F2 H2 H3 zh t2 y => ?_⟩
      obtain ⟨T, x1, y1, rfl, hT, rfl, e1, e2⟩ := y
      cases e1
      obtain ⟨d, h2, h3⟩ := l1.get e2
      have g := Grow.new0 (o := .tup [V.int (i : Nat), y1]) zh hT
      exact ⟨.tup [.int ((0 + i : Nat)), d], Z2, enD_at xs 0 i d h2, g, by rw [Nat.zero_add]; exact .tup (SqT.of upd_same) (.cons (.int _) (.cons ((h3.kp (s1.kp t2)).kp g.kp) .nil))⟩
  | _ => cases e
end
end Ev

end

section
set_option Elab.async false
set_option linter.all false
set_option maxRecDepth 100000
/-! Ev9: methods of owned lists, stores. -/
namespace Ev
open PySem PySem.Spec PyProof.Rows L2
section
variable {K : PySem.W.Frag} {w : World} {O : Nat → Bool} {Z : Addr → Prop} {F : Fts} {H : Hp} {σ : L2.St} {env : Env}
theorem join_some {α : Type} {o : Option (Option α)} {d : α} (h : o.join = some d) : o = some (some d) := by
  cases o with
  | none => cases h
  | some x => cases x with
    | none => cases h
    | some y => cases h; rfl
/-- the container of an owned slot is changed -/
theorem St'.chg (s : St' K w O Z F H σ env) {i : Nat} {p : Addr} {o : HO} {d' : D} (ho : O i = true) (hF : F i = [p]) (hv : σ[i]? = some (some (.ref p))) (r : RepD K w Z (upd H p o) (.ref p) d' → True) (mu' : Mut (some o))
    (hr : Kp Z H Z (upd H p o) → RO K w Z (upd H p o) [p] (.ref p) d') : St' K w O Z F (upd H p o) σ (env.set i (some d')) ∧ Step Z F H Z F (upd H p o) := by
  have hp : p ∈ F i := by rw [hF]; simp
  obtain ⟨hz, mu⟩ := s.fz i p hp
  have kp : Kp Z H Z (upd H p o) := kpD hz mu
  refine ⟨⟨by rw [List.length_set]; exact s.len, fun j x e oj => ?_, fun j x e oj => ?_, s.sep, fun j a hj => ⟨(s.fz j a hj).1, ?_⟩, fun a z => ?_⟩, ⟨fun a u e hf => ?_, fun _ z => z, fun _ z => .inl z, fun j a hj => .inr ⟨j, hj⟩, fun a h => ?_⟩⟩
  · have hj : i ≠ j := fun q => by rw [q, oj] at ho; cases ho
    rw [List.getElem?_set_ne hj] at e
    obtain ⟨v, e1, r1⟩ := s.frz j x e oj
    exact ⟨v, e1, r1.kp kp⟩
  · by_cases hj : i = j
    · subst hj
      by_cases hl : i < env.length
      · rw [List.getElem?_set_self hl] at e
        cases e
        exact ⟨_, hv, by rw [hF]; exact hr kp⟩
      · rw [List.getElem?_eq_none (by simpa using hl)] at e; cases e
    · rw [List.getElem?_set_ne hj] at e
      obtain ⟨v, e1, r1⟩ := s.own j x e oj
      refine ⟨v, e1, r1.kp kp fun a ha u hu => ?_⟩
      rw [upd_ne fun q => hj (s.sep i j p hp (by rw [← q]; exact ha))]
      exact hu
  · by_cases q : a = p
    · rw [q, upd_same]; exact mu'
    · rw [upd_ne q]; exact (s.fz j a hj).2
  · rw [upd_ne fun q => hz (by rw [← q]; exact z)]; exact s.zh a z
  · rw [upd_ne fun q => hf i (by rw [q]; exact hp)]; exact e
  · by_cases q : a = p
    · rw [q, upd_same]; intro z; cases z
    · rw [upd_ne q]; exact h
theorem RO.lstv {G : List Addr} {v : V} {ds : List D} (r : RO K w Z H G v (.lst ds)) : ∃ p vs, v = .ref p ∧ G = [p] ∧ H p = some (.lst vs) ∧ RepL K w Z H vs ds := by
  cases r with
  | lst h l => exact ⟨_, _, rfl, rfl, h, l⟩
theorem RepL.dropLast {vs : List V} {ds : List D} (r : RepL K w Z H vs ds) : RepL K w Z H vs.dropLast ds.dropLast := by
  rw [List.dropLast_eq_take, List.dropLast_eq_take, r.length]
  exact r.take _
theorem RepL.eraseIdx : ∀ {vs : List V} {ds : List D} (i : Nat), RepL K w Z H vs ds → RepL K w Z H (vs.eraseIdx i) (ds.eraseIdx i)
  | _, _, _, .nil => .nil
  | _, _, 0, .cons _ t => t
  | _, _, i + 1, .cons r t => .cons r (RepL.eraseIdx i t)
theorem RepL.set : ∀ {vs : List V} {ds : List D} (i : Nat) {v : V} {d : D}, RepD K w Z H v d → RepL K w Z H vs ds → RepL K w Z H (vs.set i v) (ds.set i d)
  | _, _, _, _, _, _, .nil => .nil
  | _, _, 0, _, _, r, .cons _ t => .cons r t
  | _, _, i + 1, _, _, q, .cons r t => .cons r (RepL.set i q t)
end
def getL (env : Env) (i : Nat) : Option (List D) := match env[i]?.join with
  | some (.lst ds) => some ds
  | _ => none
theorem getL_some {env : Env} {i : Nat} {ds : List D} (h : getL env i = some ds) : env[i]? = some (some (.lst ds)) := by
  unfold getL at h
  split at h
  · rename_i e
    cases h
    exact join_some e
  · cases h
def mApp (i : Nat) (f : EF) : EF := fun env => (getL env i).bind fun _ => (f env).bind fun p => (getL p.2 i).bind fun ds => if ds.length < 16777216 then some (.non, p.2.set i (some (.lst (ds ++ [p.1])))) else none
def mExt (i : Nat) (f : EF) : EF := fun env => (getL env i).bind fun _ => (f env).bind fun p => (getL p.2 i).bind fun ds => match p.1 with
  | .lst es => if ds.length + es.length ≤ 16777216 then some (.non, p.2.set i (some (.lst (ds ++ es)))) else none
  | _ => none
def mPop (i : Nat) : EF := fun env => (getL env i).bind fun ds => (ds[ds.length - 1]?).map fun d => (d, env.set i (some (.lst ds.dropLast)))
def mPopAt (i : Nat) (f : EF) : EF := fun env => (getL env i).bind fun _ => (f env).bind fun p => (getL p.2 i).bind fun ds => match p.1 with
  | .int k => if 0 ≤ k ∧ k < 16777216 then (ds[k.toNat]?).map fun d => (d, p.2.set i (some (.lst (ds.eraseIdx k.toNat)))) else none
  | _ => none
def sLSet (i : Nat) (fi fe : EF) : SF := fun env => (fe env).bind fun p => (getL p.2 i).bind fun _ => (fi p.2).bind fun q => (getL q.2 i).bind fun ds => match q.1 with
  | .int k => if 0 ≤ k ∧ k < (ds.length : Int) then some (.nx, q.2.set i (some (.lst (ds.set k.toNat p.1)))) else none
  | _ => none
section
variable {X : Cx} {O P : Nat → Bool} {ro : Bool} {e : Expr} {pos apos p : Pos} {i : Nat} {x : Str}
theorem own_list {K : PySem.W.Frag} {w : World} {Z : Addr → Prop} {F : Fts} {H : Hp} {σ : L2.St} {env : Env} {ds : List D} (s : St' K w O Z F H σ env) (ho : O i = true) (h : getL env i = some ds) :
    ∃ l vs, σ[i]? = some (some (.ref l)) ∧ F i = [l] ∧ H l = some (.lst vs) ∧ RepL K w Z H vs ds := by
  obtain ⟨v, e1, r⟩ := s.own i _ (getL_some h) ho
  obtain ⟨l, vs, rfl, h1, h2, h3⟩ := r.lstv
  exact ⟨l, vs, e1, h1, h2, h3⟩
theorem de_app {f : EF} (hN : X.N[i]? = some x) (hv : Vis X.env.scope x) (ho : O i = true) (hd : (x == ("__debug__" : Str)) = false) (hcd : (x == ("__classdict__" : Str)) = false) (ha : PE X e (tE X.K X.w O f))
    (hs : starEach (e :: []) X.env = (false, eval e X.env) :: starEach [] X.env) (hbase : attributeBase (.Name x p) "append" X.env (eval (.Name x p) X.env) = eval (.Name x p) X.env)
    (hfew : ((backTo pos (starEach (e :: []) X.env)).all (fun x => !x.1) && (backToKw pos (keywordEach [] X.env)).all (fun x => x.1.isSome) && decide ((e :: []).length + ([] : List Keyword).length + (if ([] : List Keyword).isEmpty then 0 else 1) < 30)) = true)
    (hline : (apos.endLine == pos.line) = true) : PE X (.Call (.Attribute (.Name x p) "append" apos) [e] [] pos) (tE X.K X.w O (mApp i f)) := by
  refine (pe_bm PySem.F.plainAttrs_list PySem.F.slot_list_append PySem.F.type_list_append mt_append (pe_var hN hv hd hcd) (pa_cons ha pa_nil hs) hbase hfew hline hs (by rfl)).mono fun σ H Q h => ?_
  obtain ⟨Z, F, env, d, env1, s, e, k⟩ := h
  obtain ⟨ds0, q0, e⟩ := Option.bind_eq_some_iff.mp e
  obtain ⟨⟨d1, ea⟩, q1, e⟩ := Option.bind_eq_some_iff.mp e
  obtain ⟨ds, q2, e⟩ := Option.bind_eq_some_iff.mp e
  split at e
  · rename_i hl
    cases e
    obtain ⟨l, vs0, e1, h1, h2, h3⟩ := own_list s ho q0
    refine ⟨_, e1, .inl ⟨rfl, _, SqL.of h2⟩, Z, F, env, _, _, s, q1, fun v Z1 F1 H1 s1 t1 r1 => ?_⟩
    obtain ⟨l', vs, e1', h1', h2', h3'⟩ := own_list s1 ho q2
    rw [e1] at e1'; cases e1'
    refine ⟨l, vs, v, rfl, rfl, h2', by rw [h3'.length, lineN]; exact hl, ?_⟩
    obtain ⟨s2, t2⟩ := s1.chg (o := .lst (vs ++ [v])) (d' := .lst (ds ++ [d1])) ho h1' e1 (fun _ => trivial) trivial fun kp => .lst upd_same ((h3'.append (.cons r1 .nil)).kp kp)
    exact k .non Z1 F1 _ s2 (t1.trans t2) .non
  · cases e
theorem de_ext {f : EF} (hN : X.N[i]? = some x) (hv : Vis X.env.scope x) (ho : O i = true) (hd : (x == ("__debug__" : Str)) = false) (hcd : (x == ("__classdict__" : Str)) = false) (ha : PE X e (tE X.K X.w O f))
    (hs : starEach (e :: []) X.env = (false, eval e X.env) :: starEach [] X.env) (hbase : attributeBase (.Name x p) "extend" X.env (eval (.Name x p) X.env) = eval (.Name x p) X.env)
    (hfew : ((backTo pos (starEach (e :: []) X.env)).all (fun x => !x.1) && (backToKw pos (keywordEach [] X.env)).all (fun x => x.1.isSome) && decide ((e :: []).length + ([] : List Keyword).length + (if ([] : List Keyword).isEmpty then 0 else 1) < 30)) = true)
    (hline : (apos.endLine == pos.line) = true) : PE X (.Call (.Attribute (.Name x p) "extend" apos) [e] [] pos) (tE X.K X.w O (mExt i f)) := by
  refine (pe_bm PySem.F.plainAttrs_list PySem.F.slot_list_extend PySem.F.type_list_extend mt_extend (pe_var hN hv hd hcd) (pa_cons ha pa_nil hs) hbase hfew hline hs (by rfl)).mono fun σ H Q h => ?_
  obtain ⟨Z, F, env, d, env1, s, e, k⟩ := h
  obtain ⟨ds0, q0, e⟩ := Option.bind_eq_some_iff.mp e
  obtain ⟨⟨d1, ea⟩, q1, e⟩ := Option.bind_eq_some_iff.mp e
  obtain ⟨ds, q2, e⟩ := Option.bind_eq_some_iff.mp e
  cases d1 with
  | lst es =>
    have e : (if ds.length + es.length ≤ 16777216 then some (D.non, ea.set i (some (.lst (ds ++ es)))) else none) = some (d, env1) := e
    split at e
    · rename_i hl
      cases e
      obtain ⟨l, vs0, e1, h1, h2, h3⟩ := own_list s ho q0
      refine ⟨_, e1, .inl ⟨rfl, _, SqL.of h2⟩, Z, F, env, _, _, s, q1, fun v Z1 F1 H1 s1 t1 r1 => ?_⟩
      obtain ⟨l', vs, e1', h1', h2', h3'⟩ := own_list s1 ho q2
      rw [e1] at e1'; cases e1'
      cases r1 with
      | @lst b us _ hb zb lb =>
        refine ⟨l, b, vs, us, rfl, rfl, h2', hb, by rw [h3'.length, lb.length, lineN]; exact hl, ?_⟩
        obtain ⟨s2, t2⟩ := s1.chg (o := .lst (vs ++ us)) (d' := .lst (ds ++ es)) ho h1' e1 (fun _ => trivial) trivial fun kp => .lst upd_same ((h3'.append lb).kp kp)
        exact k .non Z1 F1 _ s2 (t1.trans t2) .non
    · cases e
  | _ => cases e
theorem de_pop (hN : X.N[i]? = some x) (hv : Vis X.env.scope x) (ho : O i = true) (hd : (x == ("__debug__" : Str)) = false) (hcd : (x == ("__classdict__" : Str)) = false)
    (hbase : attributeBase (.Name x p) "pop" X.env (eval (.Name x p) X.env) = eval (.Name x p) X.env)
    (hline : (apos.endLine == pos.line) = true) : PE X (.Call (.Attribute (.Name x p) "pop" apos) [] [] pos) (tE X.K X.w O (mPop i)) := by
  refine (pe_bm0 PySem.F.plainAttrs_list PySem.F.slot_list_pop PySem.F.type_list_pop mt_pop (pe_var hN hv hd hcd) hbase hline).mono fun σ H Q h => ?_
  obtain ⟨Z, F, env, d, env1, s, e, k⟩ := h
  obtain ⟨ds, q0, e⟩ := Option.bind_eq_some_iff.mp e
  obtain ⟨d1, q1, e⟩ := Option.map_eq_some_iff.mp e
  cases e
  obtain ⟨l, vs, e1, h1, h2, h3⟩ := own_list s ho q0
  obtain ⟨v, hv1, hv2⟩ := h3.getD q1
  refine ⟨_, e1, .inl ⟨rfl, _, SqL.of h2⟩, l, vs, v, rfl, rfl, h2, by rw [h3.length]; exact hv1, ?_⟩
  obtain ⟨s2, t2⟩ := s.chg (o := .lst vs.dropLast) (d' := .lst ds.dropLast) ho h1 e1 (fun _ => trivial) trivial fun kp => .lst upd_same (h3.dropLast.kp kp)
  exact k v Z F _ s2 t2 (hv2.kp (s.kp t2))
theorem de_popAt {f : EF} (hN : X.N[i]? = some x) (hv : Vis X.env.scope x) (ho : O i = true) (hd : (x == ("__debug__" : Str)) = false) (hcd : (x == ("__classdict__" : Str)) = false) (ha : PE X e (tE X.K X.w O f))
    (hs : starEach (e :: []) X.env = (false, eval e X.env) :: starEach [] X.env) (hbase : attributeBase (.Name x p) "pop" X.env (eval (.Name x p) X.env) = eval (.Name x p) X.env)
    (hfew : ((backTo pos (starEach (e :: []) X.env)).all (fun x => !x.1) && (backToKw pos (keywordEach [] X.env)).all (fun x => x.1.isSome) && decide ((e :: []).length + ([] : List Keyword).length + (if ([] : List Keyword).isEmpty then 0 else 1) < 30)) = true)
    (hline : (apos.endLine == pos.line) = true) : PE X (.Call (.Attribute (.Name x p) "pop" apos) [e] [] pos) (tE X.K X.w O (mPopAt i f)) := by
  refine (pe_bm PySem.F.plainAttrs_list PySem.F.slot_list_pop PySem.F.type_list_pop mt_popAt (pe_var hN hv hd hcd) (pa_cons ha pa_nil hs) hbase hfew hline hs (by rfl)).mono fun σ H Q h => ?_
  obtain ⟨Z, F, env, d, env1, s, e, k⟩ := h
  obtain ⟨ds0, q0, e⟩ := Option.bind_eq_some_iff.mp e
  obtain ⟨⟨d1, ea⟩, q1, e⟩ := Option.bind_eq_some_iff.mp e
  obtain ⟨ds, q2, e⟩ := Option.bind_eq_some_iff.mp e
  cases d1 with
  | int n =>
    have e : (if 0 ≤ n ∧ n < 16777216 then (ds[n.toNat]?).map fun d => (d, ea.set i (some (.lst (ds.eraseIdx n.toNat)))) else none) = some (d, env1) := e
    split at e
    · rename_i hl
      obtain ⟨d2, q3, e⟩ := Option.map_eq_some_iff.mp e
      cases e
      obtain ⟨l, vs0, e1, h1, h2, h3⟩ := own_list s ho q0
      refine ⟨_, e1, .inl ⟨rfl, _, SqL.of h2⟩, Z, F, env, _, _, s, q1, fun v Z1 F1 H1 s1 t1 r1 => ?_⟩
      obtain ⟨l', vs, e1', h1', h2', h3'⟩ := own_list s1 ho q2
      rw [e1] at e1'; cases e1'
      obtain ⟨u, hu1, hu2⟩ := h3'.getD q3
      have hlen : n.toNat < vs.length := (List.getElem?_eq_some_iff.mp hu1).1
      rw [r1.intv]
      refine ⟨l, vs, n, n.toNat, u, rfl, rfl, h2', by omega, by omega, ?_, hu1, ?_⟩
      · have : atI vs n = some u := ixL_at (by unfold ixL; rw [if_pos hl.1]; exact hu1)
        obtain ⟨j, hj1, hj2, _⟩ := atI_get this
        have e3 := (ixN_seq (n := vs.length) (i := n) (j := n.toNat) (by unfold ixN; rw [if_pos hl.1, if_pos (by omega)])).1
        exact e3
      · obtain ⟨s2, t2⟩ := s1.chg (o := .lst (vs.eraseIdx n.toNat)) (d' := .lst (ds.eraseIdx n.toNat)) ho h1' e1 (fun _ => trivial) trivial fun kp => .lst upd_same ((h3'.eraseIdx _).kp kp)
        exact k u Z1 F1 _ s2 (t1.trans t2) (hu2.kp (s1.kp t2))
    · cases e
  | _ => cases e
theorem ds_lset {o : Expr} {fi fe : EF} {pos' : Pos} (hN : X.N[i]? = some x) (hv : Vis X.env.scope x) (ho : O i = true) (hd : (x == ("__debug__" : Str)) = false) (hcd : (x == ("__classdict__" : Str)) = false) (hi : PE X o (tE X.K X.w O fi)) (he : PE X e (tE X.K X.w O fe))
    (ha : ∀ v, assign (.Subscript (.Name x p) o pos') X.env v = (do
      let ov ← holding [v] (eval (.Name x p) X.env)
      let iv ← holding [v, ov] (eval o X.env)
      standAt pos'
      holding [v, ov, iv] (setItem ov iv v)
      release [v, ov, iv] []))
    (hs : swapsWithSole [.Subscript (.Name x p) o pos'] e pos.line X.env = pure false) (hw : swappedStores [.Subscript (.Name x p) o pos'] e X.env = pure none)
    (h1 : (assignEach [.Subscript (.Name x p) o pos'] X.env).map (·.2) = [assign (.Subscript (.Name x p) o pos') X.env]) : PS X (.Assign [.Subscript (.Name x p) o pos'] e pos) (tS X.K X.w O P ro (sLSet i fi fe)) := by
  refine (ps_asg he (pg_sub (pe_var hN hv hd hcd) hi set_list ha) hs hw h1).mono fun Dn σ H h => ?_
  obtain ⟨Z, F, env, out, env1, s, e, k⟩ := h
  obtain ⟨⟨d1, ea⟩, q1, e⟩ := Option.bind_eq_some_iff.mp e
  obtain ⟨ds0, q0, e⟩ := Option.bind_eq_some_iff.mp e
  obtain ⟨⟨d2, eb⟩, q2, e⟩ := Option.bind_eq_some_iff.mp e
  obtain ⟨ds, q3, e⟩ := Option.bind_eq_some_iff.mp e
  cases d2 with
  | int n =>
    have e : (if 0 ≤ n ∧ n < (ds.length : Int) then some (Out.nx, eb.set i (some (.lst (ds.set n.toNat d1)))) else none) = some (out, env1) := e
    split at e
    · rename_i hl
      cases e
      refine ⟨Z, F, env, _, _, s, q1, fun v Z1 F1 H1 s1 t1 r1 => ?_⟩
      obtain ⟨l, vs0, e1, h1, h2, h3⟩ := own_list s1 ho q0
      refine ⟨_, e1, Z1, F1, ea, _, _, s1, q2, fun u Z2 F2 H2 s2 t2 r2 => ?_⟩
      obtain ⟨l', vs, e1', h1', h2', h3'⟩ := own_list s2 ho q3
      rw [e1] at e1'; cases e1'
      rw [r2.intv]
      refine ⟨l, vs, n, n.toNat, rfl, rfl, h2', by unfold ixN; rw [if_pos hl.1, if_pos (by rw [h3'.length]; exact hl.2)], ?_⟩
      obtain ⟨s3, t3⟩ := s2.chg (o := .lst (vs.set n.toNat v)) (d' := .lst (ds.set n.toNat d1)) ho h1' e1 (fun _ => trivial) trivial fun kp => .lst upd_same ((h3'.set _ (r1.kp (s1.kp t2))).kp kp)
      exact k σ Z2 F2 _ s3 ((t1.trans t2).trans t3) Prt.refl
    · cases e
  | _ => cases e
end
end Ev

end

section
set_option Elab.async false
set_option linter.all false
set_option maxRecDepth 100000
set_option maxHeartbeats 0
/-! Xc0: KeyError as a base of own exceptions. -/
namespace XcF
open PySem PySem.F
abbrev kMro : List Value := [.type "KeyError", .type "LookupError",
  .type "Exception", .type "BaseException", .type "object"]
/-- what is asked of a base's __init__ -/
structure IniF (B initId : String) : Prop where
  slot : Slot B "__init__" initId
  entry : entryFor table initId = some Builtin.«BaseException.__init__»
  split : splitId initId = some (B, "__init__")
  kind : builtinKind initId = some .slot
  row : Manifest.signature? initId = some ⟨.positional, "*", B, .self, [⟨"args", .varPos, false⟩]⟩
  noStar : (B != "*") = true
theorem keyIni : IniF "KeyError" "KeyError.__init__" := by
  refine { slot := ?slot, entry := ?entry, split := ?split, kind := ?kind, row := ?row, noStar := ?noStar }
  case slot =>
    refine .of (owner := "KeyError") (n := "__init__") ?_ (by decide +kernel) (by decide +kernel) (by decide +kernel) ?_ ?_
    · (rw [typeLookup_type, builtinLookup_eq_fast]; kernel_rfl)
    · first | exact .inl (by decide +kernel) | exact .inr (by decide +kernel)
    · (rw [isSubtype_type]; kernel_rfl)
  case entry =>
    refine entryFor_alias (id' := "BaseException.__init__") ?_ (by first | rfl | decide +kernel) (by decide +kernel) ?_ <;> (rw [fastTable_eq_tree]; kernel_rfl)
  case split => kernel_rfl
  case kind => kernel_rfl
  case row => kernel_rfl
  case noStar => decide +kernel
theorem iniOf {B newId initId : String} (F : ExcCallFacts B newId initId) : IniF B initId :=
  ⟨F.init, F.initEntry, F.initSplit, F.initKind, F.initRow, F.noStar⟩
theorem keyStore : StoreFacts "KeyError" kMro "object.__setattr__" "object" := by
  refine { mro := ?mro, slot := ?slot, entry := ?entry, kind := ?kind, split := ?split, hasOwner := ?hasOwner, args := ?args, passes := ?passes }
  case mro => kernel_rfl
  case slot =>
    refine .of (owner := "object") (n := "__setattr__") ?_ (by decide +kernel) (by decide +kernel) (by decide +kernel) ?_ ?_
    · (rw [typeLookup_type, builtinLookup_eq_fast]; kernel_rfl)
    · first | exact .inl (by decide +kernel) | exact .inr (by decide +kernel)
    · (rw [isSubtype_type]; kernel_rfl)
  case entry => exact entry_object_sa
  case kind => decide +kernel
  case split => decide +kernel
  case hasOwner => decide +kernel
  case args => (intro a b c; unfold argsOk; kernel_rfl)
  case passes => (intro self; kernel_rfl)
end XcF

end

section
set_option Elab.async false
set_option linter.all false
set_option maxRecDepth 100000
set_option maxHeartbeats 4000000
/-! Xc1: the call of an own exception class, its __init__ a def; any base whose __new__ is BaseException's, arguments by place and by name. -/
namespace XcM
open PySem PySem.W
section
variable {M : Model} {A : Around} {E : Value → Shared → Prop} {h : Heap} {g : Array GenState} {d : Drawn} {t : Nat} {os : OsState}
variable {nm q : Str} {C N : Addr} {bs bm bmN : List Value} {hdct : Bool} {sn : List Str} {sub : List Value} {ab : Bool} {col : Option Bool} {dd : Option Addr} {k0 k1 k2 k3 k5 : Option Value} {Bn newId inN : String}
variable {rest : List Value} {kw : List (Str × Value)}
/-- what is asked of the class's own mro -/
structure MroF (C : Addr) (bm : List Value) (Bn : String) : Prop where
  hB : (Value.ref C :: bm).contains (.type Bn) = true
  hA : (Value.ref C :: bm).contains (.type "AttributeError") = false
  hN : (Value.ref C :: bm).contains (.type "NameError") = false
theorem chk_new {Q : Unit → Shared → Prop} (F : ExcBaseFacts Bn newId inN bmN) (m : MroF C bm Bn)
    (hC : h.get? C = some (excClassObj nm q C N bs bm hdct sn sub ab col dd k0 k1 k2 k3 k5 newId))
    (hq : Q () ⟨h, g, d, t, os⟩) :
    wpAny M A (checkBuiltinCall newId ⟨.ref C :: rest, kw⟩) Q E ⟨h, g, d, t, os⟩ := by
  have hB := m.hB
  have noStar := F.noStar
  simp only [checkBuiltinCall, F.newKind, F.newSplit, F.newRow]
  repeat (first
    | refine wpAny_loadPart_at hC ?_
    | (refine wpAny_isSubtype_exc hC ?_
       rw [hB])
    | refine wpAny_staticBase_exc hC ?_
    | refine wpAny_madeBy_exc hC ?_
    | simp only [bne_self_eq_false, Bool.false_eq_true, if_false]
    | wp_step)
  exact hq
end
section
variable {prog : Program} {w : World} {A : Around} {E : Value → Shared → Prop} {R : Result → Shared → Prop} {h : Heap} {g : Array GenState} {d : Drawn} {t : Nat} {os : OsState}
variable {nm q : Str} {C N : Addr} {bs bm bmN : List Value} {hdct : Bool} {sn : List Str} {sub : List Value} {ab : Bool} {col : Option Bool} {dd : Option Addr} {k0 k1 k2 k3 k5 : Option Value} {Bn newId inN : String}
variable {rest : List Value} {kw : List (Str × Value)} {fI : Addr}
theorem chk_init {M : Model} {B initId : String} (F : XcF.IniF B initId) {e : Addr} {oe : Obj} {Q : Unit → Shared → Prop}
    (hB : (Value.ref C :: bm).contains (.type B) = true)
    (hC : h.get? C = some (excClassObj nm q C N bs bm hdct sn sub ab col dd k0 k1 k2 k3 k5 newId))
    (he : h.get? e = some oe) (hcls : oe.cls = .ref C) (hq : Q () ⟨h, g, d, t, os⟩) :
    wpAny M A (checkBuiltinCall initId ⟨.ref e :: rest, []⟩) Q E ⟨h, g, d, t, os⟩ := by
  have noStar := F.noStar
  simp only [checkBuiltinCall, F.kind, F.split, F.row]
  repeat (first
    | (with_reducible refine wpAny_loadPart_at he ?_
       rw [hcls])
    | with_reducible refine wpAny_loadPart_at hC ?_
    | (with_reducible refine wpAny_isSubtype_exc hC ?_
       rw [hB])
    | wp_step)
  refine wpAny_onRaise ?_
  have none_ : ∀ (a b : String) (n : Nat), Bind.check ⟨.positional, "*", B, .self, [⟨"args", .varPos, false⟩]⟩ a b n (List.map (fun x => x.fst) ({ pos := Value.ref e :: rest } : Args).kw) = pure () :=
    fun a b n => check_star_args _ _ _ _ _ _
  rw [none_]
  exact wpAny_pure hq
theorem chk_type {M : Model} {Q : Unit → Shared → Prop}
    (hC : h.get? C = some (excClassObj nm q C N bs bm hdct sn sub ab col dd k0 k1 k2 k3 k5 newId))
    (hq : Q () ⟨h, g, d, t, os⟩) :
    wpAny M A (checkBuiltinCall "type.__call__" ⟨.ref C :: rest, kw⟩) Q E ⟨h, g, d, t, os⟩ := by
  have f3 := tc_sub
  have hT : (⟨h, g, d, t, os⟩ : Shared).TypeIs (.ref C) "type" := ⟨_, hC, rfl⟩
  simp only [checkBuiltinCall, tc_kind, tc_split]
  repeat (any_goals (first
    | assumption
    | with_reducible refine wpAny_loadPart_at hC ?_
    | with_reducible refine wpAny_onRaise ?_
    | with_reducible refine wpAny_map ?_
    | wp_step))
theorem run_new (F : ExcBaseFacts Bn newId inN bmN) (m : MroF C bm Bn)
    (hC : h.get? C = some (excClassObj nm q C N bs bm hdct sn sub ab col dd k0 k1 k2 k3 k5 newId))
    (hq : R (.ok (.ret (.ref (h.objs.size + 1)))) ⟨(h.push (kdv_tup rest)).push (HandSPX.excO C h.objs.size), g, d, t, os⟩)
    (hrest : rest.length ≤ sizeLine) :
    codeAny (model prog w) A (.builtin newId ⟨.ref C :: rest, kw⟩) R ⟨h, g, d, t, os⟩ := by
  have ends := F.ends
  have hB := m.hB
  have hA := m.hA
  have hN := m.hN
  refine codeAny_builtinAt F.entry ?_
  unfold Builtin.«BaseException.__new__»
  refine wpAt_bind ?_
  show wpAt _ _ _ (stack >>= _) _ _ _
  refine wpAt_bind (wpAt_stack fun p below => wpAt_of_wpAny ?_)
  wp_walk
  refine wpAt_of_wpAny ?_
  rw [F.owner]
  repeat (first
    | with_reducible refine wpAny_madeHere_exc F.canon hC ?_
    | with_reducible refine wpAny_loadPart_at hC ?_
    | (with_reducible refine wpAny_isSubtype_exc hC ?_
       first
        | rw [hB]
        | rw [hA]
        | rw [hN])
    | wp_step)
  show R _ _
  rw [Heap.size_push]
  exact hq
theorem run_type {Q : Fin → Shared → Prop} (F : ExcBaseFacts Bn newId inN bmN) (m : MroF C bm Bn)
    (hC : h.get? C = some (excClassObj nm q C N bs bm hdct sn sub ab col dd k0 k1 k2 k3 k5 newId))
    (hi : Looks (model prog w) h (typeLookup (.ref C) "__init__") (some (.ref fI)))
    (hb : ∀ self, Looks (model prog w) h (bindSpecial (.ref fI) self) (.ref fI, [self])) (hrest : rest.length ≤ sizeLine)
    (hq : codeAny (model prog w) A (.call (.ref fI) ⟨.ref (h.objs.size + 1) :: rest, kw⟩)
      (fun r s' => match r with
        | .ok (.ret v) => v = .none ∧ Q (.done (.ret (.ref (h.objs.size + 1)))) s'
        | .ok _ => False
        | .error e => E e s')
      ⟨(h.push (kdv_tup rest)).push (HandSPX.excO C h.objs.size), g, d, t, os⟩) :
    wpAny (model prog w) A (Builtin.«type.__call__» ⟨.ref C :: rest, kw⟩) Q E ⟨h, g, d, t, os⟩ := by
  repeat (first
    | with_reducible refine wpAny_loadPart_at hC ?_
    | with_reducible refine wpAny_madeBy_exc hC ?_
    | wp_step)
  refine codeAny_call_builtin_code (Code.quiet_builtin _ F.quiet) (chk_new F m hC ?_)
  refine run_new F m hC ?_ hrest
  show wpAny _ _ _ _ _ _
  have keep : ∀ b o, h.get? b = some o → ((h.push (kdv_tup rest)).push (HandSPX.excO C h.objs.size)).get? b = some o :=
    fun b o e => Heap.get?_push_of_some _ (Heap.get?_push_of_some _ e)
  have hC1 := keep _ _ hC
  have hget : ((h.push (kdv_tup rest)).push (HandSPX.excO C h.objs.size)).get? (h.objs.size + 1) = some (HandSPX.excO C h.objs.size) := by
    heap_get
  have hself : (Value.ref C :: bm).contains (.ref C) = true := by simp
  have i1 := hi.keeps keep
  have b1 := (hb (.ref (h.objs.size + 1))).keeps keep
  unfold isInstance
  repeat (first
    | with_reducible refine wpAny_loadPart_at hget ?_
    | (with_reducible refine wpAny_isSubtype_exc hC1 ?_
       rw [hself])
    | wp_step)
  show wpAny _ _ (typeLookup (.ref C) _) _ _ _
  refine i1.at ?_
  refine wpAny_holding (wpAny_bind (b1.at ?_))
  refine wpAny_bind (wpAny_call (codeAny_mono hq fun r s' z => ?_))
  cases r with
  | error e => exact z
  | ok fl =>
    cases fl with
    | next => exact z.elim
    | brk => exact z.elim
    | cont => exact z.elim
    | ret v =>
      obtain ⟨rfl, z⟩ := z
      first
        | exact wpAny_pure (wpAny_pure z)
        | (wp_walk; exact z)
theorem run_call (F : ExcBaseFacts Bn newId inN bmN) (m : MroF C bm Bn)
    (hC : h.get? C = some (excClassObj nm q C N bs bm hdct sn sub ab col dd k0 k1 k2 k3 k5 newId))
    (hi : Looks (model prog w) h (typeLookup (.ref C) "__init__") (some (.ref fI)))
    (hb : ∀ self, Looks (model prog w) h (bindSpecial (.ref fI) self) (.ref fI, [self])) (hrest : rest.length ≤ sizeLine)
    (hq : codeAny (model prog w) (A.under (.builtin "type.__call__" ⟨.ref C :: rest, kw⟩)) (.call (.ref fI) ⟨.ref (h.objs.size + 1) :: rest, kw⟩)
      (InitBack (h.objs.size + 1) R) ⟨(h.push (kdv_tup rest)).push (HandSPX.excO C h.objs.size), g, d, t, os⟩) :
    codeAny (model prog w) A (.call (.ref C) ⟨rest, kw⟩) R ⟨h, g, d, t, os⟩ := by
  have f1 := tc_lookup
  have f2 := tc_bind (.ref C)
  have f3 := tc_sub
  have hTy : (⟨h, g, d, t, os⟩ : Shared).TypeIs (.ref C) "type" := ⟨_, hC, rfl⟩
  refine codeAny_of_tree ?_
  show wpAny _ _ (callAny (.ref C) _) _ _ _
  repeat (any_goals (first
    | assumption
    | with_reducible refine wpAny_loadPart_at hC ?_
    | wp_step))
  refine ⟨rfl, ?_⟩
  refine codeAny_call_builtin_at (Code.quiet_builtin _ (by decide +kernel)) entry_typeCall (chk_type hC (run_type F m hC hi hb hrest ?_))
  refine codeAny_mono hq fun r s' z => ?_
  cases r with
  | error e => exact z
  | ok fl => cases fl <;> exact z
end
end XcM

end

section
set_option Elab.async false
set_option linter.all false
set_option maxRecDepth 100000
set_option maxHeartbeats 4000000
/-! Xc2: own exceptions as values: made, filled by __init__, read, asked by isinstance. -/
namespace XcV
open PySem PySem.Spec PyProof.Rows L2
/-- what is asked of the built-in class below -/
structure BaseX (Bn B newId initId : String) (bmB : List Value) : Prop where
  fn : ∃ inN bmN, ExcBaseFacts Bn newId inN bmN
  sf : StoreFacts B bmB "object.__setattr__" "object"
  ini : XcF.IniF B initId
  hBn : bmB.contains (.type Bn) = true
  hB : bmB.contains (.type B) = true
  hA : bmB.contains (.type "AttributeError") = false
  hN : bmB.contains (.type "NameError") = false
/-- what is asked of the class -/
structure XcC (K : PySem.W.Frag) (C : Addr) (newId : String) (bmB : List Value) : Prop where
  cl : PySem.W.excInitIn K C bmB newId = true
  ov : PySem.W.excOver K C bmB = true
  sa : PySem.W.findIn K (.ref C) "__setattr__" = some (some (.builtin "object.__setattr__"))
  hd : PySem.W.hasDictIn K C = true
  kC : PySem.W.keepIn K (.ref C) = true
  ga : PySem.W.findIn K (.ref C) "__getattribute__" = some (some (.builtin "BaseException.__getattribute__"))
  gg : PySem.W.findIn K (.ref C) "__getattr__" = some none
  exC : PySem.W.subIn K (.ref C) (.type "BaseException") = some true
  ca : PySem.W.findIn K (.ref C) "__class__" = some (some (.builtin "object.__class__"))
  cn : PySem.W.specialIn K (.builtin "object.__class__") "__get__" = some (some (.builtin "getset_descriptor.__get__"))
  ck : PySem.W.takesIn K (.builtin "object.__class__") = some true
  ob : PySem.W.mroIn K C (.type "object") = some true
section
variable {X : Cx} {pins : List (Addr × Obj)} {σ : L2.St} {H : Hp} {s : Shared} {a C dx : Addr} {f : Str} {y : V} {u : Value} {fs : List (Str × V)} {Q : Unit → Shared → Prop} {E : Value → Shared → Prop} {A : Around}
variable {Bn B newId initId : String} {bmB : List Value}
theorem XcC.dict {K : PySem.W.Frag} (T : XcC K C newId bmB) : ∃ cd, PySem.W.clsIn K C = some cd ∧ cd.hasDict = true := PySem.W.any_some T.hd
/-- self.f = y, the first store -/
theorem put_first (BX : BaseX Bn B newId initId bmB) (T : XcC X.K C newId bmB) (I : Inv X pins σ H s) (ha : H a = some (exo a C none))
    (hno : PySem.W.findIn X.K (.ref C) f = some none) (ry : RelV y u)
    (h : ∀ dx s', H dx = none → dx ≠ a → Inv X pins σ (upd (upd H dx (exd dx [(f, y)])) a (exo a C (some dx))) s' → Q () s') :
    wpAny (model X.prog X.w) A (setAttr (.ref a) f u) Q E s := by
  obtain ⟨cd, hcd, hdd⟩ := T.dict
  obtain ⟨t1, ho⟩ := exo_at I.hok ha
  obtain ⟨hp, g, d, t, os⟩ := s
  have J : PySem.W.InstAt hp a { cls := .ref C, dict := none, data := .fields #[.ref t1, .none, .none, .none, .bool false, .none] } C none :=
    ⟨ho, rfl, rfl, trivial⟩
  have hxs : a ≠ hp.objs.size := Nat.ne_of_lt (Heap.lt_size ho)
  have hcls : PySem.W.Looks (model X.prog X.w) hp (classData C) cd := PySem.W.looks_clsIn I.kIn hcd
  have fin : ∀ h' tk' dx, (∀ b o, b ≠ a → hp.get? b = some o → h'.get? b = some o) → hp.objs.size ≤ dx → dx ≠ a →
      h'.get? a = some { cls := .ref C, dict := some dx, data := .fields #[.ref t1, .none, .none, .none, .bool false, .none] } →
      h'.Ns1 dx (fun y => if y = f then some u else none) → Q () ⟨h', g, d, tk', os⟩ := by
    intro h' tk' dx k dn dne hx hn
    have hnd : H dx = none := I.hok.fresh dn
    have nd : ∀ {b : Addr} {o : Obj}, hp.get? b = some o → b ≠ dx :=
      fun {b o} q => Nat.ne_of_lt (Nat.lt_of_lt_of_le (Heap.lt_size q) dn)
    have na : ∀ {b : Addr}, H b = none → b ≠ a := fun {b} n z => by
      rw [z, ha] at n
      cases n
    have un : Un X.fs [] H (upd (upd H dx (exd dx [(f, y)])) a (exo a C (some dx))) hp h' :=
      { keep := fun b o q n _ _ => k b o (na n) q
        slot := fun b o q n _ _ => ⟨o.slots, k b o (na n) q⟩
        free := fun b o q n _ => by
          rw [upd_ne (na n), upd_ne (nd q)]
          exact n
        there := fun b o q _ => by
          by_cases hb : b = a
          · exact ⟨_, by rw [hb]; exact hx⟩
          · exact ⟨o, k b o hb q⟩
        tups := fun b xs q => by
          rw [upd_ne (at_ne ha q exo_tup), upd_ne (ne_of_none q hnd)]
          exact q
        frzs := fun b o v q => by
          rw [upd_ne (at_ne ha q exo_frz), upd_ne (ne_of_none q hnd)]
          exact q
        tbls := fun b ps q => ⟨#[], by
          rw [upd_ne (at_ne ha q exo_tbl), upd_ne (ne_of_none q hnd), q]
          simp⟩ }
    refine h dx _ hnd dne (I.un (t' := tk') un fun b o q => ?_)
    by_cases hb : b = a
    · subst hb
      rw [upd_same] at q
      cases q
      exact exo_ok hx
    rw [upd_ne hb] at q
    by_cases hd : b = dx
    · subst hd
      rw [upd_same] at q
      cases q
      exact exd_ok hn (relO_put (fs := []) ry fun g => True.intro)
    rw [upd_ne hd] at q
    refine (I.hok b o q).stay (fun c v hc z => k c v ?_ z) (fun c hc => ?_) (fun c xs hc => ?_)
    · rcases hc with hc | hc
      · rw [hc]; exact hb
      · exact at_ne ha hc exo_own
    · rw [upd_ne (at_ne ha hc exo_own), upd_ne (ne_of_none hc hnd)]
      exact hc
    · rw [upd_ne (at_ne ha hc exo_tup), upd_ne (ne_of_none hc hnd)]
      exact hc
  refine PySem.W.set_plain I.kIn J T.sa ?_
  refine PySem.W.osa_openX (r := none) (od := none) BX.sf I.kIn J T.ov (by unfold PySem.W.takerIn; rw [hno]; rfl) fun b => ?_
  obtain ⟨nm, bs, mro, ns, qn, hd, sn, sb, ab, col, del⟩ := cd
  dsimp only at hdd
  subst hdd
  dsimp only
  unfold Builtin.ObjectAttr.storeInOwnDict
  unfold Builtin.ObjectAttr.ownDictForStores
  repeat (first
    | with_reducible refine PySem.HandSPX.store_in_new ?_ ?_
    | with_reducible refine wpAny_loadPart_at ho ?_
    | with_reducible refine hcls.at ?_
    | wp_step)
  · refine ⟨_, #[], _, (Heap.get?_update_ne _ _ _ _ hxs.symm).trans (Heap.get?_push_at rfl rfl), rfl, ?_, fun _ => rfl⟩
    exact fun e he => absurd he (by simp)
  intro h' tk' hn' hs
  have hx1 : (hp.push { cls := .type "dict", data := .dict #[] }).get? a = some { cls := .ref C, dict := none, data := .fields #[.ref t1, .none, .none, .none, .bool false, .none] } :=
    Heap.get?_push_of_some _ ho
  refine fin h' tk' hp.objs.size (fun b o hb hbo => ?_) (Nat.le_refl _) hxs.symm ?_ hn'
  · refine (hs.2 b (Nat.ne_of_lt (Heap.lt_size hbo))).trans ((Heap.get?_update_ne _ _ _ _ hb).trans ?_)
    exact Heap.get?_push_of_some _ hbo
  · exact (hs.2 a hxs).trans (Heap.get?_update_self _ hx1 rfl)
/-- self.f = y, a further store -/
theorem put_more (BX : BaseX Bn B newId initId bmB) (T : XcC X.K C newId bmB) (I : Inv X pins σ H s) (ha : H a = some (exo a C (some dx)))
    (hx : H dx = some (exd dx fs)) (hl : fs.length ≤ 900) (hno : PySem.W.findIn X.K (.ref C) f = some none) (ry : RelV y u)
    (h : ∀ s', Inv X pins σ (upd H dx (exd dx ((f, y) :: fs))) s' → Q () s') : wpAny (model X.prog X.w) A (setAttr (.ref a) f u) Q E s := by
  obtain ⟨cd, hcd, hdd⟩ := T.dict
  obtain ⟨t1, ho⟩ := exo_at I.hok ha
  obtain ⟨mA, hns, rel⟩ := exd_at I.hok hx
  have hw := within_of rel
  obtain ⟨hp, g, d, t, os⟩ := s
  obtain ⟨oD, _, _, hoD, _, _⟩ := hns.count hw
  have J : PySem.W.InstAt hp a { cls := .ref C, dict := some dx, data := .fields #[.ref t1, .none, .none, .none, .bool false, .none] } C (some oD) :=
    ⟨ho, rfl, rfl, hoD⟩
  have hcls : PySem.W.Looks (model X.prog X.w) hp (classData C) cd := PySem.W.looks_clsIn I.kIn hcd
  refine PySem.W.set_plain I.kIn J T.sa ?_
  refine PySem.W.osa_openX (r := none) (od := some oD) BX.sf I.kIn J T.ov (by unfold PySem.W.takerIn; rw [hno]; rfl) fun b => ?_
  obtain ⟨nm, bs, mro, ns, qn, hd, sn, sb, ab, col, del⟩ := cd
  dsimp only at hdd
  subst hdd
  dsimp only
  unfold Builtin.ObjectAttr.storeInOwnDict
  unfold Builtin.ObjectAttr.ownDictForStores
  repeat (first
    | with_reducible refine PySem.OEX.store_in_old hns hw (by rw [List.length_map]; omega) ?_
    | with_reducible refine wpAny_loadPart_at ho ?_
    | with_reducible refine hcls.at ?_
    | wp_step)
  intro h' tk' hn' hs
  have there : ∃ o, h'.get? dx = some o := by
    obtain ⟨o, _, _, e', _⟩ := hn'
    exact ⟨o, e'⟩
  have k : ∀ b o, b ≠ dx → hp.get? b = some o → h'.get? b = some o := fun b o hb e => (hs.2 b hb).trans e
  exact h _ (I.write (t' := tk') (x := dx) (e := dx) (o := exd dx ((f, y) :: fs)) (by rw [hx]; exact True.intro) (.inl rfl) k there (exd_ok hn' (relO_put ry rel)))
/-- the class as it stands -/
theorem XcC.obj {h : Heap} {K : PySem.W.Frag} (BX : BaseX Bn B newId initId bmB) (T : XcC K C newId bmB) (hin : K.In h) :
    ∃ nm N qn bs bm hdct sn sub ab col dd k0 k1 k2 k3 k5, h.get? C = some (excClassObj nm qn C N bs bm hdct sn sub ab col dd k0 k1 k2 k3 k5 newId) ∧
      XcM.MroF C bm Bn ∧ (Value.ref C :: bm).contains (.type B) = true := by
  obtain ⟨nm, N, qn, bs, bm, hdct, sn, sub, ab, col, dd, k0, k1, k2, k3, k5, hC, hT⟩ := PySem.W.excInit_of hin T.cl
  have tl : ∀ Y : String, (Value.ref C :: bm).contains (.type Y) = bmB.contains (.type Y) := fun Y => by
    rw [List.contains_cons, hT]
    rfl
  exact ⟨nm, N, qn, bs, bm, hdct, sn, sub, ab, col, dd, k0, k1, k2, k3, k5, hC, ⟨(tl _).trans BX.hBn, (tl _).trans BX.hA, (tl _).trans BX.hN⟩, (tl _).trans BX.hB⟩
/-- B.__init__(self, ..): nothing of it is told -/
theorem base_init {us : List Value} {Q : Value → Shared → Prop} (BX : BaseX Bn B newId initId bmB) (T : XcC X.K C newId bmB) (I : Inv X pins σ H s)
    (ha : H a = some (exo a C none)) (hl : us.length ≤ sizeLine) (h : ∀ s', Inv X pins σ H s' → Q .none s') :
    wpAny (model X.prog X.w) A (call (.builtin initId) (.ref a :: us)) Q E s := by
  obtain ⟨t1, ho⟩ := exo_at I.hok ha
  obtain ⟨nm, N, qn, bs, bm, hdct, sn, sub, ab, col, dd, k0, k1, k2, k3, k5, hC, _, hcB⟩ := T.obj BX I.kIn
  obtain ⟨hp, g, d, t, os⟩ := s
  have F := BX.ini
  refine wpAny_call (codeAny_call_builtin F.slot.plain F.entry (XcM.chk_init F hcB hC ho rfl ?_))
  wp_walk
  have k : ∀ b o, b ≠ a → hp.get? b = some o → ((hp.push (PySem.W.kdv_tup us)).update a (Obj.mapFields (·.setIfInBounds 0 (.ref hp.objs.size)))).get? b = some o := fun b o hb hbo => by
    rw [Heap.get?_update_other _ _ (Ne.symm hb)]
    exact Heap.get?_push_of_some _ hbo
  have hx : ((hp.push (PySem.W.kdv_tup us)).update a (Obj.mapFields (·.setIfInBounds 0 (.ref hp.objs.size)))).get? a = some ({ cls := .ref C, dict := none, data := .fields #[.ref hp.objs.size, .none, .none, .none, .bool false, .none] } : Obj) := by
    rw [Heap.get?_update_self _ (Heap.get?_push_of_some _ ho) rfl]
    rfl
  have J := I.write (t' := t) (x := a) (e := a) (o := exo a C none) (by rw [ha]; exact True.intro) (.inl rfl) k ⟨_, hx⟩ (exo_ok hx)
  have same : upd H a (exo a C none) = H := by
    funext b
    by_cases hb : b = a
    · rw [hb, upd_same, ha]
    · rw [upd_ne hb]
  rw [same] at J
  exact h _ J
end
/-! ### made -/
section
variable {X : Cx} {CX : CXT} {k n : Nat} {fI C : Addr} {fd : FuncData} {ps ks : List Str} {sp : Sp} {E : XK} {x : Str} {p pos : Pos} {e : Expr} {es : List Expr} {kws : List Keyword} {t tk : TA} {g : List Value → List Value → List Value} {gV : List V → List V → List V}
variable {Bn B newId initId : String} {bmB : List Value}
theorem run_mkx {pins : List (Addr × Obj)} {σ : L2.St} {H : Hp} {s : Shared} {Q : VK} {us ws : List Value} {vs zs : List V} (BX : BaseX Bn B newId initId bmB) (T : XcC X.K C newId bmB)
    (iC : PySem.W.findIn X.K (.ref C) "__init__" = some (some (.ref fI))) (tI : PySem.W.typeIn X.K (.ref fI) = some (.type "function"))
    (F1 : FnOk X.prog X.w X.K X.mg X.base CX k fI fd ps sp) (hr : Room (k + 1) X.A) (hb : KBn X.K fd ps (n + 1) ks g gV) (hx : Passes CX X E)
    (I : Inv X pins σ H s) (r : Vals vs us) (rz : Vals zs ws) (l1 : vs.length = n) (l2 : zs.length = ks.length) (hn : n ≤ 1000)
    (h : ∀ a, H a = none → sp (gV (.ref a :: vs) zs) (upd H a (exo a C none)) (fun v H2 => v = .non ∧ Q (.ref a) H2) E) :
    wpAny (model X.prog X.w) X.A (call (.ref C) us (ks.zip ws)) (EP X pins σ Q) X.xe s := by
  obtain ⟨inN, bmN, fn⟩ := BX.fn
  obtain ⟨nm, N, qn, bs, bm, hdct, sn, sub, ab, col, dd, k0, k1, k2, k3, k5, hC, hm, _⟩ := T.obj BX I.kIn
  obtain ⟨hp, g0, dr, tok, os⟩ := s
  have hsz : hp.objs.size ≤ hp.objs.size + 1 := Nat.le_succ _
  have hna : H (hp.objs.size + 1) = none := I.hok.fresh hsz
  have hq := h (hp.objs.size + 1) hna
  have keep : ∀ b o, hp.get? b = some o → ((hp.push (PySem.W.kdv_tup us)).push (PySem.HandSPX.excO C hp.objs.size)).get? b = some o :=
    fun b o e => Heap.get?_push_of_some _ (Heap.get?_push_of_some _ e)
  have hget : ((hp.push (PySem.W.kdv_tup us)).push (PySem.HandSPX.excO C hp.objs.size)).get? (hp.objs.size + 1) = some (PySem.HandSPX.excO C hp.objs.size) := by
    heap_get
  have I2 : Inv X pins σ (upd H (hp.objs.size + 1) (exo (hp.objs.size + 1) C none)) ⟨(hp.push (PySem.W.kdv_tup us)).push (PySem.HandSPX.excO C hp.objs.size), g0, dr, tok, os⟩ := by
    refine I.laid (t' := tok) (a := hp.objs.size + 1) (o := exo (hp.objs.size + 1) C none) keep hsz ?_
    exact exo_ok hget
  have r1 : Vals (V.ref (hp.objs.size + 1) :: vs) (Value.ref (hp.objs.size + 1) :: us) := .cons rfl r
  have r2 := hb.rel r1 rz
  have e1 : (Value.ref (hp.objs.size + 1) :: us).length = n + 1 := by
    rw [List.length_cons, ← r.length, l1]
  have hus : us.length ≤ sizeLine := by
    rw [← Paired.length r, sizeLine_eq]
    omega
  refine wpAny_call (XcM.run_call fn hm hC (PySem.W.looks_findIn I.kIn iC) (fun self => PySem.W.bind_fn I.kIn self tI) hus ?_)
  refine codeAny_mono (F1.run _ X.stack _ _ ⟨Value.ref (hp.objs.size + 1) :: us, ks.zip ws⟩ (g (Value.ref (hp.objs.size + 1) :: us) ws) _ _ E (hr.make C us (ks.zip ws)) (I2.env0.make C us (ks.zip ws))
    (hb.to _ (Value.ref (hp.objs.size + 1) :: us) ws I2.kIn e1 (rz.length.symm.trans l2)) r2 hq) fun r s' hq' => ?_
  cases r with
  | error er => exact hx pins σ _ _ er s' I2 hq'
  | ok fl =>
    cases fl with
    | ret u =>
      obtain ⟨v, H', I3, rv, ev, q3⟩ := I2.after hq'
      subst ev
      exact ⟨rv, V.ref (hp.objs.size + 1), H', I3, rfl, q3⟩
    | next => exact hq'.elim
    | brk => exact hq'.elim
    | cont => exact hq'.elim
/-- C(..): a new exception, filled by its __init__ -/
def tMkx (C : Addr) (n m : Nat) (sp : Sp) (gV : List V → List V → List V) (E : XK) (t tk : TA) : TE := fun σ H Q => t σ H fun vs H1 => tk σ H1 fun zs H2 => vs.length = n ∧ zs.length = m ∧
  ∀ a, H2 a = none → sp (gV (.ref a :: vs) zs) (upd H2 a (exo a C none)) (fun v H3 => v = .non ∧ Q (.ref a) H3) E
theorem pe_mkx (BX : BaseX Bn B newId initId bmB) (T : XcC X.K C newId bmB) (iC : PySem.W.findIn X.K (.ref C) "__init__" = some (some (.ref fI)))
    (tI : PySem.W.typeIn X.K (.ref fI) = some (.type "function")) (F1 : FnOk X.prog X.w X.K X.mg X.base CX k fI fd ps sp) (hr : Room (k + 1) X.A) (hb : KBn X.K fd ps (n + 1) [] g gV) (hx : Passes CX X E) (hn : n ≤ 1000)
    (hg : Gl X x) (hm : X.mg x = some (.ref C)) (ha : PA X (e :: es) t) (hdb : (x == ("__debug__" : Str)) = false)
    (he : starEach (e :: es) X.env = (false, eval e X.env) :: starEach es X.env) (hpl : (backTo pos (starEach es X.env)).any (·.1) = false) :
    PE X (.Call (.Name x p) (e :: es) [] pos) (tMkx C n 0 sp gV E t tNil) := by
  refine ⟨fun pins s σ H Q I h => ?_⟩
  refine wpAny_Call_Name_kw (ld_glob I hg hm ?_ hdb)
  refine PySem.W.callWith_K (h₀ := X.base) I.ok.mod.kin T.kC ?_ he hpl
  refine thn (ha.run pos pins s σ H _ I h) fun us s1 ⟨vs, H1, I1, r, q⟩ => ⟨I1.kIn, ?_⟩
  obtain ⟨l1, _, q⟩ := q
  exact run_mkx (ks := []) (ws := []) (zs := []) BX T iC tI F1 hr hb hx I1 r .nil l1 rfl hn q
theorem pe_mkx0 (BX : BaseX Bn B newId initId bmB) (T : XcC X.K C newId bmB) (iC : PySem.W.findIn X.K (.ref C) "__init__" = some (some (.ref fI)))
    (tI : PySem.W.typeIn X.K (.ref fI) = some (.type "function")) (F1 : FnOk X.prog X.w X.K X.mg X.base CX k fI fd ps sp) (hr : Room (k + 1) X.A) (hb : KBn X.K fd ps 1 [] g gV) (hx : Passes CX X E)
    (hg : Gl X x) (hm : X.mg x = some (.ref C)) (hdb : (x == ("__debug__" : Str)) = false) :
    PE X (.Call (.Name x p) [] [] pos) (tMkx C 0 0 sp gV E tNil tNil) := by
  refine ⟨fun pins s σ H Q I h => ?_⟩
  refine wpAny_Call_Name_kw (ld_glob I hg hm ?_ hdb)
  refine PySem.W.callWith_K0 I.kIn T.kC ?_
  obtain ⟨_, _, q⟩ := h
  exact run_mkx (us := []) (vs := []) (ks := []) (ws := []) (zs := []) BX T iC tI F1 hr hb hx I .nil .nil rfl rfl (Nat.zero_le _) q
theorem pe_mkxK (BX : BaseX Bn B newId initId bmB) (T : XcC X.K C newId bmB) (iC : PySem.W.findIn X.K (.ref C) "__init__" = some (some (.ref fI)))
    (tI : PySem.W.typeIn X.K (.ref fI) = some (.type "function")) (F1 : FnOk X.prog X.w X.K X.mg X.base CX k fI fd ps sp) (hr : Room (k + 1) X.A) (hb : KBn X.K fd ps 1 ks g gV) (hx : Passes CX X E)
    (hg : Gl X x) (hm : X.mg x = some (.ref C)) (hkw : PK X kws tk) (hall : (backToKw pos (keywordEach kws X.env)).all (·.1.isSome) = true)
    (hks : (backToKw pos (keywordEach kws X.env)).filterMap (·.1) = ks) (hdb : (x == ("__debug__" : Str)) = false)
    (hpl : ((backTo pos (starEach [] X.env)).any (·.1) || (backToKw pos (keywordEach kws X.env)).any (·.1.isNone)) = false) :
    PE X (.Call (.Name x p) [] kws pos) (tMkx C 0 ks.length sp gV E tNil tk) := by
  refine ⟨fun pins s σ H Q I h => ?_⟩
  refine wpAny_Call_Name_kw (ld_glob I hg hm ?_ hdb)
  refine PySem.W.callWith_KW0 (h₀ := X.base) I.ok.mod.kin T.kC hall ?_ hpl
  refine thn (hkw.run pos pins s σ H _ I h) fun ws s2 ⟨zs, H2, I2, rz, _, l2, q2⟩ => ⟨I2.kIn, ?_⟩
  rw [hks]
  exact run_mkx (us := []) (vs := []) BX T iC tI F1 hr hb hx I2 .nil rz rfl l2 (Nat.zero_le _) q2
end
/-! ### in __init__ -/
section
variable {X : Cx} {o e : Expr} {es : List Expr} {to te : TE} {ta : TA} {f x : Str} {p p' p1 p2 pos : Pos}
/-- B.__init__(self, ..), what is asked of what stands there -/
def tBi (K : PySem.W.Frag) (initId : String) (ta : TA) : TE := fun σ H Q => ta σ H fun vs H1 => ∃ (a C : Addr) (ws : List V) (Bn B newId : String) (bmB : List Value), vs = .ref a :: ws ∧ ws.length ≤ 1000 ∧
  BaseX Bn B newId initId bmB ∧ XcC K C newId bmB ∧ H1 a = some (exo a C none) ∧ Q .non H1
theorem fin_bi {initId : String} {env : PySem.Env} {Q : VK} {pins : List (Addr × Obj)} {σ : L2.St} {H : Hp} {s : Shared} (I : Inv X pins σ H s) (ha : PA X (e :: es) ta) (h : tBi X.K initId ta σ H Q)
    (he : starEach (e :: es) X.env = (false, eval e X.env) :: starEach es X.env) (hpl : (backTo pos (starEach es X.env)).any (·.1) = false) :
    wpAny (model X.prog X.w) X.A (callWith pos (.builtin initId) [] (backTo pos (starEach (e :: es) X.env)) []) (EP X pins σ Q) X.xe s := by
  refine PyProof.Rows.callWith_method1 ?_ he hpl
  refine thn (ha.run pos pins s σ H _ I h) fun us s1 ⟨vs, H1, I1, r1, a, C, ws, Bn, B, newId, bmB, ev, hl, BX, T, ea, q⟩ => ?_
  subst ev
  cases r1 with
  | @cons _ u0 _ ur ra rw' =>
    obtain rfl : u0 = Value.ref a := ra
    have hlen : ur.length ≤ sizeLine := by
      rw [← Paired.length rw', sizeLine_eq]
      omega
    exact base_init BX T I1 ea hlen fun s' J => ⟨.non, H1, J, rfl, q⟩
theorem pe_binit {T initId : String} {pl : Sem Bool} (hg : Gl X x) (hm : X.mg x = none) (hv : bootBuiltins x = some (.type T)) (hn : x ≠ "__name__") (hdb : (x == ("__debug__" : Str)) = false)
    (ty : typeOf (.type T) = pure (.type "type")) (st : Manifest.isStub T = false) (vV : PySem.W.findCls X.K (.type T) (.type "type") "__init__" = some (.val (.builtin initId))) (hh : PySem.W.handedIn (.builtin initId) = true) (ha : PA X (e :: es) ta)
    (hc : eval (.Call (.Attribute (.Name x p1) "__init__" p2) (e :: es) [] pos) X.env = (do
      let ov ← eval (.Name x p1) X.env
      standAt p2.atName
      let (f, first) ← holding [ov] (getMethod ov "__init__" pl)
      callWith pos f first (backTo pos (starEach (e :: es) X.env)) (backToKw pos (keywordEach [] X.env))))
    (he : starEach (e :: es) X.env = (false, eval e X.env) :: starEach es X.env) (hpl : (backTo pos (starEach es X.env)).any (·.1) = false) :
    PE X (.Call (.Attribute (.Name x p1) "__init__" p2) (e :: es) [] pos) (tBi X.K initId ta) := by
  refine ⟨fun pins s σ H Q I h => ?_⟩
  refine PySem.W.methodCall_KW (ld_blt I hg hm hv ?_ hn hdb) hc
  obtain ⟨m, fr⟩ := I.fr
  refine PySem.W.method_type fr I.ok.mod.kin ty st vV hh ?_
  exact fin_bi (env := X.env) (I.tok _) ha h he hpl
theorem pe_cinit {M : Addr} {initId : String} {pl : Sem Bool} (hg : Gl X x) (hm : X.mg x = some (.ref M)) (hdb : (x == ("__debug__" : Str)) = false)
    (rd : ClX.CRead X.K M (.type "type")) (vV : PySem.W.findCls X.K (.ref M) (.type "type") "__init__" = some (.val (.builtin initId))) (hh : PySem.W.handedIn (.builtin initId) = true) (ha : PA X (e :: es) ta)
    (hc : eval (.Call (.Attribute (.Name x p1) "__init__" p2) (e :: es) [] pos) X.env = (do
      let ov ← eval (.Name x p1) X.env
      standAt p2.atName
      let (f, first) ← holding [ov] (getMethod ov "__init__" pl)
      callWith pos f first (backTo pos (starEach (e :: es) X.env)) (backToKw pos (keywordEach [] X.env))))
    (he : starEach (e :: es) X.env = (false, eval e X.env) :: starEach es X.env) (hpl : (backTo pos (starEach es X.env)).any (·.1) = false) :
    PE X (.Call (.Attribute (.Name x p1) "__init__" p2) (e :: es) [] pos) (tBi X.K initId ta) := by
  refine ⟨fun pins s σ H Q I h => ?_⟩
  refine PySem.W.methodCall_KW (ld_glob I hg hm ?_ hdb) hc
  refine PySem.W.method_cls I.kIn rd.ga ?_
  refine PySem.W.cls_value I.kIn rd.rd vV hh ?_
  exact fin_bi (env := X.env) (I.tok _) ha h he hpl
/-- self.f = e -/
def tPut (K : PySem.W.Frag) (f : Str) (to te : TE) : TS := fun Dn σ H => te σ H fun y H1 => to σ H1 fun x H2 => ∃ (a C : Addr) (Bn B newId initId : String) (bmB : List Value), x = .ref a ∧ BaseX Bn B newId initId bmB ∧ XcC K C newId bmB ∧ PySem.W.findIn K (.ref C) f = some none ∧
  ((H2 a = some (exo a C none) ∧ ∀ dx, H2 dx = none → dx ≠ a → Dn.nx σ (upd (upd H2 dx (exd dx [(f, y)])) a (exo a C (some dx)))) ∨
    ∃ (dx : Addr) (fs : List (Str × V)), H2 a = some (exo a C (some dx)) ∧ H2 dx = some (exd dx fs) ∧ fs.length ≤ 900 ∧ Dn.nx σ (upd H2 dx (exd dx ((f, y) :: fs))))
theorem ps_put (ho : PE X o to) (he : PE X e te) (hs : swapsWith e (some (.Attribute o f p')) pos.line X.env = pure false) : PS X (.Assign [.Attribute o f p'] e pos) (tPut X.K f to te) := by
  refine ⟨fun pins s σ H Dn I h => ?_⟩
  refine plainObj_wpAny_Assign_Attribute ?_ hs
  refine thn (he.run pins s σ H _ I h) fun v s1 ⟨y, H1, I1, r1, q1⟩ => ?_
  refine thn (ho.run pins s1 σ H1 _ I1 q1) fun u s2 ⟨x, H2, I2, r2, a, C, Bn, B, newId, initId, bmB, ex, BX, T, hno, q⟩ => ?_
  subst ex
  obtain rfl : u = Value.ref a := r2
  rcases q with ⟨ea, q⟩ | ⟨dx, fs, ea, ed, hl, q⟩
  · exact put_first BX T I2 ea hno r1 fun dx s' n ne J => ⟨σ, _, J, q dx n ne⟩
  · exact put_more BX T I2 ea ed hl hno r1 fun s' J => ⟨σ, _, J, q⟩
end
/-! ### read, asked -/
section
variable {X : Cx} {e : Expr} {te : TE} {f : Str} {pos : Pos}
/-- o.f -/
def tXa (K : PySem.W.Frag) (f : Str) (te : TE) : TE := fun σ H Q => te σ H fun x H1 => ∃ (a C dx : Addr) (fs : List (Str × V)) (v : V) (newId : String) (bmB : List Value), x = .ref a ∧ XcC K C newId bmB ∧ PySem.W.findIn K (.ref C) f = some none ∧
  H1 a = some (exo a C (some dx)) ∧ H1 dx = some (exd dx fs) ∧ fs.lookup f = some v ∧ Q v H1
theorem pe_xa (he : PE X e te) (hb : attributeBase e f X.env (eval e X.env) = eval e X.env) : PE X (.Attribute e f pos) (tXa X.K f te) := by
  refine ⟨fun pins s σ H Q I h => ?_⟩
  refine attr_of hb ?_
  refine thn (he.run pins s σ H _ I h) fun u s1 ⟨x, H1, I1, rx, a, C, dx, fs, v, newId, bmB, ex, T, hno, ea, ed, l, q⟩ => ?_
  subst ex
  obtain rfl : u = Value.ref a := rx
  obtain ⟨t1, ho⟩ := exo_at I1.hok ea
  obtain ⟨mA, hns, rel⟩ := exd_at I1.hok ed
  obtain ⟨od, hod, hl⟩ := lookIn_ns hns
  obtain ⟨u, hu, ru⟩ := RelO.some_of (v := v) (o := mA f) (by rw [← l]; exact rel f)
  have J : PySem.W.InstAt s1.heap a _ C (some od) := ⟨ho, rfl, rfl, hod⟩
  exact HandSPX.exc_get I1.kIn J T.ga T.gg T.exC (PySem.W.findObj_own T.hd hno rfl (by rw [hl, hu])) (handed_of ru) ⟨v, H1, I1.tok _, ru, q⟩
/-- isinstance(x, c), x such an exception -/
def rIsX (K : PySem.W.Frag) : List V → Hp → VK → Prop := fun xs H Q => ∃ (a C : Addr) (d : Option Addr) (c : V) (cv : Value) (b : Bool) (newId : String) (bmB : List Value), xs = [.ref a, c] ∧ (∀ u, RelV c u → u = cv) ∧ XcC K C newId bmB ∧
  H a = some (exo a C d) ∧ (∀ dx, d = some dx → ∃ fs, H dx = some (exd dx fs)) ∧ PySem.W.kitOne K (.ref C) cv = some b ∧ Q (.bl b) H
theorem call_isX : CallR X (.builtin "isinstance") (rIsX X.K) := by
  intro pins s σ H xs us Q I r h
  obtain ⟨a, C, d, c, cv, b, newId, bmB, rfl, hcv, T, ha, hd, hk, q⟩ := h
  cases r with
  | cons rx rr =>
    cases rr with
    | cons rt rr =>
      cases rr
      cases rx
      have ec := hcv _ rt
      subst ec
      obtain ⟨t1, ho⟩ := exo_at I.hok ha
      have hcl : (PySem.W.clsIn X.K C).isSome = true := by
        obtain ⟨cd, h1, _⟩ := T.dict
        rw [h1]
        rfl
      have hnb : Value.ref a ≠ .builtin "__main__.__loader__#opaque" := fun z => nomatch z
      cases d with
      | none =>
        have J : PySem.W.InstAt s.heap a _ C none := ⟨ho, rfl, rfl, trivial⟩
        exact PySem.W.kia_one (PySem.W.kitx_exc hcl T.ga T.gg T.exC T.ca T.cn T.ck T.ob) I.kIn J hk hnb fun tk => ⟨.bl b, H, I.kept (t' := tk) fun _ _ z => z, rfl, q⟩
      | some dx =>
        obtain ⟨fs, ed⟩ := hd dx rfl
        obtain ⟨mA, hns, rel⟩ := exd_at I.hok ed
        obtain ⟨od, hod, hl⟩ := lookIn_ns hns
        have J : PySem.W.InstAt s.heap a _ C (some od) := ⟨ho, rfl, rfl, hod⟩
        exact PySem.W.kia_one (PySem.W.kitx_exc hcl T.ga T.gg T.exC T.ca T.cn T.ck T.ob) I.kIn J hk hnb fun tk => ⟨.bl b, H, I.kept (t' := tk) fun _ _ z => z, rfl, q⟩
end
end XcV

end

section
set_option Elab.async false
set_option linter.all false
set_option maxRecDepth 100000
set_option maxHeartbeats 4000000
/-! Zp1: zip of two tuples drawn again while the last pair is held. -/
namespace Zp
open PySem PyProof.Rows RZ
section
variable {prog : Program} {w : World} {A : Around} {E : Value → Shared → Prop} {s : Shared}
theorem wp_alive {a : Addr} {o : Obj} {Q : Option Obj → Shared → Prop} (ho : s.heap.get? a = some o) (h : Q (some o) s) : wpAny (model prog w) A (loadIfAlive a) Q E s := by
  intro Γ p _
  show Sem.wp _ Γ (.loadIfAlive a .pure) _ _ p s
  rw [Sem.wp_loadIfAlive, ho]
  exact h
abbrev zipO (TI TO m : Addr) (b : Bool) : Obj := { cls := .type "zip", dict := none, data := .fields #[rawInt m, .bool b, .bool false, .ref TI, .ref TO], slots := #[] }
theorem not_free {z TI TO m : Addr} {b : Bool} {o : Obj} {Q : Bool → Shared → Prop} (hz : s.heap.get? z = some (zipO TI TO m b)) (hm : s.heap.get? m = some o)
    (hQ : ∀ h' b', h'.get? z = some (zipO TI TO m b') → Heap.SameBut z s.heap h' → Q false { s with heap := h' }) :
    wpAny (model prog w) A (Builtin.SmallTypes.ownedTupleIsFree (.ref z)) Q E s := by
  unfold Builtin.SmallTypes.ownedTupleIsFree
  refine wpAny_bind (wpAny_field hz rfl (x := rawInt m) rfl ?_)
  show wpAny _ _ (loadIfAlive (Int.toNat (m : Int)) >>= _) _ _ _
  rw [Int.toNat_natCast]
  refine wpAny_bind (wp_alive hm ?_)
  simp only [Option.isNone_some, Bool.false_eq_true, if_false]
  refine wpAny_bind (wpAny_field hz rfl (x := .bool b) rfl ?_)
  cases b with
  | true =>
    simp only [show (Value.bool true != Value.bool true) = false by decide, Bool.false_eq_true, if_false]
    first
      | exact wpAny_pure (hQ s.heap true hz (Heap.SameBut.refl _ _))
      | exact wpAny_bind (wpAny_pure (wpAny_pure (hQ s.heap true hz (Heap.SameBut.refl _ _))))
  | false =>
    simp only [show (Value.bool false != Value.bool true) = true by decide, if_true]
    refine wpAny_bind (wpAny_setField_rec hz (by simp) fun h₁ hz₁ hs₁ => ?_)
    exact wpAny_pure (hQ h₁ true hz₁ hs₁)
/-- the draw of a further pair -/
theorem more_item {z TI TO i1 i2 l1 l2 m : Addr} {b0 : Bool} {o : Obj} {k1 k2 : Nat} {xs ys : Array Value} {x y : Value} {Q : Value → Shared → Prop} (D : ZipApart z TI TO i1 i2 l1 l2)
    (hz : s.heap.get? z = some (zipO TI TO m b0)) (hm : s.heap.get? m = some o) (hTI : IsPair s.heap TI (.ref i1) (.ref i2))
    (h1 : s.heap.IsTupleIter i1 l1 k1) (h2 : s.heap.IsTupleIter i2 l2 k2) (hl1 : s.heap.IsTuple l1 xs) (hl2 : s.heap.IsTuple l2 ys) (hx : xs[k1]? = some x) (hy : ys[k2]? = some y)
    (hQ : ∀ h' b1, h'.get? z = some (zipO TI TO m b1) → h'.IsTupleIter i1 l1 (k1 + 1) → h'.IsTupleIter i2 l2 (k2 + 1) → IsPair h' s.heap.objs.size x y → h'.objs.size = s.heap.objs.size + 1 →
      (∀ c o, c ≠ z → c ≠ i1 → c ≠ i2 → s.heap.get? c = some o → h'.get? c = some o) → Q (.ref s.heap.objs.size) { s with heap := h' }) :
    wpAny (model prog w) A (Builtin.«zip.__next__» ⟨[.ref z], []⟩) (fun fin s' => ∃ v, fin = .done (.ret v) ∧ Q v s') E s := by
  show wpAny _ _ (field (.ref z) 2 >>= _) _ _ _
  refine wpAny_bind (wpAny_field hz rfl (x := .bool false) rfl ?_)
  show wpAny _ _ (field (.ref z) 3 >>= _) _ _ _
  refine wpAny_bind (wpAny_field hz rfl (x := .ref TI) rfl ?_)
  refine wpAny_bind (wpAny_seqItems hTI rfl ?_)
  show wpAny _ _ (Builtin.SmallTypes.ownedTupleIsFree (.ref z) >>= _) _ _ _
  refine wpAny_bind (not_free hz hm fun h₁ b1 hz₁ hs₁ => ?_)
  simp only [Bool.false_eq_true, if_false]
  refine wpAny_bind ?_
  simp only [List.forIn_toArray, List.forIn_cons, List.forIn_nil]
  refine wpAny_bind (wpAny_bind (wpAny_holding ?_))
  show wpAny _ _ (Builtin.SmallTypes.nextOf (.ref i1) >>= _) _ _ _
  have h1a := h1.extBut hs₁.extBut D.i1z
  have hl1a := hl1.extBut hs₁.extBut D.l1z
  refine wpAny_bind (nextOf_tuple_item h1a hl1a hx fun h₂ h1₂ hs₂ => wpAny_pure ?_)
  refine wpAny_pure ?_
  refine wpAny_bind (wpAny_bind (wpAny_holding ?_))
  show wpAny _ _ (Builtin.SmallTypes.nextOf (.ref i2) >>= _) _ _ _
  have h2a := (h2.extBut hs₁.extBut D.i2z).extBut hs₂.extBut D.i12.symm
  have hl2a := (hl2.extBut hs₁.extBut D.l2z).extBut hs₂.extBut D.l2i1
  refine wpAny_bind (nextOf_tuple_item h2a hl2a hy fun h₃ h2₃ hs₃ => wpAny_pure ?_)
  refine wpAny_pure (wpAny_pure ?_)
  show wpAny _ _ (newTuple [x, y] >>= fun r => ret r) _ _ _
  refine wpAny_bind (wpAny_newTuple ?_)
  have hsz : h₃.objs.size = s.heap.objs.size := by rw [hs₃.1, hs₂.1, hs₁.1]
  have up : ∀ c o, h₃.get? c = some o → (h₃.push { cls := .type "tuple", data := .seq #[x, y] }).get? c = some o := fun c o e => Heap.get?_push_of_some _ e
  have hz₃ : h₃.get? z = some (zipO TI TO m b1) := hs₃.extBut _ _ D.i2z.symm (hs₂.extBut _ _ D.i1z.symm hz₁)
  have h1₃ : h₃.IsTupleIter i1 l1 (k1 + 1) := h1₂.extBut hs₃.extBut D.i12
  have hp : IsPair (h₃.push { cls := .type "tuple", data := .seq #[x, y] }) h₃.objs.size x y := Heap.get?_push_size _ rfl
  refine wpAny_pure ⟨_, rfl, ?_⟩
  show Q (.ref h₃.objs.size) _
  rw [hsz]
  rw [hsz] at hp
  refine hQ _ b1 (up _ _ hz₃) (h1₃.at fun o e => up _ o e) (h2₃.at fun o e => up _ o e) hp (by rw [Heap.size_push, hsz]) fun c o c1 c2 c3 e => ?_
  exact up _ _ (hs₃.extBut _ _ c3 (hs₂.extBut _ _ c2 (hs₁.extBut _ _ c1 e)))
theorem more_end {z TI TO i1 i2 l1 l2 m : Addr} {b0 : Bool} {o : Obj} {k1 k2 : Nat} {xs ys : Array Value} {Q : Fin → Shared → Prop} (hh : A.handled = none) (D : ZipApart z TI TO i1 i2 l1 l2)
    (hz : s.heap.get? z = some (zipO TI TO m b0)) (hm : s.heap.get? m = some o) (hTI : IsPair s.heap TI (.ref i1) (.ref i2))
    (h1 : s.heap.IsTupleIter i1 l1 k1) (h2 : s.heap.IsTupleIter i2 l2 k2) (hl1 : s.heap.IsTuple l1 xs) (hl2 : s.heap.IsTuple l2 ys) (hend : xs[k1]? = none ∨ ys[k2]? = none)
    (hE : ∀ h' e, (∀ c o, c ≠ z → c ≠ i1 → c ≠ i2 → s.heap.get? c = some o → h'.get? c = some o) → (∃ o, h'.get? e = some o ∧ o.cls = .type "StopIteration") → E (.ref e) { s with heap := h' }) :
    wpAny (model prog w) A (Builtin.«zip.__next__» ⟨[.ref z], []⟩) Q E s := by
  show wpAny _ _ (field (.ref z) 2 >>= _) _ _ _
  refine wpAny_bind (wpAny_field hz rfl (x := .bool false) rfl ?_)
  show wpAny _ _ (field (.ref z) 3 >>= _) _ _ _
  refine wpAny_bind (wpAny_field hz rfl (x := .ref TI) rfl ?_)
  refine wpAny_bind (wpAny_seqItems hTI rfl ?_)
  show wpAny _ _ (Builtin.SmallTypes.ownedTupleIsFree (.ref z) >>= _) _ _ _
  refine wpAny_bind (not_free hz hm fun h₁ b1 hz₁ hs₁ => ?_)
  simp only [Bool.false_eq_true, if_false]
  refine wpAny_bind ?_
  simp only [List.forIn_toArray, List.forIn_cons, List.forIn_nil]
  refine wpAny_bind (wpAny_bind (wpAny_holding ?_))
  show wpAny _ _ (Builtin.SmallTypes.nextOf (.ref i1) >>= _) _ _ _
  have h1a := h1.extBut hs₁.extBut D.i1z
  have hl1a := hl1.extBut hs₁.extBut D.l1z
  cases hx : xs[k1]? with
  | none =>
    refine wpAny_bind (nextOf_tuple_end hh h1a hl1a hx fun h₂ e hs₂ he => ?_)
    exact hE h₂ e (fun c o c1 c2 c3 x => hs₂ _ _ c2 (hs₁.extBut _ _ c1 x)) he
  | some x =>
    have hy : ys[k2]? = none := by
      rcases hend with h | h
      · rw [hx] at h; cases h
      · exact h
    refine wpAny_bind (nextOf_tuple_item h1a hl1a hx fun h₂ h1₂ hs₂ => wpAny_pure ?_)
    refine wpAny_pure ?_
    refine wpAny_bind (wpAny_bind (wpAny_holding ?_))
    show wpAny _ _ (Builtin.SmallTypes.nextOf (.ref i2) >>= _) _ _ _
    have h2a := (h2.extBut hs₁.extBut D.i2z).extBut hs₂.extBut D.i12.symm
    have hl2a := (hl2.extBut hs₁.extBut D.l2z).extBut hs₂.extBut D.l2i1
    refine wpAny_bind (nextOf_tuple_end hh h2a hl2a hy fun h₃ e hs₃ he => ?_)
    exact hE h₃ e (fun c o c1 c2 c3 x => hs₃ _ _ c3 (hs₂.extBut _ _ c2 (hs₁.extBut _ _ c1 x))) he
theorem next_more {z TI TO i1 i2 l1 l2 m : Addr} {b0 : Bool} {o : Obj} {k1 k2 : Nat} {xs ys : Array Value} {x y : Value} {Q : Option Value → Shared → Prop} (D : ZipApart z TI TO i1 i2 l1 l2)
    (hz : s.heap.get? z = some (zipO TI TO m b0)) (hm : s.heap.get? m = some o) (hTI : IsPair s.heap TI (.ref i1) (.ref i2))
    (h1 : s.heap.IsTupleIter i1 l1 k1) (h2 : s.heap.IsTupleIter i2 l2 k2) (hl1 : s.heap.IsTuple l1 xs) (hl2 : s.heap.IsTuple l2 ys) (hx : xs[k1]? = some x) (hy : ys[k2]? = some y)
    (hQ : ∀ h' b1, h'.get? z = some (zipO TI TO m b1) → h'.IsTupleIter i1 l1 (k1 + 1) → h'.IsTupleIter i2 l2 (k2 + 1) → IsPair h' s.heap.objs.size x y → h'.objs.size = s.heap.objs.size + 1 →
      (∀ c o, c ≠ z → c ≠ i1 → c ≠ i2 → s.heap.get? c = some o → h'.get? c = some o) → Q (some (.ref s.heap.objs.size)) { s with heap := h' }) :
    wpAny (model prog w) A (pyNext (.ref z)) Q E s := by
  have hT : s.TypeIs (.ref z) "zip" := ⟨_, hz, rfl⟩
  unfold pyNext
  refine wpAny_bind (wpAny_attempt (wpAny_callSpecial?_slot (name := Str.ofString "__next__") hT F.slot_zip_next ?_))
  refine wpAny_call_entry F.slot_zip_next hT F.entry_zip_next ?_ (F.args_zip_next_1 _)
  exact more_item D hz hm hTI h1 h2 hl1 hl2 hx hy fun h' b1 a1 a2 a3 a4 a5 a6 => wpAny_pure (hQ h' b1 a1 a2 a3 a4 a5 a6)
theorem next_more_end {z TI TO i1 i2 l1 l2 m : Addr} {b0 : Bool} {o : Obj} {k1 k2 : Nat} {xs ys : Array Value} {Q : Option Value → Shared → Prop} (hh : A.handled = none) (D : ZipApart z TI TO i1 i2 l1 l2)
    (hz : s.heap.get? z = some (zipO TI TO m b0)) (hm : s.heap.get? m = some o) (hTI : IsPair s.heap TI (.ref i1) (.ref i2))
    (h1 : s.heap.IsTupleIter i1 l1 k1) (h2 : s.heap.IsTupleIter i2 l2 k2) (hl1 : s.heap.IsTuple l1 xs) (hl2 : s.heap.IsTuple l2 ys) (hend : xs[k1]? = none ∨ ys[k2]? = none)
    (hQ : ∀ h', (∀ c o, c ≠ z → c ≠ i1 → c ≠ i2 → s.heap.get? c = some o → h'.get? c = some o) → Q none { s with heap := h' }) :
    wpAny (model prog w) A (pyNext (.ref z)) Q E s := by
  have hT : s.TypeIs (.ref z) "zip" := ⟨_, hz, rfl⟩
  unfold pyNext
  refine wpAny_bind (wpAny_attempt (wpAny_callSpecial?_slot (name := Str.ofString "__next__") hT F.slot_zip_next ?_))
  refine wpAny_call_entry F.slot_zip_next hT F.entry_zip_next ?_ (F.args_zip_next_1 _)
  refine more_end hh D hz hm hTI h1 h2 hl1 hl2 hend fun h' e hk he => ?_
  obtain ⟨o, ho, hc⟩ := he
  refine wpAny_bind (wpAny_isInstance (T := "StopIteration") (b := true) ⟨o, ho, hc⟩ isSubtype_stop ?_)
  exact wpAny_pure (hQ _ hk)
end
end Zp

end

section
set_option Elab.async false
set_option linter.all false
set_option maxRecDepth 100000
set_option maxHeartbeats 4000000
/-! Zp2: list(zip(a, b)), a and b tuples. -/
namespace Zp
open PySem PySem.Spec PyProof.Rows L2 RZ
theorem zip_no_len : typeLookup (.type "zip") "__len__" = pure none := by rw [typeLookup_type, builtinLookup_eq_fast]; kernel_rfl
theorem zip_no_hint : typeLookup (.type "zip") "__length_hint__" = pure none := by rw [typeLookup_type, builtinLookup_eq_fast]; kernel_rfl
/-- the pairs stand where the list's items say -/
abbrev PairsAt (H : Hp) (Ts : List V) (ps : List (V × V)) : Prop := Paired (fun v p => ∃ T, v = V.ref T ∧ H T = some (.tup [p.1, p.2])) Ts ps
/-- objects are kept -/
abbrev Ext (H H' : Hp) : Prop := ∀ a o, H a = some o → H' a = some o
theorem PairsAt.ext {H H' : Hp} {Ts : List V} {ps : List (V × V)} (p : PairsAt H Ts ps) (k : ∀ T x y, H T = some (.tup [x, y]) → H' T = some (.tup [x, y])) : PairsAt H' Ts ps :=
  Paired.mapP p fun _ _ ⟨T, e, h⟩ => ⟨T, e, k _ _ _ h⟩
theorem sqT_ext {K : PySem.W.Frag} {H H' : Hp} (k : Ext H H') {a : Addr} {xs : List V} (h : SqT K H a xs) : SqT K H' a xs := by
  rcases h with (h | ⟨o, h⟩) | h
  · exact .inl (.inl (k a _ h))
  · exact .inl (.inr ⟨o, k a _ h⟩)
  · exact .inr h
/-- the iterators behind i draws -/
structure ZS (z TI TO i1 i2 l1 l2 : Addr) (i : Nat) (h : Heap) : Prop where
  ti : IsPair h TI (.ref i1) (.ref i2)
  to : ∃ x y, IsPair h TO x y
  a : h.IsTupleIter i1 l1 i
  b : h.IsTupleIter i2 l2 i
  z : IsZip h z TI TO .none ∨ ∃ m b x y, h.get? z = some (zipO TI TO m b) ∧ IsPair h m x y ∧ m ∉ [z, TI, TO, i1, i2]
theorem ZS.lt {z TI TO i1 i2 l1 l2 : Addr} {i : Nat} {h : Heap} (st : ZS z TI TO i1 i2 l1 l2 i h) : ∀ c ∈ [z, TI, TO, i1, i2], c < h.objs.size := fun c hc => by
  have e' : c = z ∨ c = TI ∨ c = TO ∨ c = i1 ∨ c = i2 := by simpa using hc
  rcases e' with rfl | rfl | rfl | rfl | rfl
  · rcases st.z with hz | ⟨_, _, _, _, hz, _⟩ <;> exact Heap.lt_size hz
  · exact Heap.lt_size st.ti
  · obtain ⟨_, _, q⟩ := st.to; exact Heap.lt_size q
  · obtain ⟨_, e, _⟩ := st.a; exact Heap.lt_size e
  · obtain ⟨_, e, _⟩ := st.b; exact Heap.lt_size e
theorem ZS.at {z TI TO i1 i2 l1 l2 S : Addr} {i : Nat} {h h' : Heap} (st : ZS z TI TO i1 i2 l1 l2 i h) (k : ∀ c o, c ≠ S → h.get? c = some o → h'.get? c = some o) (hS : S ∉ [z, TI, TO, i1, i2])
    (ho : ∀ x y, ¬ IsPair h S x y) : ZS z TI TO i1 i2 l1 l2 i h' := by
  have ne : ∀ c ∈ [z, TI, TO, i1, i2], c ≠ S := fun c hc e => hS (by rw [← e]; exact hc)
  obtain ⟨x, y, q⟩ := st.to
  refine ⟨k _ _ (ne _ (by simp)) st.ti, ⟨x, y, k _ _ (ne _ (by simp)) q⟩, st.a.at fun o e => k _ o (ne _ (by simp)) e, st.b.at fun o e => k _ o (ne _ (by simp)) e, ?_⟩
  rcases st.z with hz | ⟨m, b, x, y, hz, hm, hn⟩
  · exact .inl (k _ _ (ne _ (by simp)) hz)
  · refine .inr ⟨m, b, x, y, k _ _ (ne _ (by simp)) hz, k _ _ (fun e => ho x y ?_) hm, hn⟩
    rw [← e]; exact hm
theorem noP {h : Heap} {S : Addr} {xs : Array Value} {n : Nat} (e : h.get? S = some { cls := .type "list", data := .seq xs n }) : ∀ x y, ¬ IsPair h S x y := fun x y hq => by
  have q : h.get? S = some { cls := .type "tuple", data := .seq #[x, y] } := hq
  rw [q] at e
  exact absurd (show Value.type "tuple" = Value.type "list" from congrArg Obj.cls (Option.some.inj e)) (by decide)
section
variable {X : Cx} {pins : List (Addr × Obj)} {σ : L2.St} {A : Around} {R : Result → Shared → Prop}
theorem zip_loop {H0 : Hp} {z TI TO i1 i2 l1 l2 S : Addr} {xs ys : List V} {res : Value} (hh : A.handled = none) (D : ZipApart z TI TO i1 i2 l1 l2) (hq1 : SqT X.K H0 l1 xs) (hq2 : SqT X.K H0 l2 ys) (hS0 : H0 S = none)
    (hSc : S ∉ [z, TI, TO, i1, i2]) (hlen : min xs.length ys.length ≤ sizeLine)
    (hR : ∀ s' H' Ts, Inv X pins σ H' s' → Ext H0 H' → H' S = some (.lst Ts) → PairsAt H' Ts (xs.zip ys) → R (.ok (.ret res)) s') :
    ∀ (k i : Nat) (s : Shared) (H : Hp) (Ts : List V), min xs.length ys.length - i = k → i ≤ min xs.length ys.length → Inv X pins σ H s → Ext H0 H → ZS z TI TO i1 i2 l1 l2 i s.heap →
      (∀ b ∈ [z, TI, TO, i1, i2], FpOk X pins H b) → H S = some (.lst Ts) → PairsAt H Ts ((xs.zip ys).take i) →
      codeAny (model X.prog X.w) A (.builtin "list.extend.loop" ⟨[.ref S, .ref z, res], []⟩) R s := by
  intro k
  induction k with
  | zero =>
    intro i s H Ts hk hi I hx st hf hS hp
    have hin : i = min xs.length ys.length := by omega
    obtain ⟨its1, r1, t1, _⟩ := I.tuple (sqT_ext hx hq1)
    obtain ⟨its2, r2, t2, _⟩ := I.tuple (sqT_ext hx hq2)
    have e1 := r1.length
    have e2 := r2.length
    have hend : its1.toArray[i]? = none ∨ its2.toArray[i]? = none := by
      rcases Nat.le_total xs.length ys.length with h | h
      · exact .inl (by simp; omega)
      · exact .inr (by simp; omega)
    have hall : (xs.zip ys).take i = xs.zip ys := by
      rw [List.take_of_length_le]
      rw [List.length_zip]; omega
    refine codeAny_builtin F.entry_extend_loop ?_
    rw [Around.under_plainId F.plain_extend_loop _]
    show wpAny _ A.in1 (pyNext (.ref z) >>= _) _ _ s
    have fin : ∀ h' : Heap, (∀ c o, c ∉ [z, TI, TO, i1, i2] → s.heap.get? c = some o → h'.get? c = some o) → R (.ok (.ret res)) { s with heap := h' } := fun h' hk' => by
      have J := I.turnedL (t' := s.toks) (ch := [z, TI, TO, i1, i2]) (fun c o hc e => hk' c o hc e) hf
      exact hR _ H Ts J hx hS (by rw [← hall]; exact hp)
    refine wpAny_bind ?_
    rcases st.z with hz | ⟨m, b, x0, y0, hz, hm, _⟩
    · obtain ⟨x0, y0, hTO⟩ := st.to
      refine pyNext_zipT_end hh D hz st.ti hTO st.a st.b t1 t2 hend fun h' hk' => ?_
      exact wpAny_pure (fin h' fun c o hc e => hk' c o (fun q => hc (by simp [q])) (fun q => hc (by simp [q])) (fun q => hc (by simp [q])) (fun q => hc (by simp [q])) e)
    · refine next_more_end hh D hz hm st.ti st.a st.b t1 t2 hend fun h' hk' => ?_
      exact wpAny_pure (fin h' fun c o hc e => hk' c o (fun q => hc (by simp [q])) (fun q => hc (by simp [q])) (fun q => hc (by simp [q])) e)
  | succ k ih =>
    intro i s H Ts hk hi I hx st hf hS hp
    have hlt : i < min xs.length ys.length := by omega
    have hlt1 : i < xs.length := by omega
    have hlt2 : i < ys.length := by omega
    obtain ⟨its1, r1, t1, _⟩ := I.tuple (sqT_ext hx hq1)
    obtain ⟨its2, r2, t2, _⟩ := I.tuple (sqT_ext hx hq2)
    obtain ⟨u, hu, ru⟩ := r1.get (List.getElem?_eq_getElem hlt1)
    obtain ⟨u2, hu2, ru2⟩ := r2.get (List.getElem?_eq_getElem hlt2)
    refine codeAny_builtin F.entry_extend_loop ?_
    rw [Around.under_plainId F.plain_extend_loop _]
    show wpAny _ A.in1 (pyNext (.ref z) >>= _) _ _ s
    have lt := st.lt
    have hTn : H s.heap.objs.size = none := I.hok.fresh (Nat.le_refl _)
    have hT0 : H0 s.heap.objs.size = none := by
      cases q : H0 s.heap.objs.size with
      | none => rfl
      | some o => rw [hx _ _ q] at hTn; cases hTn
    have hTS : s.heap.objs.size ≠ S := fun e => by rw [e, hS] at hTn; cases hTn
    -- behind the draw: the pair is tracked, then the list
    have go : ∀ (h' : Heap), ZS z TI TO i1 i2 l1 l2 (i + 1) h' → IsPair h' s.heap.objs.size u u2 → (∀ c o, c ∉ [z, TI, TO, i1, i2] → s.heap.get? c = some o → h'.get? c = some o) →
        wpAny (model X.prog X.w) A.in1 (do updateSeq S (·.push (.ref s.heap.objs.size)); again (.builtin "list.extend.loop" ⟨[.ref S, .ref z, res], []⟩))
          (fun fin s' => match fin with | .done f => R (.ok f) s' | .again c' => c'.quiet = true ∧ codeAny (model X.prog X.w) A c' R s') (fun e s' => R (.error e) s') { s with heap := h' } := by
      intro h' st' hp' hk'
      have new : ObjOk X.prog X.w (upd H s.heap.objs.size (.tup [xs[i], ys[i]])) h' s.heap.objs.size (.tup [xs[i], ys[i]]) :=
        ⟨by show 2 ≤ sizeLine; decide, [u, u2], .cons ru (.cons ru2 .nil), ⟨_, hp', rfl, _, rfl⟩⟩
      have J := I.turnedNew (t' := s.toks) (ch := [z, TI, TO, i1, i2]) (fun c o hc e => hk' c o hc e) hf (Nat.le_refl _) new
      have hS1 : (upd H s.heap.objs.size (.tup [xs[i], ys[i]])) S = some (.lst Ts) := by rw [upd_ne (Ne.symm hTS)]; exact hS
      obtain ⟨zl, its, n, rv, hl, eS⟩ := J.lstM hS1
      have lTs : Ts.length = i := by
        rw [hp.length, List.length_take, List.length_zip]; omega
      have rnew : Vals (Ts ++ [V.ref s.heap.objs.size]) (its ++ [Value.ref s.heap.objs.size]) := rv.append (.cons rfl .nil)
      have J2 := J.lset (t' := s.toks) (its' := its ++ [Value.ref s.heap.objs.size]) (f := (·.push (.ref s.heap.objs.size))) hS1 eS (by simp) rnew (by rw [List.length_append, lTs, List.length_singleton]; omega)
      have isz : its.length = i := by rw [← hl]; exact lTs
      refine wpAny_bind (wpAny_updateSeq (hz := by rw [List.size_toArray]; omega) (_hz' := by rw [Array.size_push, List.size_toArray]; omega) eS rfl ?_)
      refine wpAny_pure ⟨plainId_quiet F.plain_extend_loop _, ?_⟩
      refine ih (i + 1) _ _ (Ts ++ [V.ref s.heap.objs.size]) (by omega) hlt J2 ?_ ?_ ?_ upd_same ?_
      · intro a o e
        have aT : a ≠ s.heap.objs.size := fun q => by rw [q, hT0] at e; cases e
        have aS : a ≠ S := fun q => by rw [q, hS0] at e; cases e
        rw [upd_ne aS, upd_ne aT]
        exact hx a o e
      · refine st'.at (S := S) (fun c o hc e => (Heap.get?_update_other _ _ (Ne.symm hc)).trans e) hSc fun x y hq => ?_
        rw [hq] at eS
        have q := congrArg Obj.cls (Option.some.inj eS)
        exact absurd (show Value.type "tuple" = Value.type "list" from q) (by decide)
      · intro b hb
        obtain ⟨f0, f1, f2, f3, f4, f5⟩ := hf b hb
        refine ⟨?_, f1, f2, f3, f4, f5⟩
        rw [upd_ne fun q => hSc (by rw [← q]; exact hb), upd_ne fun q => Nat.lt_irrefl _ (by have := lt b hb; rw [q] at this; exact this)]
        exact f0
      · have ext : ∀ T x y, H T = some (.tup [x, y]) → (upd (upd H s.heap.objs.size (.tup [xs[i], ys[i]])) S (.lst (Ts ++ [V.ref s.heap.objs.size]))) T = some (.tup [x, y]) := fun T x y e => by
          have n1 : T ≠ S := fun q => by
            rw [q, hS] at e
            cases e
          have n2 : T ≠ s.heap.objs.size := fun q => by
            rw [q, hTn] at e
            cases e
          rw [upd_ne n1, upd_ne n2]
          exact e
        have tk : (xs.zip ys).take (i + 1) = (xs.zip ys).take i ++ [(xs[i], ys[i])] := by
          rw [List.take_add_one, List.getElem?_eq_getElem (by rw [List.length_zip]; omega), List.getElem_zip]
          rfl
        rw [tk]
        refine Paired.snoc (hp.ext ext) ⟨_, rfl, ?_⟩
        rw [upd_ne hTS, upd_same]
    refine wpAny_bind ?_
    rcases st.z with hz | ⟨m, b, x0, y0, hz, hm, hmn⟩
    · obtain ⟨x0, y0, hTO⟩ := st.to
      refine pyNext_zipT_item D hz st.ti hTO st.a st.b t1 t2 (x := u) (y := u2) (by simpa using hu) (by simpa using hu2) fun h' a1 a2 a3 a4 a5 a6 a7 => ?_
      refine go h' ⟨a7 _ _ D.TIz D.TITO D.TIi1 D.TIi2 st.ti, ⟨_, _, a2⟩, a3, a4, .inr ⟨s.heap.objs.size, false, u, u2, a1, a5, fun hc => Nat.lt_irrefl _ (lt _ hc)⟩⟩ a5 ?_
      exact fun c o hc e => a7 c o (fun q => hc (by simp [q])) (fun q => hc (by simp [q])) (fun q => hc (by simp [q])) (fun q => hc (by simp [q])) e
    · obtain ⟨x1, y1, hTO⟩ := st.to
      refine next_more D hz hm st.ti st.a st.b t1 t2 (x := u) (y := u2) (by simpa using hu) (by simpa using hu2) fun h' b1 a1 a3 a4 a5 a6 a7 => ?_
      refine go h' ⟨a7 _ _ D.TIz D.TIi1 D.TIi2 st.ti, ⟨x1, y1, a7 _ _ D.TOz D.TOi1 D.TOi2 hTO⟩, a3, a4, .inr ⟨m, b1, x0, y0, a1, a7 _ _ (fun q => hmn (by simp [q])) (fun q => hmn (by simp [q])) (fun q => hmn (by simp [q])) hm, hmn⟩⟩ a5 ?_
      exact fun c o hc e => a7 c o (fun q => hc (by simp [q])) (fun q => hc (by simp [q])) (fun q => hc (by simp [q])) e
/-- list(zip(a, b)) -/
def tLZ (K : PySem.W.Frag) (ta : TA) : TE := fun σ H Q => ta σ H fun vs H1 => ∃ a b xs ys, vs = [V.ref a, V.ref b] ∧ SqT K H1 a xs ∧ SqT K H1 b ys ∧
  ∀ S H' Ts, H1 S = none → Ext H1 H' → H' S = some (.lst Ts) → PairsAt H' Ts (xs.zip ys) → Q (.ref S) H'
theorem run_list {s : Shared} {H : Hp} {Q : VK} {z TI TO i1 i2 l1 l2 : Addr} {xs ys : List V} (hc : A.handled = none) (D : ZipApart z TI TO i1 i2 l1 l2) (hq1 : SqT X.K H l1 xs) (hq2 : SqT X.K H l2 ys)
    (I : Inv X pins σ H s) (st : ZS z TI TO i1 i2 l1 l2 0 s.heap) (hz : IsZip s.heap z TI TO .none) (hf : ∀ b ∈ [z, TI, TO, i1, i2], FpOk X pins H b)
    (hQ : ∀ S H' Ts, H S = none → Ext H H' → H' S = some (.lst Ts) → PairsAt H' Ts (xs.zip ys) → Q (.ref S) H') :
    wpAny (model X.prog X.w) A (call (.type "list") [.ref z]) (EP X pins σ Q) (fun _ _ => False) s := by
  have lx : xs.length ≤ sizeLine := by
    obtain ⟨_, _, _, h⟩ := I.tuple hq1
    exact h
  have hSn : H s.heap.objs.size = none := I.hok.fresh (Nat.le_refl _)
  have hSc : s.heap.objs.size ∉ [z, TI, TO, i1, i2] := fun hm => Nat.lt_irrefl _ (st.lt _ hm)
  have hSz : s.heap.objs.size ≠ z := fun e => hSc (by simp [e])
  refine callType_codes (Q₁ := fun obj s₁ => obj = .ref s.heap.objs.size ∧ s₁ = { s with heap := s.heap.push { cls := .type "list", data := .seq #[] } }) PySem.F.called_list (PySem.F.typeCall_list_1 _) PySem.F.entry_list_init
    (code_list_new _ ⟨rfl, rfl⟩) fun obj s₁ h₁ => ?_
  obtain ⟨rfl, rfl⟩ := h₁
  have I1 := I.lnew (its := []) (ys := []) (t' := s.toks) .nil (Nat.zero_le _)
  generalize hs1 : ({ s with heap := s.heap.push { cls := .type "list", data := .seq ([] : List Value).toArray }, toks := s.toks } : Shared) = s1 at I1
  have hH1 : (upd H s.heap.objs.size (.lst [])) s.heap.objs.size = some (.lst []) := upd_same
  have x1 : Ext H (upd H s.heap.objs.size (.lst [])) := fun a o e => by
    rw [upd_ne fun q => by rw [q, hSn] at e; cases e]
    exact e
  have kp1 : ∀ c o, s.heap.get? c = some o → s1.heap.get? c = some o := fun c o e => by
    rw [← hs1]
    exact Heap.get?_push_of_some _ e
  obtain ⟨_, its, n, rv, _, eS⟩ := I1.lstM hH1
  cases rv
  generalize hS : s.heap.objs.size = S at *
  refine ⟨⟨_, eS, rfl⟩, PySem.F.args_list_init_2 _ _, ?_⟩
  show wpAny _ A.in1.in1 (do let old ← Builtin.List.listItems (.ref S); Builtin.List.listUpdate (.ref S) (fun _ => #[]); letGo old.toList.reverse; Builtin.List.listExtendWith (.ref S) (.ref z) .none) _ _ _
  refine wpAny_bind ?_
  unfold Builtin.List.listItems
  refine wpAny_bind (wpAny_seqItems eS rfl (wpAny_pure ?_))
  show wpAny _ A.in1.in1 (updateSeq S (fun _ => #[]) >>= fun _ => letGo (#[] : Array Value).toList.reverse >>= fun _ => Builtin.List.listExtendWith (.ref S) (.ref z) .none) _ _ _
  refine wpAny_bind (wpAny_updateSeq (hz := by decide) (_hz' := by decide) eS rfl ?_)
  have I2 := I1.lset (t' := s1.toks) (its' := []) (ys := []) (f := fun _ => #[]) hH1 eS rfl .nil (Nat.zero_le _)
  have kp2 : ∀ c o, c ≠ S → s1.heap.get? c = some o → (s1.heap.update S (Obj.mapSeq fun _ => (#[] : Array Value))).get? c = some o := fun c o hc' e => (Heap.get?_update_other _ _ (Ne.symm hc')).trans e
  refine wpAny_bind (wpAny_letGo ?_)
  unfold Builtin.List.listExtendWith
  have neS : ∀ c ∈ [z, TI, TO, i1, i2], c ≠ S := fun c hcm e => hSc (by rw [← e]; exact hcm)
  have hz2 : IsZip (s1.heap.update S (Obj.mapSeq fun _ => (#[] : Array Value))) z TI TO .none := kp2 _ _ (neS _ (by simp)) (kp1 _ _ hz)
  have tz : ∀ {h : Heap} {t : Nat}, IsZip h z TI TO .none → ({ s1 with heap := h, toks := t } : Shared).TypeIs (.ref z) "zip" := fun q => ⟨_, q, rfl⟩
  refine wpAny_bind (wpAny_typeOf (tz hz2) ?_)
  have h1 : Builtin.List.listSameRef (.ref S) (.ref z) = false := by simp [Builtin.List.listSameRef, hSz]
  have h2 : (Value.type "zip" == Value.type "list") = false := by decide
  have h3 : (Value.type "zip" == Value.type "tuple") = false := by decide
  simp only [h1, h2, h3, Bool.or_false, Bool.false_eq_true, if_false]
  refine wpAny_bind (wpAny_pyIter_zip hz2 ?_)
  refine wpAny_bind (wpAny_holding ?_)
  unfold Builtin.List.listLengthHint
  refine wpAny_bind (wpAny_specialOf (tz hz2) zip_no_len ?_)
  show wpAny _ A.in1.in1 (specialOf (Value.ref z) (Str.ofString "__length_hint__") >>= _) _ _ _
  refine wpAny_bind (wpAny_specialOf (tz hz2) zip_no_hint ?_)
  refine wpAny_pure ?_
  show wpAny _ A.in1.in1 (rule "list.extend.makes-room" >>= fun _ => Builtin.List.listTouch (.ref S) >>= fun _ => again (.builtin "list.extend.loop" ⟨[.ref S, .ref z, .none], []⟩)) _ _ _
  refine wpAny_bind (wpAny_rule ?_)
  refine wpAny_bind ?_
  show wpAny _ A.in1.in1 (updateSeq S (·.push .none) >>= fun _ => updateSeq S (·.pop)) _ _ _
  obtain ⟨_, its2, n2, rv2, _, eS2⟩ := I2.lstM upd_same
  cases rv2
  refine wpAny_bind (wpAny_updateSeq (hz := by decide) (_hz' := by decide) eS2 rfl ?_)
  have I3 := I2.lset (t' := s1.toks) (its' := [Value.none]) (ys := [V.non]) (f := (·.push .none)) upd_same eS2 rfl (.cons rfl .nil) (by decide)
  obtain ⟨_, its3, n3, rv3, _, eS3⟩ := I3.lstM upd_same
  have z3 : its3 = [Value.none] := by
    cases rv3 with
    | cons a b =>
      cases b
      cases a
      rfl
  subst z3
  refine wpAny_updateSeq (hz := by decide) (_hz' := by decide) eS3 rfl ?_
  have I4 := I3.lset (t' := s1.toks) (its' := []) (ys := []) (f := (·.pop)) upd_same eS3 rfl .nil (Nat.zero_le _)
  refine wpAny_pure ⟨plainId_quiet F.plain_extend_loop _, ?_⟩
  have up : ∀ {o o' : HO}, upd (upd H S o) S o' = upd H S o' := fun {o o'} => by
    funext b
    by_cases hb : b = S
    · rw [hb, upd_same, upd_same]
    · rw [upd_ne hb, upd_ne hb, upd_ne hb]
  rw [up, up, up] at I4
  have st4 := (((st.at (S := S) (h' := s1.heap) (fun c o _ e => kp1 c o e) hSc ?g1).at (S := S) kp2 hSc ?g2).at (S := S) (fun c o hc' e => (Heap.get?_update_other _ (Obj.mapSeq (·.push Value.none)) (Ne.symm hc')).trans e) hSc ?g3).at (S := S) (fun c o hc' e => (Heap.get?_update_other _ (Obj.mapSeq (·.pop)) (Ne.symm hc')).trans e) hSc ?g4
  · refine zip_loop (A := A.in1) (res := .none) (R := wants (fun r s₂ => r = .none ∧ EP X pins σ Q (.ref S) s₂) fun _ _ => False) hc D hq1 hq2 hSn hSc (by omega) (fun s' H' Ts J hx hS' hp => ?_) _ 0 _ _ [] rfl (Nat.zero_le _) I4 x1 st4 (fun b hb => ?_) upd_same .nil
    · exact ⟨rfl, .ref S, H', J, rfl, hQ S H' Ts hSn hx hS' hp⟩
    · obtain ⟨f0, f1, f2, f3, f4, f5⟩ := hf b hb
      refine ⟨?_, f1, f2, f3, f4, f5⟩
      rw [upd_ne (neS b hb)]
      exact f0
  case g1 =>
    intro x y hq
    have := Heap.lt_size hq
    rw [hS] at this
    exact Nat.lt_irrefl _ this
  case g2 => exact noP eS
  case g3 => exact noP eS2
  case g4 => exact noP eS3
variable {e e2 : Expr} {ta : TA} {p pos p2 pos2 : Pos}
theorem pe_lzip (hc : X.calm = true) (hgl : Gl X "list") (hml : X.mg "list" = none) (hg : Gl X "zip") (hm : X.mg "zip" = none) (ha : PA X [e, e2] ta)
    (hs : starEach [e, e2] X.env = (false, eval e X.env) :: starEach [e2] X.env) (hpl : (backTo pos2 (starEach [e2] X.env)).any (·.1) = false)
    (h1 : starEach [.Call (.Name "zip" p2) [e, e2] [] pos2] X.env = (false, eval (.Call (.Name "zip" p2) [e, e2] [] pos2) X.env) :: starEach [] X.env) :
    PE X (.Call (.Name "list" p) [.Call (.Name "zip" p2) [e, e2] [] pos2] [] pos) (tLZ X.K ta) := by
  refine ⟨fun pins s σ H Q I h => ?_⟩
  refine wpAny_Call_Name_kw (ld_blt I hgl hml PyProof.Rows.boot_list ?_ (by decide) (by decide))
  refine PyProof.Rows.callWith_type1 ?_ h1 rfl
  rw [h1]
  show wpAny _ _ (spliced ((false, eval (.Call (.Name "zip" p2) [e, e2] [] pos2) X.env) :: backTo pos (starEach [] X.env))) _ _ s
  refine Calls.spliced_cons ?_
  refine Call_ (ld_blt I hg hm PyProof.Rows.boot_zip (PyProof.Rows.callWith_type1 (thn (ha.run pos2 pins s σ H _ I h) fun us s1 ⟨vs, H1, I1, r1, q1⟩ => ?_) hs hpl))
  obtain ⟨a, b, xs, ys, ex, hqx, hqy, q⟩ := q1
  subst ex
  cases r1 with
  | cons r rr =>
    cases rr with
    | cons r' rr =>
      cases rr
      cases r
      cases r'
      obtain ⟨its, rv, p1, _⟩ := I1.tuple hqx
      obtain ⟨its2, rv2, p2', _⟩ := I1.tuple hqy
      obtain ⟨o1, ho1, _⟩ := id p1
      obtain ⟨o2, ho2, _⟩ := id p2'
      refine call_zipT (show s1.heap.IsTuple a its.toArray from p1) (show s1.heap.IsTuple b its2.toArray from p2') fun h' hz hTI hTO k1 k2 hsz hk => ?_
      have I2 : Inv X pins σ H1 { s1 with heap := h' } := I1.kept (t' := s1.toks) hk
      refine Calls.spliced_nil ?_
      refine wpAny_mono (run_list (I.ok.hd hc) (PySem.W.ktu_apart s1.heap.objs.size a b (Heap.lt_size ho1) (Heap.lt_size ho2)) hqx hqy I2 ⟨hTI, ⟨_, _, hTO⟩, k1, k2, .inl hz⟩ hz (fun c hcm => ?_) q) (fun _ _ z => z) fun _ _ z => z.elim
      have hle : s1.heap.objs.size ≤ c := by
        have e' : c = s1.heap.objs.size + 4 ∨ c = s1.heap.objs.size + 2 ∨ c = s1.heap.objs.size + 3 ∨ c = s1.heap.objs.size ∨ c = s1.heap.objs.size + 1 := by simpa using hcm
        rcases e' with q | q | q | q | q <;> rw [q] <;> first
          | exact Nat.le_refl _
          | exact Nat.le_add_right _ _
      exact I1.fpOk hle (I1.hok.fresh hle)
end
end Zp

end

section
set_option Elab.async false
set_option linter.all false
set_option maxRecDepth 100000
/-! Ev10: list(zip(..)), a list taken apart, own exceptions. -/
namespace Ev
open PySem PySem.Spec PyProof.Rows L2 XcV
section
variable {X : Cx} {O P : Nat → Bool} {ro : Bool} {e e2 : Expr} {es : List Expr} {pos p p2 pos2 : Pos}
/-! ### zip -/
def zipD (xs ys : List D) : List D := (xs.zip ys).map fun p => .tup [p.1, p.2]
def eZip (a b : QF) : EF := fun env => (a env).bind fun p => (b p.2).bind fun q => (p.1 q.2).bind fun x => (q.1 q.2).bind fun y => match x, y with
  | .tup xs, .tup ys => some (.lst (zipD xs ys), q.2)
  | _, _ => none
theorem pairs_rep {K : PySem.W.Frag} {w : World} {Z : Addr → Prop} {H : Hp} : ∀ {vs us Ts : List V} {xs ys : List D}, RepL K w Z H vs xs → RepL K w Z H us ys → Zp.PairsAt H Ts (vs.zip us) → RepL K w Z H Ts (zipD xs ys)
  | [], us, Ts, _, ys, .nil, _, p => by
    rw [List.zip_nil_left] at p
    cases p
    exact .nil
  | v :: vs, [], Ts, _, _, .cons _ _, .nil, p => by
    rw [List.zip_nil_right] at p
    cases p
    exact .nil
  | v :: vs, u :: us, _, _, _, .cons r1 t1, .cons r2 t2, p => by
    rw [List.zip_cons_cons] at p
    cases p with
    | cons h t =>
      obtain ⟨T, rfl, e⟩ := h
      exact .cons (.tup (SqT.of e) (.cons r1 (.cons r2 .nil))) (pairs_rep t1 t2 t)
theorem do_zip {qa qb : QF} (hc : X.calm = true) (hgl : Gl X "list") (hml : X.mg "list" = none) (hg : Gl X "zip") (hm : X.mg "zip" = none) (ha : PE X e (tQ X.K X.w O qa)) (hb : PE X e2 (tQ X.K X.w O qb))
    (hs : starEach [e, e2] X.env = (false, eval e X.env) :: starEach [e2] X.env) (hs2 : starEach [e2] X.env = (false, eval e2 X.env) :: starEach [] X.env) (hpl : (backTo pos2 (starEach [e2] X.env)).any (·.1) = false)
    (h1 : starEach [.Call (.Name "zip" p2) [e, e2] [] pos2] X.env = (false, eval (.Call (.Name "zip" p2) [e, e2] [] pos2) X.env) :: starEach [] X.env) :
    PE X (.Call (.Name "list" p) [.Call (.Name "zip" p2) [e, e2] [] pos2] [] pos) (tO X.K X.w O (eZip qa qb)) := by
  refine (Zp.pe_lzip hc hgl hml hg hm (pa_cons ha (pa_cons hb pa_nil hs2) hs) hs hpl h1).mono fun σ H Q h => ?_
  obtain ⟨Z, F, env, d, env1, s, e, k⟩ := h
  obtain ⟨⟨ra, ea⟩, q1, e⟩ := Option.bind_eq_some_iff.mp e
  obtain ⟨⟨rb, eb⟩, q2, e⟩ := Option.bind_eq_some_iff.mp e
  obtain ⟨x, e3, e⟩ := Option.bind_eq_some_iff.mp e
  obtain ⟨y, e4, e⟩ := Option.bind_eq_some_iff.mp e
  refine ⟨Z, F, env, ra, ea, s, q1, fun v Z1 F1 H1 s1 t1 h1 => ⟨Z1, F1, ea, rb, eb, s1, q2, fun u Z2 F2 H2 s2 t2 h2 => ?_⟩⟩
  have rx := h1 Z2 F2 H2 eb x s2 t2 e3
  have ry := h2 Z2 F2 H2 eb y s2 Step.refl e4
  split at e
  · cases e
    obtain ⟨_, a, vs, rfl, ha1, ra1⟩ := rx.tupv
    obtain ⟨_, b, us, rfl, hb1, rb1⟩ := ry.tupv
    refine ⟨a, b, vs, us, rfl, ha1, hb1, fun S H' Ts hS hx hS' hp => ?_⟩
    have g : Grow Z2 H2 Z2 H' := ⟨hx, fun _ z => z, fun _ z => .inl z, fun a z q => by
      cases e5 : H2 a with
      | none => exact s2.zh a z e5
      | some o => rw [hx a o e5] at q; cases q⟩
    obtain ⟨s3, t3⟩ := s2.grow g
    have rep : RepL X.K X.w Z2 H' Ts _ := pairs_rep (ra1.kp g.kp) (rb1.kp g.kp) hp
    refine k (.ref S) Z2 F2 H' [S] s3 ((t1.trans t2).trans t3) (.lst hS' rep) fun a ha => ?_
    rw [List.mem_singleton.mp ha]
    refine ⟨fun z => s2.zh S z hS, fun i hi => Mut.ne (s2.fz i S hi).2 hS, .inl ?_⟩
    exact fresh0 (t1.trans t2) hS
  · cases e
/-! ### (a, b, ..) = a list -/
def gU (gs : List D → Env → Option Env) : GF := fun d env => match d with
  | .lst ds => gs ds env
  | _ => none
theorem dg_unl {gs : List D → Env → Option Env} {n : Nat} {k : Nat} (hc : X.calm = true) (h : PGs X es (tGs X.K X.w O P gs)) (hl : ∀ ds env e, gs ds env = some e → ds.length = n)
    (hn : (assignEach es X.env).length = n) (hst : (assignEach es X.env).findIdx? (·.1) = none) : PG X (.Tuple es k pos) (tG X.K X.w O P (gU gs)) := by
  refine (pg_unl hc h hn hst).mono fun v σ H Q hh => ?_
  obtain ⟨Z, F, env, d, env1, s, r, e, k⟩ := hh
  cases r with
  | lst q z rl => exact ⟨_, _, rfl, SqL.of q, by rw [rl.length]; exact hl _ _ _ e, Z, F, env, _, env1, s, rl, e, k⟩
  | _ => cases e
end
/-! ### own exceptions -/
def Kls (K : PySem.W.Frag) (C : Addr) (initId : String) : Prop := ∃ Bn B newId bmB, BaseX Bn B newId initId bmB ∧ XcC K C newId bmB
def spI0 (K : PySem.W.Frag) (initId : String) : Sp := fun vs H Q _ => ∃ a C, vs = [V.ref a] ∧ Kls K C initId ∧ H a = some (exo a C none) ∧ Q .non H
def spI1 (K : PySem.W.Frag) (initId : String) (f : Str) : Sp := fun vs H Q _ => ∃ a C x, vs = [V.ref a, x] ∧ Kls K C initId ∧ PySem.W.findIn K (.ref C) f = some none ∧ H a = some (exo a C none) ∧
  ∀ dx, H dx = none → dx ≠ a → Q .non (upd (upd H dx (exd dx [(f, x)])) a (exo a C (some dx)))
def spI2 (K : PySem.W.Frag) (initId : String) (f g : Str) : Sp := fun vs H Q _ => ∃ a C x y, vs = [V.ref a, x, y] ∧ Kls K C initId ∧ PySem.W.findIn K (.ref C) f = some none ∧ PySem.W.findIn K (.ref C) g = some none ∧ H a = some (exo a C none) ∧
  ∀ dx, H dx = none → dx ≠ a → Q .non (upd (upd (upd H dx (exd dx [(f, x)])) a (exo a C (some dx))) dx (exd dx [(g, y), (f, x)]))
/-- what was made: a and its dict, new -/
theorem grow_exc {Z : Addr → Prop} {H : Hp} {a dx C : Addr} {fs : List (Str × V)} {H' : Hp} (zh : ∀ b, Z b → H b ≠ none) (ha : H a = none) (hd : H dx = none) (ne : dx ≠ a)
    (e1 : H' a = some (exo a C (some dx))) (e2 : H' dx = some (exd dx fs)) (e3 : ∀ b, b ≠ a → b ≠ dx → H' b = H b) : Grow Z H (fun b => Z b ∨ b = a ∨ b = dx) H' := by
  have nb : ∀ b o, H b = some o → b ≠ a ∧ b ≠ dx := fun b o e => ⟨fun q => (by rw [q, ha] at e; cases e), fun q => (by rw [q, hd] at e; cases e)⟩
  refine ⟨fun b o e => ?_, fun b z => .inl z, fun b z => ?_, fun b z => ?_⟩
  · rw [e3 b (nb b o e).1 (nb b o e).2]; exact e
  · rcases z with z | rfl | rfl
    · exact .inl z
    · exact .inr ha
    · exact .inr hd
  · rcases z with z | rfl | rfl
    · cases e : H b with
      | none => exact absurd e (zh b z)
      | some o => rw [e3 b (nb b o e).1 (nb b o e).2, e]; intro q; cases q
    · rw [e1]; intro q; cases q
    · rw [e2]; intro q; cases q
section
variable {X : Cx} {O P : Nat → Bool} {k n : Nat} {fI C : Addr} {fd : FuncData} {ps ks : List Str} {x : Str} {p pos : Pos} {e : Expr} {es : List Expr} {kws : List Keyword} {g : List Value → List Value → List Value} {gV : List V → List V → List V}
variable {initId : String} {f f2 : Str}
def eMk0 (C : Addr) : EF := fun env => some (.exc C [] [], env)
def eMk1 (C : Addr) (f : Str) (a : LF) : EF := fun env => (a env).bind fun p => match p.1 with
  | [d] => some (.exc C [f] [d], p.2)
  | _ => none
def eMk2 (C : Addr) (f g : Str) (a : LF) : EF := fun env => (a env).bind fun p => match p.1 with
  | [d, c] => some (.exc C [g, f] [c, d], p.2)
  | _ => none
/-- the keywords in the other order -/
def eMk2r (C : Addr) (f g : Str) (a : LF) : EF := fun env => (a env).bind fun p => match p.1 with
  | [c, d] => some (.exc C [g, f] [c, d], p.2)
  | _ => none
theorem mk0_red {σ : L2.St} {H : Hp} {Q : VK} {E : XK} (kl : Kls X.K C initId) (h : tE X.K X.w O (eMk0 C) σ H Q) : ∀ a, H a = none → spI0 X.K initId [V.ref a] (upd H a (exo a C none)) (fun v H2 => v = .non ∧ Q (.ref a) H2) E := by
  obtain ⟨Z, F, env, d, env1, s, e, k⟩ := h
  cases e
  intro a ha
  refine ⟨a, C, rfl, kl, upd_same, rfl, ?_⟩
  have gr : Grow Z H (fun b => Z b ∨ b = a) (upd H a (exo a C none)) := Grow.new s.zh ha
  obtain ⟨s2, t2⟩ := s.grow gr
  exact k (.ref a) _ F _ s2 t2 (.exc0 upd_same (.inr rfl))
theorem mk1_fin {Z : Addr → Prop} {F : Fts} {H : Hp} {σ : L2.St} {env1 : Env} {d : D} {v : V} {Q : VK} {E : XK} (kl : Kls X.K C initId) (hf : PySem.W.findIn X.K (.ref C) f = some none) (s : St' X.K X.w O Z F H σ env1) (r : RepD X.K X.w Z H v d)
    (k : ∀ v Z1 F1 H1, St' X.K X.w O Z1 F1 H1 σ env1 → Step Z F H Z1 F1 H1 → RepD X.K X.w Z1 H1 v (.exc C [f] [d]) → Q v H1) :
    ∀ a, H a = none → spI1 X.K initId f [V.ref a, v] (upd H a (exo a C none)) (fun v H2 => v = .non ∧ Q (.ref a) H2) E := by
  intro a ha
  refine ⟨a, C, v, rfl, kl, hf, upd_same, fun dx hd ne => ⟨rfl, ?_⟩⟩
  rw [upd_ne ne] at hd
  have e1 : (upd (upd (upd H a (exo a C none)) dx (exd dx [(f, v)])) a (exo a C (some dx))) a = some (exo a C (some dx)) := upd_same
  have e2 : (upd (upd (upd H a (exo a C none)) dx (exd dx [(f, v)])) a (exo a C (some dx))) dx = some (exd dx ([f].zip [v])) := by rw [upd_ne ne, upd_same]; rfl
  have gr := grow_exc (Z := Z) s.zh ha hd ne e1 e2 fun b b1 b2 => by rw [upd_ne b1, upd_ne b2, upd_ne b1]
  obtain ⟨s2, t2⟩ := s.grow gr
  exact k (.ref a) _ F _ s2 t2 (.exc e1 (.inr (.inl rfl)) e2 (.inr (.inr rfl)) rfl (.cons (r.kp gr.kp) .nil))
theorem mk2_fin {Z : Addr → Prop} {F : Fts} {H : Hp} {σ : L2.St} {env1 : Env} {d c : D} {v u : V} {Q : VK} {E : XK} (kl : Kls X.K C initId) (hf : PySem.W.findIn X.K (.ref C) f = some none) (hf2 : PySem.W.findIn X.K (.ref C) f2 = some none) (s : St' X.K X.w O Z F H σ env1)
    (r : RepD X.K X.w Z H v d) (r2 : RepD X.K X.w Z H u c) (k : ∀ v Z1 F1 H1, St' X.K X.w O Z1 F1 H1 σ env1 → Step Z F H Z1 F1 H1 → RepD X.K X.w Z1 H1 v (.exc C [f2, f] [c, d]) → Q v H1) :
    ∀ a, H a = none → spI2 X.K initId f f2 [V.ref a, v, u] (upd H a (exo a C none)) (fun v H2 => v = .non ∧ Q (.ref a) H2) E := by
  intro a ha
  refine ⟨a, C, v, u, rfl, kl, hf, hf2, upd_same, fun dx hd ne => ⟨rfl, ?_⟩⟩
  rw [upd_ne ne] at hd
  generalize hH : upd (upd (upd (upd H a (exo a C none)) dx (exd dx [(f, v)])) a (exo a C (some dx))) dx (exd dx [(f2, u), (f, v)]) = H'
  have e1 : H' a = some (exo a C (some dx)) := by rw [← hH, upd_ne (Ne.symm ne), upd_same]
  have e2 : H' dx = some (exd dx ([f2, f].zip [u, v])) := by rw [← hH, upd_same]; rfl
  have gr := grow_exc (Z := Z) s.zh ha hd ne e1 e2 fun b b1 b2 => by rw [← hH, upd_ne b2, upd_ne b1, upd_ne b2, upd_ne b1]
  obtain ⟨s2, t2⟩ := s.grow gr
  exact k (.ref a) _ F _ s2 t2 (.exc e1 (.inr (.inl rfl)) e2 (.inr (.inr rfl)) rfl (.cons (r2.kp gr.kp) (.cons (r.kp gr.kp) .nil)))
/-- C(e, ..), the arguments by place -/
theorem de_mk1 {a : LF} {E : XK} (hpass : Passes CX0 X E) {Bn B newId : String} {bmB : List Value} (BX : BaseX Bn B newId initId bmB) (T : XcC X.K C newId bmB) (iC : PySem.W.findIn X.K (.ref C) "__init__" = some (some (.ref fI)))
    (tI : PySem.W.typeIn X.K (.ref fI) = some (.type "function")) (F1 : FnOk X.prog X.w X.K X.mg X.base CX0 k fI fd ps (spI1 X.K initId f)) (hr : Room (k + 1) X.A) (hb : KBn X.K fd ps 2 [] g fun vs _ => vs)
    (hf : PySem.W.findIn X.K (.ref C) f = some none) (hg : Gl X x) (hm : X.mg x = some (.ref C)) (ha : PA X (e :: es) (tF X.K X.w O a)) (hdb : (x == ("__debug__" : Str)) = false)
    (he : starEach (e :: es) X.env = (false, eval e X.env) :: starEach es X.env) (hpl : (backTo pos (starEach es X.env)).any (·.1) = false) :
    PE X (.Call (.Name x p) (e :: es) [] pos) (tE X.K X.w O (eMk1 C f a)) := by
  refine (pe_mkx (n := 1) BX T iC tI F1 hr hb hpass (by decide) hg hm ha hdb he hpl).mono fun σ H Q h => ?_
  obtain ⟨Z, F, env, d, env1, s, e, k⟩ := h
  obtain ⟨⟨ds, ea⟩, q1, e⟩ := Option.bind_eq_some_iff.mp e
  split at e
  · rename_i d0 hd
    cases e
    have hd : ds = [d0] := hd
    subst hd
    refine ⟨Z, F, env, _, ea, s, q1, fun vs Z1 F1 H1 s1 t1 h1 => ?_⟩
    cases h1 with
    | cons r t =>
      cases t
      exact ⟨rfl, rfl, mk1_fin ⟨_, _, _, _, BX, T⟩ hf s1 r fun v Z2 F2 H2 s2 t2 r2 => k v Z2 F2 H2 s2 (t1.trans t2) r2⟩
  · cases e
theorem de_mk2 {a : LF} {E : XK} (hpass : Passes CX0 X E) {Bn B newId : String} {bmB : List Value} (BX : BaseX Bn B newId initId bmB) (T : XcC X.K C newId bmB) (iC : PySem.W.findIn X.K (.ref C) "__init__" = some (some (.ref fI)))
    (tI : PySem.W.typeIn X.K (.ref fI) = some (.type "function")) (F1 : FnOk X.prog X.w X.K X.mg X.base CX0 k fI fd ps (spI2 X.K initId f f2)) (hr : Room (k + 1) X.A) (hb : KBn X.K fd ps 3 [] g fun vs _ => vs)
    (hf : PySem.W.findIn X.K (.ref C) f = some none) (hf2 : PySem.W.findIn X.K (.ref C) f2 = some none) (hg : Gl X x) (hm : X.mg x = some (.ref C)) (ha : PA X (e :: es) (tF X.K X.w O a)) (hdb : (x == ("__debug__" : Str)) = false)
    (he : starEach (e :: es) X.env = (false, eval e X.env) :: starEach es X.env) (hpl : (backTo pos (starEach es X.env)).any (·.1) = false) :
    PE X (.Call (.Name x p) (e :: es) [] pos) (tE X.K X.w O (eMk2 C f f2 a)) := by
  refine (pe_mkx (n := 2) BX T iC tI F1 hr hb hpass (by decide) hg hm ha hdb he hpl).mono fun σ H Q h => ?_
  obtain ⟨Z, F, env, d, env1, s, e, k⟩ := h
  obtain ⟨⟨ds, ea⟩, q1, e⟩ := Option.bind_eq_some_iff.mp e
  split at e
  · rename_i d0 c0 hd
    cases e
    have hd : ds = [d0, c0] := hd
    subst hd
    refine ⟨Z, F, env, _, ea, s, q1, fun vs Z1 F1 H1 s1 t1 h1 => ?_⟩
    cases h1 with
    | cons r t =>
      cases t with
      | cons r2 t =>
        cases t
        exact ⟨rfl, rfl, mk2_fin ⟨_, _, _, _, BX, T⟩ hf hf2 s1 r r2 fun v Z2 F2 H2 s2 t2 r2 => k v Z2 F2 H2 s2 (t1.trans t2) r2⟩
  · cases e
theorem de_mk0 {E : XK} (hpass : Passes CX0 X E) {Bn B newId : String} {bmB : List Value} (BX : BaseX Bn B newId initId bmB) (T : XcC X.K C newId bmB) (iC : PySem.W.findIn X.K (.ref C) "__init__" = some (some (.ref fI)))
    (tI : PySem.W.typeIn X.K (.ref fI) = some (.type "function")) (F1 : FnOk X.prog X.w X.K X.mg X.base CX0 k fI fd ps (spI0 X.K initId)) (hr : Room (k + 1) X.A) (hb : KBn X.K fd ps 1 [] g fun vs _ => vs)
    (hg : Gl X x) (hm : X.mg x = some (.ref C)) (hdb : (x == ("__debug__" : Str)) = false) :
    PE X (.Call (.Name x p) [] [] pos) (tE X.K X.w O (eMk0 C)) := by
  refine (pe_mkx0 BX T iC tI F1 hr hb hpass hg hm hdb).mono fun σ H Q h => ?_
  exact ⟨rfl, rfl, mk0_red (initId := initId) ⟨_, _, _, _, BX, T⟩ h⟩
/-! keywords: one value, two in order, two the other way about -/
def tKs (K : PySem.W.Frag) (w : World) (O : Nat → Bool) (a : LF) : TA := tF K w O a
theorem pk_of {kws : List Keyword} {ta : TA} (h : PK X kws ta) : PK X kws ta := h
theorem de_mk1k {a : LF} {E : XK} (hpass : Passes CX0 X E) {Bn B newId : String} {bmB : List Value} (BX : BaseX Bn B newId initId bmB) (T : XcC X.K C newId bmB) (iC : PySem.W.findIn X.K (.ref C) "__init__" = some (some (.ref fI)))
    (tI : PySem.W.typeIn X.K (.ref fI) = some (.type "function")) (F1 : FnOk X.prog X.w X.K X.mg X.base CX0 k fI fd ps (spI1 X.K initId f)) (hr : Room (k + 1) X.A) (hb : KBn X.K fd ps 1 ks g fun vs zs => vs ++ zs) (hl : ks.length = 1)
    (hf : PySem.W.findIn X.K (.ref C) f = some none) (hg : Gl X x) (hm : X.mg x = some (.ref C)) (hkw : PK X kws (tF X.K X.w O a)) (hall : (backToKw pos (keywordEach kws X.env)).all (·.1.isSome) = true)
    (hks : (backToKw pos (keywordEach kws X.env)).filterMap (·.1) = ks) (hdb : (x == ("__debug__" : Str)) = false)
    (hpl : ((backTo pos (starEach [] X.env)).any (·.1) || (backToKw pos (keywordEach kws X.env)).any (·.1.isNone)) = false) :
    PE X (.Call (.Name x p) [] kws pos) (tE X.K X.w O (eMk1 C f a)) := by
  refine (pe_mkxK BX T iC tI F1 hr hb hpass hg hm hkw hall hks hdb hpl).mono fun σ H Q h => ?_
  obtain ⟨Z, F, env, d, env1, s, e, k⟩ := h
  obtain ⟨⟨ds, ea⟩, q1, e⟩ := Option.bind_eq_some_iff.mp e
  split at e
  · rename_i d0 hd
    cases e
    have hd : ds = [d0] := hd
    subst hd
    refine ⟨Z, F, env, _, ea, s, q1, fun vs Z1 F1 H1 s1 t1 h1 => ?_⟩
    cases h1 with
    | cons r t =>
      cases t
      exact ⟨rfl, hl.symm, mk1_fin ⟨_, _, _, _, BX, T⟩ hf s1 r fun v Z2 F2 H2 s2 t2 r2 => k v Z2 F2 H2 s2 (t1.trans t2) r2⟩
  · cases e
theorem de_mk2k {a : LF} {E : XK} (hpass : Passes CX0 X E) {Bn B newId : String} {bmB : List Value} (BX : BaseX Bn B newId initId bmB) (T : XcC X.K C newId bmB) (iC : PySem.W.findIn X.K (.ref C) "__init__" = some (some (.ref fI)))
    (tI : PySem.W.typeIn X.K (.ref fI) = some (.type "function")) (F1 : FnOk X.prog X.w X.K X.mg X.base CX0 k fI fd ps (spI2 X.K initId f f2)) (hr : Room (k + 1) X.A) (hb : KBn X.K fd ps 1 ks g fun vs zs => vs ++ zs) (hl : ks.length = 2)
    (hf : PySem.W.findIn X.K (.ref C) f = some none) (hf2 : PySem.W.findIn X.K (.ref C) f2 = some none) (hg : Gl X x) (hm : X.mg x = some (.ref C)) (hkw : PK X kws (tF X.K X.w O a)) (hall : (backToKw pos (keywordEach kws X.env)).all (·.1.isSome) = true)
    (hks : (backToKw pos (keywordEach kws X.env)).filterMap (·.1) = ks) (hdb : (x == ("__debug__" : Str)) = false)
    (hpl : ((backTo pos (starEach [] X.env)).any (·.1) || (backToKw pos (keywordEach kws X.env)).any (·.1.isNone)) = false) :
    PE X (.Call (.Name x p) [] kws pos) (tE X.K X.w O (eMk2 C f f2 a)) := by
  refine (pe_mkxK BX T iC tI F1 hr hb hpass hg hm hkw hall hks hdb hpl).mono fun σ H Q h => ?_
  obtain ⟨Z, F, env, d, env1, s, e, k⟩ := h
  obtain ⟨⟨ds, ea⟩, q1, e⟩ := Option.bind_eq_some_iff.mp e
  split at e
  · rename_i d0 c0 hd
    cases e
    have hd : ds = [d0, c0] := hd
    subst hd
    refine ⟨Z, F, env, _, ea, s, q1, fun vs Z1 F1 H1 s1 t1 h1 => ?_⟩
    cases h1 with
    | cons r t =>
      cases t with
      | cons r2 t =>
        cases t
        exact ⟨rfl, hl.symm, mk2_fin ⟨_, _, _, _, BX, T⟩ hf hf2 s1 r r2 fun v Z2 F2 H2 s2 t2 r2 => k v Z2 F2 H2 s2 (t1.trans t2) r2⟩
  · cases e
theorem de_mk2r {a : LF} {E : XK} (hpass : Passes CX0 X E) {Bn B newId : String} {bmB : List Value} (BX : BaseX Bn B newId initId bmB) (T : XcC X.K C newId bmB) (iC : PySem.W.findIn X.K (.ref C) "__init__" = some (some (.ref fI)))
    (tI : PySem.W.typeIn X.K (.ref fI) = some (.type "function")) (F1 : FnOk X.prog X.w X.K X.mg X.base CX0 k fI fd ps (spI2 X.K initId f f2)) (hr : Room (k + 1) X.A) (hb : KBn X.K fd ps 1 ks g fun vs zs => vs ++ zs.reverse) (hl : ks.length = 2)
    (hf : PySem.W.findIn X.K (.ref C) f = some none) (hf2 : PySem.W.findIn X.K (.ref C) f2 = some none) (hg : Gl X x) (hm : X.mg x = some (.ref C)) (hkw : PK X kws (tF X.K X.w O a)) (hall : (backToKw pos (keywordEach kws X.env)).all (·.1.isSome) = true)
    (hks : (backToKw pos (keywordEach kws X.env)).filterMap (·.1) = ks) (hdb : (x == ("__debug__" : Str)) = false)
    (hpl : ((backTo pos (starEach [] X.env)).any (·.1) || (backToKw pos (keywordEach kws X.env)).any (·.1.isNone)) = false) :
    PE X (.Call (.Name x p) [] kws pos) (tE X.K X.w O (eMk2r C f f2 a)) := by
  refine (pe_mkxK BX T iC tI F1 hr hb hpass hg hm hkw hall hks hdb hpl).mono fun σ H Q h => ?_
  obtain ⟨Z, F, env, d, env1, s, e, k⟩ := h
  obtain ⟨⟨ds, ea⟩, q1, e⟩ := Option.bind_eq_some_iff.mp e
  split at e
  · rename_i d0 c0 hd
    cases e
    have hd : ds = [d0, c0] := hd
    subst hd
    refine ⟨Z, F, env, _, ea, s, q1, fun vs Z1 F1 H1 s1 t1 h1 => ?_⟩
    cases h1 with
    | cons r t =>
      cases t with
      | cons r2 t =>
        cases t
        exact ⟨rfl, hl.symm, mk2_fin ⟨_, _, _, _, BX, T⟩ hf hf2 s1 r2 r fun v Z2 F2 H2 s2 t2 r2 => k v Z2 F2 H2 s2 (t1.trans t2) r2⟩
  · cases e
end
/-! ### fields read, classes asked -/
section
variable {X : Cx} {O : Nat → Bool} {e : Expr} {pos p p2 : Pos}
def xaD (f : Str) : D → Option D
  | .exc _ ns ds => (ns.zip ds).lookup f
  | _ => none
theorem xa_look {K : PySem.W.Frag} {w : World} {Z : Addr → Prop} {H : Hp} {f : Str} {d : D} : ∀ {ns : List Str} {vs : List V} {ds : List D}, RepL K w Z H vs ds → (ns.zip ds).lookup f = some d → ∃ v, (ns.zip vs).lookup f = some v ∧ RepD K w Z H v d
  | [], _, _, _, e => by rw [List.zip_nil_left] at e; cases e
  | n :: ns, _, _, .nil, e => by rw [List.zip_nil_right] at e; cases e
  | n :: ns, _, _, .cons (v := v) (d := d0) r t, e => by
    rw [List.zip_cons_cons] at e ⊢
    rw [List.lookup_cons] at e ⊢
    cases h : f == n with
    | true =>
      rw [h] at e
      cases e
      exact ⟨v, rfl, r⟩
    | false =>
      rw [h] at e
      exact xa_look t e
/-- o.f of an own exception, its class one of Cs -/
def eXa (Cs : List Addr) (f : Str) (a : EF) : EF := fun env => (a env).bind fun p => match p.1 with
  | .exc C ns ds => if C ∈ Cs then ((ns.zip ds).lookup f).map fun d => (d, p.2) else none
  | _ => none
theorem de_xa {f : Str} {a : EF} (Cs : List Addr) (kl : ∀ C ∈ Cs, ∃ newId bmB, XcC X.K C newId bmB ∧ PySem.W.findIn X.K (.ref C) f = some none) (he : PE X e (tE X.K X.w O a)) (hb : attributeBase e f X.env (eval e X.env) = eval e X.env) :
    PE X (.Attribute e f pos) (tE X.K X.w O (eXa Cs f a)) := by
  refine (pe_xa he hb).mono fun σ H Q h => ?_
  obtain ⟨Z, F, env, d, env1, s, e, k⟩ := h
  obtain ⟨⟨d0, ea⟩, q1, e⟩ := Option.bind_eq_some_iff.mp e
  refine ⟨Z, F, env, d0, ea, s, q1, fun v Z1 F1 H1 s1 t1 r => ?_⟩
  split at e
  · rename_i C ns ds hd
    have hd : d0 = .exc C ns ds := hd
    subst hd
    split at e
    · rename_i hC
      obtain ⟨d1, l, e⟩ := Option.map_eq_some_iff.mp e
      cases e
      obtain ⟨newId, bmB, T, hno⟩ := kl C hC
      cases r with
      | exc h z y z2 hl rl =>
        obtain ⟨v, lv, rv⟩ := xa_look rl l
        exact ⟨_, C, _, _, v, newId, bmB, rfl, T, hno, h, y, lv, k v Z1 F1 H1 s1 t1 rv⟩
      | exc0 h z => cases l
    · cases e
  · cases e
/-- isinstance(e, C) of an own exception -/
def eIsX (K : PySem.W.Frag) (Cs : List Addr) (cv : Value) (a : EF) : EF := fun env => (a env).bind fun p => match p.1 with
  | .exc C _ _ => if C ∈ Cs then (PySem.W.kitOne K (.ref C) cv).map fun b => (.bl b, p.2) else none
  | _ => none
theorem de_isX {x : Str} {a : EF} {c : V} {cv : Value} (Cs : List Addr) (kl : ∀ C ∈ Cs, ∃ newId bmB, XcC X.K C newId bmB) (hg : Gl X "isinstance") (hm : X.mg "isinstance" = none)
    (ht : PE X (.Name x p2) (tC c)) (hcv : ∀ u, RelV c u → u = cv) (he : PE X e (tE X.K X.w O a)) (h1 : starEach (e :: [.Name x p2]) X.env = (false, eval e X.env) :: starEach [.Name x p2] X.env)
    (h2 : starEach [.Name x p2] X.env = (false, eval (.Name x p2) X.env) :: starEach [] X.env) :
    PE X (.Call (.Name "isinstance" p) [e, .Name x p2] [] pos) (tE X.K X.w O (eIsX X.K Cs cv a)) := by
  refine (pe_callB call_isX hg hm (by decide +kernel) (pa_cons he (pa_cons ht pa_nil h2) h1) (by decide) (by decide) h1).mono fun σ H Q h => ?_
  obtain ⟨Z, F, env, d, env1, s, e, k⟩ := h
  obtain ⟨⟨d0, ea⟩, q1, e⟩ := Option.bind_eq_some_iff.mp e
  refine ⟨Z, F, env, d0, ea, s, q1, fun v Z1 F1 H1 s1 t1 r => ?_⟩
  split at e
  · rename_i C ns ds hd
    have hd : d0 = .exc C ns ds := hd
    subst hd
    split at e
    · rename_i hC
      obtain ⟨b, l, e⟩ := Option.map_eq_some_iff.mp e
      cases e
      obtain ⟨newId, bmB, T⟩ := kl C hC
      cases r with
      | exc h z y z2 hl rl => exact ⟨_, C, _, c, cv, b, newId, bmB, rfl, hcv, T, h, fun dx q => by cases q; exact ⟨_, y⟩, l, k _ Z1 F1 H1 s1 t1 (.bl b)⟩
      | exc0 h z => exact ⟨_, C, none, c, cv, b, newId, bmB, rfl, hcv, T, h, fun dx q => (by cases q), l, k _ Z1 F1 H1 s1 t1 (.bl b)⟩
    · cases e
  · cases e
end
end Ev

end

section
set_option Elab.async false
set_option linter.all false
set_option maxRecDepth 100000
/-! Ev11: the rules with their side conditions seen to by themselves. -/
namespace Ev
open PySem PySem.Spec PyProof.Rows L2 XcV
/-- a def of the module as a callee -/
structure Cal (P : Program) (w : World) (K : PySem.W.Frag) (mg : Str → Option Value) (base : Heap) (x : Str) (k : Nat) (sg : Sig) (S : SemF) : Prop where
  ex : ∃ f fd ps, FnOk P w K mg base CX0 k f fd ps (spOf K w sg S) ∧ mg x = some (.ref f) ∧ PySem.W.keepIn K (.ref f) = true ∧ Binds K fd ps []
def eCallS (sg : Sig) (S : SemF) (u : UF) : EF := eCall ((List.range sg.np).map sg.O) S [] u
section
variable {X : Cx} {O P : Nat → Bool} {ro : Bool} {e a b c : Expr} {es : List Expr} {pos p p2 pos' : Pos}
theorem w_v (i : Nat) {x : Str} (hN : X.N[i]? = some x := by rfl) (hv : Vis X.env.scope x := by first | exact .inl rfl | exact .inr (.inl rfl) | exact .inr (.inr rfl)) (ho : O i = false := by rfl) (hd : (x == ("__debug__" : Str)) = false := by decide) (hcd : (x == ("__classdict__" : Str)) = false := by decide) :
    PE X (.Name x pos) (tE X.K X.w O (eV i)) := pe_v hN hv ho hd hcd
theorem w_q (i : Nat) {x : Str} (hN : X.N[i]? = some x := by rfl) (hv : Vis X.env.scope x := by first | exact .inl rfl | exact .inr (.inl rfl) | exact .inr (.inr rfl)) (ho : O i = true := by rfl) (hd : (x == ("__debug__" : Str)) = false := by decide) (hcd : (x == ("__classdict__" : Str)) = false := by decide) :
    PE X (.Name x pos) (tQ X.K X.w O (qV i)) := pq_v hN hv ho hd hcd
theorem w_op {op : Operator} {r : R2} {qa qb : QF} {g : D → D → Option D} (ho : OpR X (binaryOp op) r) (ok : Ok2 X.K X.w r g) (ha : PE X a (tQ X.K X.w O qa)) (hb : PE X b (tQ X.K X.w O qb)) : PE X (.BinOp a op b pos) (tE X.K X.w O (e2 g qa qb)) := de_op ho ok ha hb
theorem w_cmp {op : CmpOp} {r : R2} {qa qb : QF} {g : D → D → Option D} (ho : OpR X (compareOp op) r) (ok : Ok2 X.K X.w r g) (ha : PE X a (tQ X.K X.w O qa)) (hb : PE X b (tQ X.K X.w O qb)) (hm : behindInMarks op b = false := by rfl) :
    PE X (.Compare a [op] [b] pos) (tE X.K X.w O (e2 g qa qb)) := de_cmp ho ok ha hb hm
theorem w_tcmp {op : CmpOp} {r : R2} {qa qb : QF} {g : D → D → Option D} (ho : OpR X (compareOp op) r) (ok : Ok2 X.K X.w r g) (ha : PE X a (tQ X.K X.w O qa)) (hb : PE X b (tQ X.K X.w O qb)) (hm : behindInMarks op b = false := by rfl) :
    PT X (.Compare a [op] [b] pos) (tT X.K X.w O (tB1 (e2 g qa qb))) := dt_cmp ho ok ha hb hm
theorem w_tval {f : EF} (h : PE X e (tE X.K X.w O f)) (he : ∀ whole, isTrue e X.env whole = (do let v ← whole; standAt e.pos; holding [v] (truthy v)) := by intro _; rfl) : PT X e (tT X.K X.w O (tB1 f)) := dt_val h he
theorem w_ix {r : R2} {qa qb : QF} {g : D → D → Option D} (ho : IxR X r) (ok : Ok2 X.K X.w r g) (ha : PE X a (tQ X.K X.w O qa)) (hb : PE X b (tQ X.K X.w O qb)) (hs : PlainIx b := by intro _ _; rfl) :
    PE X (.Subscript a b pos) (tE X.K X.w O (e2 g qa qb)) := de_ix ho ok ha hb hs
theorem w_sl {qa : QF} {pl ph : PF} {lo hi : Option Expr} {p2 : Pos} (ha : PE X a (tQ X.K X.w O qa)) (hl : PO X lo (tP X.K X.w O pl)) (hh : PO X hi (tP X.K X.w O ph)) :
    PE X (.Subscript a (.Slice lo hi none p2) pos) (tE X.K X.w O (eSl slD qa pl ph)) := de_sl or_sl ok_sl ha hl hh
theorem w_ac {q : QF} {r : AF} (ha : PE X e (tQ X.K X.w O q)) (hr : PA X es (tA X.K X.w O r)) (hs : starEach (e :: es) X.env = (false, eval e X.env) :: starEach es X.env := by rfl) : PA X (e :: es) (tA X.K X.w O (aC q r)) := da_cons ha hr hs
theorem w_lc {f : EF} {r : LF} (ha : PE X e (tE X.K X.w O f)) (hr : PA X es (tF X.K X.w O r)) (hs : starEach (e :: es) X.env = (false, eval e X.env) :: starEach es X.env := by rfl) : PA X (e :: es) (tF X.K X.w O (lC f r)) := dl_cons ha hr hs
theorem w_uf {f : EF} {r : UF} (ha : PE X e (tE X.K X.w O f)) (hr : PA X es (tU X.K X.w O r)) (hs : starEach (e :: es) X.env = (false, eval e X.env) :: starEach es X.env := by rfl) : PA X (e :: es) (tU X.K X.w O (uF f r)) := du_f ha hr hs
theorem w_uo (i : Nat) {x : Str} {r : UF} (hr : PA X es (tU X.K X.w O r)) (hN : X.N[i]? = some x := by rfl) (hv : Vis X.env.scope x := by first | exact .inl rfl | exact .inr (.inl rfl) | exact .inr (.inr rfl)) (ho : O i = true := by rfl) (hd : (x == ("__debug__" : Str)) = false := by decide) (hcd : (x == ("__classdict__" : Str)) = false := by decide)
    (hs : starEach ((.Name x p) :: es) X.env = (false, eval (.Name x p) X.env) :: starEach es X.env := by rfl) : PA X ((.Name x p) :: es) (tU X.K X.w O (uO i r)) := du_o hN hv ho hd hcd hr hs
theorem w_ut {f : EF} {r : UF} (ha : PE X e (tO X.K X.w O f)) (hr : PA X es (tU X.K X.w O r)) (hs : starEach (e :: es) X.env = (false, eval e X.env) :: starEach es X.env := by rfl) : PA X (e :: es) (tU X.K X.w O (uT f r)) := du_t ha hr hs
theorem w_bi {id : String} {r : List V → Hp → VK → Prop} {x : Str} {af : AF} {g : List D → Option D} (hc : CallR X (.builtin id) r) (ok : OkA X.K X.w r g) (hm : X.mg x = none) (hv : bootBuiltins x = some (.builtin id)) (ha : PA X (e :: es) (tA X.K X.w O af))
    (hg : Gl X x := by rfl) (hn : x ≠ "__name__" := by decide) (hdb : (x == ("__debug__" : Str)) = false := by decide) (he : starEach (e :: es) X.env = (false, eval e X.env) :: starEach es X.env := by rfl) (hpl : (backTo pos (starEach es X.env)).any (·.1) = false := by rfl) :
    PE X (.Call (.Name x p) (e :: es) [] pos) (tE X.K X.w O (eA g af)) := de_callB hc ok hg hm hv ha hn hdb he hpl
theorem w_ty {id : String} {r : List V → Hp → VK → Prop} {x : Str} {af : AF} {g : List D → Option D} (hc : CallR X (.type id) r) (ok : OkA X.K X.w r g) (hm : X.mg x = none) (hv : bootBuiltins x = some (.type id)) (ha : PA X (e :: es) (tA X.K X.w O af))
    (hg : Gl X x := by rfl) (hn : x ≠ "__name__" := by decide) (hdb : (x == ("__debug__" : Str)) = false := by decide) (he : starEach (e :: es) X.env = (false, eval e X.env) :: starEach es X.env := by rfl) (hpl : (backTo pos (starEach es X.env)).any (·.1) = false := by rfl) :
    PE X (.Call (.Name x p) (e :: es) [] pos) (tE X.K X.w O (eA g af)) := de_callT hc ok hg hm hv ha hn hdb he hpl
theorem w_isi {T : String} {x : Str} {q : QF} (hm : X.mg "isinstance" = none) (hmt : X.mg x = none) (he : PE X e (tQ X.K X.w O q)) (hT : T = "int" ∨ T = "bool" ∨ T = "str" ∨ T = "tuple" ∨ T = "list" := by decide) (hvt : bootBuiltins x = some (.type T) := by decide +kernel)
    (hg : Gl X "isinstance" := by rfl) (hgt : Gl X x := by rfl) (hn : x ≠ "__name__" := by decide) (hdb : (x == ("__debug__" : Str)) = false := by decide) (h1 : starEach (e :: [.Name x p2]) X.env = (false, eval e X.env) :: starEach [.Name x p2] X.env := by rfl) :
    PE X (.Call (.Name "isinstance" p) [e, .Name x p2] [] pos) (tE X.K X.w O (eIsi T q)) := de_isi hT hg hm hgt hmt hvt hn hdb he h1
theorem w_call {x : Str} {k kk : Nat} {sg : Sig} {S : SemF} {u : UF} (C : Cal X.prog X.w X.K X.mg X.base x k sg S) (hr : Room kk X.A) (ha : PA X (e :: es) (tU X.K X.w O u)) (hle : k ≤ kk := by decide) (hro : sg.ro = false := by rfl)
    (hg : Gl X x := by rfl) (hdb : (x == ("__debug__" : Str)) = false := by decide) (he : starEach (e :: es) X.env = (false, eval e X.env) :: starEach es X.env := by rfl) (hpl : (backTo pos (starEach es X.env)).any (·.1) = false := by rfl) :
    PE X (.Call (.Name x p) (e :: es) [] pos) (tE X.K X.w O (eCallS sg S u)) := by
  obtain ⟨f, fd, ps, F, hm, hk, hb⟩ := C.ex
  exact de_call F (hr.mono hle) hg hm hk hb .nil (fun _ _ => .nil) hro rfl ha hdb he hpl
theorem w_callO {x : Str} {k kk : Nat} {sg : Sig} {S : SemF} {u : UF} (C : Cal X.prog X.w X.K X.mg X.base x k sg S) (hr : Room kk X.A) (ha : PA X (e :: es) (tU X.K X.w O u)) (hle : k ≤ kk := by decide) (hro : sg.ro = true := by rfl)
    (hg : Gl X x := by rfl) (hdb : (x == ("__debug__" : Str)) = false := by decide) (he : starEach (e :: es) X.env = (false, eval e X.env) :: starEach es X.env := by rfl) (hpl : (backTo pos (starEach es X.env)).any (·.1) = false := by rfl) :
    PE X (.Call (.Name x p) (e :: es) [] pos) (tO X.K X.w O (eCallS sg S u)) := by
  obtain ⟨f, fd, ps, F, hm, hk, hb⟩ := C.ex
  exact do_call F (hr.mono hle) hg hm hk hb .nil (fun _ _ => .nil) hro rfl ha hdb he hpl
theorem w_app (i : Nat) {x : Str} {apos : Pos} {f : EF} (ha : PE X e (tE X.K X.w O f)) (hN : X.N[i]? = some x := by rfl) (hv : Vis X.env.scope x := by first | exact .inl rfl | exact .inr (.inl rfl) | exact .inr (.inr rfl)) (ho : O i = true := by rfl) (hd : (x == ("__debug__" : Str)) = false := by decide) (hcd : (x == ("__classdict__" : Str)) = false := by decide)
    (hs : starEach (e :: []) X.env = (false, eval e X.env) :: starEach [] X.env := by rfl) (hbase : attributeBase (.Name x p) "append" X.env (eval (.Name x p) X.env) = eval (.Name x p) X.env := by rfl)
    (hfew : ((backTo pos (starEach (e :: []) X.env)).all (fun x => !x.1) && (backToKw pos (keywordEach [] X.env)).all (fun x => x.1.isSome) && decide ((e :: []).length + ([] : List Keyword).length + (if ([] : List Keyword).isEmpty then 0 else 1) < 30)) = true := by rfl)
    (hline : (apos.endLine == pos.line) = true := by rfl) : PE X (.Call (.Attribute (.Name x p) "append" apos) [e] [] pos) (tE X.K X.w O (mApp i f)) := de_app hN hv ho hd hcd ha hs hbase hfew hline
theorem w_ext (i : Nat) {x : Str} {apos : Pos} {f : EF} (ha : PE X e (tE X.K X.w O f)) (hN : X.N[i]? = some x := by rfl) (hv : Vis X.env.scope x := by first | exact .inl rfl | exact .inr (.inl rfl) | exact .inr (.inr rfl)) (ho : O i = true := by rfl) (hd : (x == ("__debug__" : Str)) = false := by decide) (hcd : (x == ("__classdict__" : Str)) = false := by decide)
    (hs : starEach (e :: []) X.env = (false, eval e X.env) :: starEach [] X.env := by rfl) (hbase : attributeBase (.Name x p) "extend" X.env (eval (.Name x p) X.env) = eval (.Name x p) X.env := by rfl)
    (hfew : ((backTo pos (starEach (e :: []) X.env)).all (fun x => !x.1) && (backToKw pos (keywordEach [] X.env)).all (fun x => x.1.isSome) && decide ((e :: []).length + ([] : List Keyword).length + (if ([] : List Keyword).isEmpty then 0 else 1) < 30)) = true := by rfl)
    (hline : (apos.endLine == pos.line) = true := by rfl) : PE X (.Call (.Attribute (.Name x p) "extend" apos) [e] [] pos) (tE X.K X.w O (mExt i f)) := de_ext hN hv ho hd hcd ha hs hbase hfew hline
theorem w_pop (i : Nat) {x : Str} {apos : Pos} (hN : X.N[i]? = some x := by rfl) (hv : Vis X.env.scope x := by first | exact .inl rfl | exact .inr (.inl rfl) | exact .inr (.inr rfl)) (ho : O i = true := by rfl) (hd : (x == ("__debug__" : Str)) = false := by decide) (hcd : (x == ("__classdict__" : Str)) = false := by decide)
    (hbase : attributeBase (.Name x p) "pop" X.env (eval (.Name x p) X.env) = eval (.Name x p) X.env := by rfl)
    (hline : (apos.endLine == pos.line) = true := by rfl) : PE X (.Call (.Attribute (.Name x p) "pop" apos) [] [] pos) (tE X.K X.w O (mPop i)) := de_pop hN hv ho hd hcd hbase hline
theorem w_popAt (i : Nat) {x : Str} {apos : Pos} {f : EF} (ha : PE X e (tE X.K X.w O f)) (hN : X.N[i]? = some x := by rfl) (hv : Vis X.env.scope x := by first | exact .inl rfl | exact .inr (.inl rfl) | exact .inr (.inr rfl)) (ho : O i = true := by rfl) (hd : (x == ("__debug__" : Str)) = false := by decide) (hcd : (x == ("__classdict__" : Str)) = false := by decide)
    (hs : starEach (e :: []) X.env = (false, eval e X.env) :: starEach [] X.env := by rfl) (hbase : attributeBase (.Name x p) "pop" X.env (eval (.Name x p) X.env) = eval (.Name x p) X.env := by rfl)
    (hfew : ((backTo pos (starEach (e :: []) X.env)).all (fun x => !x.1) && (backToKw pos (keywordEach [] X.env)).all (fun x => x.1.isSome) && decide ((e :: []).length + ([] : List Keyword).length + (if ([] : List Keyword).isEmpty then 0 else 1) < 30)) = true := by rfl)
    (hline : (apos.endLine == pos.line) = true := by rfl) : PE X (.Call (.Attribute (.Name x p) "pop" apos) [e] [] pos) (tE X.K X.w O (mPopAt i f)) := de_popAt hN hv ho hd hcd ha hs hbase hfew hline
theorem w_lset (i : Nat) {x : Str} {o : Expr} {fi fe : EF} (hN : X.N[i]? = some x := by rfl) (hv : Vis X.env.scope x := by first | exact .inl rfl | exact .inr (.inl rfl) | exact .inr (.inr rfl)) (ho : O i = true := by rfl) (hd : (x == ("__debug__" : Str)) = false := by decide) (hcd : (x == ("__classdict__" : Str)) = false := by decide)
    (hi : PE X o (tE X.K X.w O fi)) (he : PE X e (tE X.K X.w O fe))
    (ha : ∀ v, assign (.Subscript (.Name x p) o pos') X.env v = (do
      let ov ← holding [v] (eval (.Name x p) X.env)
      let iv ← holding [v, ov] (eval o X.env)
      standAt pos'
      holding [v, ov, iv] (setItem ov iv v)
      release [v, ov, iv] []) := by intro _; rfl)
    (hs : swapsWithSole [.Subscript (.Name x p) o pos'] e pos.line X.env = pure false := by rfl) (hw : swappedStores [.Subscript (.Name x p) o pos'] e X.env = pure none := by rfl)
    (h1 : (assignEach [.Subscript (.Name x p) o pos'] X.env).map (·.2) = [assign (.Subscript (.Name x p) o pos') X.env] := by rfl) :
    PS X (.Assign [.Subscript (.Name x p) o pos'] e pos) (tS X.K X.w O P ro (sLSet i fi fe)) := ds_lset hN hv ho hd hcd hi he ha hs hw h1
theorem w_ex {f : EF} (h : PE X e (tE X.K X.w O f)) (hs : swapsWith e none pos.line X.env = pure false := by rfl) : PS X (.Expr e pos) (tS X.K X.w O P ro (sEx f)) := ds_expr h hs
theorem w_set (i : Nat) {x : Str} {f : EF} (hN : X.N.Nodup) (he : PE X e (tE X.K X.w O f)) (hi : X.N[i]? = some x := by rfl) (hx : Loc X.env.scope x := by first | exact .inl rfl | exact .inr rfl) (ho : O i = false := by rfl) (hp : P i = false := by rfl) (hs : swapsWith e (some (.Name x pos')) pos.line X.env = pure false := by rfl)
    (hf : X.fn x = true ∨ X.env.scope.names.lookup x = some .local := by first | exact .inl rfl | exact .inr rfl) : PS X (.Assign [.Name x pos'] e pos) (tS X.K X.w O P ro (sSet i f)) := ds_set hN hi hx ho hp he hs hf
theorem w_setO (i : Nat) {x : Str} {f : EF} (hN : X.N.Nodup) (he : PE X e (tO X.K X.w O f)) (hi : X.N[i]? = some x := by rfl) (hx : Loc X.env.scope x := by first | exact .inl rfl | exact .inr rfl) (ho : O i = true := by rfl) (hp : P i = false := by rfl) (hs : swapsWith e (some (.Name x pos')) pos.line X.env = pure false := by rfl)
    (hf : X.fn x = true ∨ X.env.scope.names.lookup x = some .local := by first | exact .inl rfl | exact .inr rfl) : PS X (.Assign [.Name x pos'] e pos) (tS X.K X.w O P ro (sSet i f)) := ds_setO hN hi hx ho hp he hs hf
theorem w_gn (i : Nat) {x : Str} (hN : X.N.Nodup) (hi : X.N[i]? = some x := by rfl) (hx : Loc X.env.scope x := by first | exact .inl rfl | exact .inr rfl) (ho : O i = false := by rfl) (hp : P i = false := by rfl) (hf : X.fn x = true ∨ X.env.scope.names.lookup x = some .local := by first | exact .inl rfl | exact .inr rfl) :
    PG X (.Name x pos) (tG X.K X.w O P (gN i)) := dg_name hN hi hx ho hp hf
theorem w_gc {g : GF} {gs : List D → Env → Option Env} (h1 : PG X e (tG X.K X.w O P g)) (h2 : PGs X es (tGs X.K X.w O P gs)) (hs : (assignEach (e :: es) X.env).map (·.2) = assign e X.env :: (assignEach es X.env).map (·.2) := by rfl) :
    PGs X (e :: es) (tGs X.K X.w O P (gsC g gs)) := dgs_cons h1 h2 hs
theorem w_gt {gs : List D → Env → Option Env} {n k : Nat} (h : PGs X es (tGs X.K X.w O P gs)) (hl : ∀ ds env e, gs ds env = some e → ds.length = n) (hc : X.calm = true := by rfl) (hn : (assignEach es X.env).length = n := by rfl) (hst : (assignEach es X.env).findIdx? (·.1) = none := by rfl) :
    PG X (.Tuple es k pos) (tG X.K X.w O P (gT gs)) := dg_tup hc h hl hn hst
theorem w_gu {gs : List D → Env → Option Env} {n k : Nat} (h : PGs X es (tGs X.K X.w O P gs)) (hl : ∀ ds env e, gs ds env = some e → ds.length = n) (hc : X.calm = true := by rfl) (hn : (assignEach es X.env).length = n := by rfl) (hst : (assignEach es X.env).findIdx? (·.1) = none := by rfl) :
    PG X (.Tuple es k pos) (tG X.K X.w O P (gU gs)) := dg_unl hc h hl hn hst
theorem w_asg {tg : Expr} {g : GF} {f : EF} (he : PE X e (tE X.K X.w O f)) (hg : PG X tg (tG X.K X.w O P g)) (hs : swapsWithSole [tg] e pos.line X.env = pure false := by rfl) (hw : swappedStores [tg] e X.env = pure none := by rfl)
    (h1 : (assignEach [tg] X.env).map (·.2) = [assign tg X.env] := by rfl) : PS X (.Assign [tg] e pos) (tS X.K X.w O P ro (sAsg g f)) := ds_asg he hg hs hw h1
theorem w_for {iter tg : Expr} {body : List Stmt} {wf : WF} {g : GF} {f : SF} (hi : PI X tg iter (tI X.K X.w O wf)) (hg : PG X tg (tG X.K X.w O P g)) (hb : PSs X body (tS X.K X.w O P ro f)) (hp : PassesOwn (model X.prog X.w) X.A X.env X.xe := by exact PassesOwn.never) (hc : X.calm = true := by rfl)
    (hs : ∀ x, foldedSetIterable iter X.env x = pure x := by intro _; rfl) : PS X (.For tg iter body [] pos) (tS X.K X.w O P ro (sFor wf g f)) := ds_for hp hc hi hg hb hs
theorem w_while {body : List Stmt} {t : TF} {f : SF} (hc : PT X c (tT X.K X.w O t)) (hb : PSs X body (tS X.K X.w O P ro f)) (hp : PassesOwn (model X.prog X.w) X.A X.env X.xe := by exact PassesOwn.never) : PS X (.While c body [] pos) (tS X.K X.w O P ro (sWhile t f)) := ds_while hp hc hb
theorem w_rg1 {tg : Expr} {f : EF} (hm : X.mg "range" = none) (h : PE X e (tE X.K X.w O f)) (hg : Gl X "range" := by rfl) (hs : starEach [e] X.env = [(false, eval e X.env)] := by rfl) : PI X tg (.Call (.Name "range" p) [e] [] pos) (tI X.K X.w O (wRg1 f)) := di_rg1 hg hm h hs
theorem w_rg2 {tg : Expr} {f g : EF} (hm : X.mg "range" = none) (ha : PE X a (tE X.K X.w O f)) (hb : PE X b (tE X.K X.w O g)) (hg : Gl X "range" := by rfl) (hs : starEach [a, b] X.env = [(false, eval a X.env), (false, eval b X.env)] := by rfl) (hs2 : starEach [b] X.env = [(false, eval b X.env)] := by rfl) :
    PI X tg (.Call (.Name "range" p) [a, b] [] pos) (tI X.K X.w O (wRg2 f g)) := di_rg2 hg hm ha hb hs hs2
theorem w_en {f : EF} {elts : List Expr} {kk : Nat} {tpos : Pos} (hm : X.mg "enumerate" = none) (h : PE X e (tE X.K X.w O f)) (hg : Gl X "enumerate" := by rfl) (hs : starEach [e] X.env = [(false, eval e X.env)] := by rfl) :
    PI X (.Tuple elts kk tpos) (.Call (.Name "enumerate" p) [e] [] pos) (tI X.K X.w O (wEn f)) := di_enum hg hm h hs
theorem w_zip {e2 : Expr} {pos2 : Pos} {qa qb : QF} (hml : X.mg "list" = none) (hm : X.mg "zip" = none) (ha : PE X e (tQ X.K X.w O qa)) (hb : PE X e2 (tQ X.K X.w O qb)) (hc : X.calm = true := by rfl) (hgl : Gl X "list" := by rfl) (hg : Gl X "zip" := by rfl)
    (hs : starEach [e, e2] X.env = (false, eval e X.env) :: starEach [e2] X.env := by rfl) (hs2 : starEach [e2] X.env = (false, eval e2 X.env) :: starEach [] X.env := by rfl) (hpl : (backTo pos2 (starEach [e2] X.env)).any (·.1) = false := by rfl)
    (h1 : starEach [.Call (.Name "zip" p2) [e, e2] [] pos2] X.env = (false, eval (.Call (.Name "zip" p2) [e, e2] [] pos2) X.env) :: starEach [] X.env := by rfl) :
    PE X (.Call (.Name "list" p) [.Call (.Name "zip" p2) [e, e2] [] pos2] [] pos) (tO X.K X.w O (eZip qa qb)) := do_zip hc hgl hml hg hm ha hb hs hs2 hpl h1
theorem w_lcomp {elt tg iter : Expr} {ifs : List Expr} {scope : Scope} {wf : WF} {g : GF} {t : TF} {f : EF} (N0 : List Str) (sc0 : Scope) (own : List (Str × Nat)) (hN : N0.Nodup) (hi : PI X tg iter (tI X.K X.w O wf))
    (hg : ∀ (s : Shared) (H : Hp) (C : Addr) (cl : List (Str × Addr)) (fp : List Addr), PG (X.blk s H scope (compEnvC scope cl C X.env) fp) tg (tG X.K X.w O (fun j => !(own.map (·.2)).contains j) g))
    (ht : ∀ (s : Shared) (H : Hp) (C : Addr) (cl : List (Str × Addr)) (fp : List Addr), PTs (X.blk s H scope (compEnvC scope cl C X.env) fp) ifs (tT X.K X.w O t))
    (he : ∀ (s : Shared) (H : Hp) (C : Addr) (cl : List (Str × Addr)) (fp : List Addr), PE (X.blk s H scope (compEnvC scope cl C X.env) fp) elt (tE X.K X.w O f))
    (hgl : ∀ d env e, g d env = some e → e.length = env.length) (eN : X.N = N0 := by rfl) (eS : X.env.scope = sc0 := by rfl) (ok : BlkOk N0 sc0 scope own := by exact ⟨rfl, by decide +kernel, by decide +kernel, by decide +kernel, by decide +kernel⟩) (hc : X.calm = true := by rfl) (hs : ∀ x, foldedSetIterable iter X.env x = pure x := by intro _; rfl)
    (hv : ∀ v ∈ own.map (·.2), O v = false := by decide) : PE X (.ListComp elt [⟨tg, iter, ifs, 0⟩] scope pos) (tO X.K X.w O (eLc wf (own.map (·.2)) g t f)) := do_lc hc (by rw [eN]; exact hN) hi (by rw [eN, eS]; exact ok) hg ht he hs hv hgl
/-! ### own exceptions -/
theorem w_xa {f : Str} {f0 : EF} {Cs : List Addr} (kl : ∀ C ∈ Cs, ∃ newId bmB, XcC X.K C newId bmB ∧ PySem.W.findIn X.K (.ref C) f = some none) (he : PE X e (tE X.K X.w O f0)) (hb : attributeBase e f X.env (eval e X.env) = eval e X.env := by rfl) :
    PE X (.Attribute e f pos) (tE X.K X.w O (eXa Cs f f0)) := de_xa Cs kl he hb
theorem w_isXc {x : Str} {f0 : EF} {D : Addr} {Cs : List Addr} (kl : ∀ C ∈ Cs, ∃ newId bmB, XcC X.K C newId bmB) (hm : X.mg "isinstance" = none) (hD : X.mg x = some (.ref D)) (he : PE X e (tE X.K X.w O f0)) (hg : Gl X "isinstance" := by rfl) (hgx : Gl X x := by rfl)
    (hdb : (x == ("__debug__" : Str)) = false := by decide) (h1 : starEach (e :: [.Name x p2]) X.env = (false, eval e X.env) :: starEach [.Name x p2] X.env := by rfl) (h2 : starEach [.Name x p2] X.env = (false, eval (.Name x p2) X.env) :: starEach [] X.env := by rfl) :
    PE X (.Call (.Name "isinstance" p) [e, .Name x p2] [] pos) (tE X.K X.w O (eIsX X.K Cs (.ref D) f0)) :=
  de_isX (c := .ref D) Cs kl hg hm (pe_glob hgx hD rfl hdb) (fun _ r => r) he h1 h2
theorem w_isXt {x : Str} {T : String} {f0 : EF} {Cs : List Addr} (kl : ∀ C ∈ Cs, ∃ newId bmB, XcC X.K C newId bmB) (hm : X.mg "isinstance" = none) (hx : X.mg x = none) (he : PE X e (tE X.K X.w O f0)) (hv : bootBuiltins x = some (.type T) := by decide +kernel) (hg : Gl X "isinstance" := by rfl) (hgx : Gl X x := by rfl)
    (hn : x ≠ "__name__" := by decide) (hdb : (x == ("__debug__" : Str)) = false := by decide) (h1 : starEach (e :: [.Name x p2]) X.env = (false, eval e X.env) :: starEach [.Name x p2] X.env := by rfl) (h2 : starEach [.Name x p2] X.env = (false, eval (.Name x p2) X.env) :: starEach [] X.env := by rfl) :
    PE X (.Call (.Name "isinstance" p) [e, .Name x p2] [] pos) (tE X.K X.w O (eIsX X.K Cs (.type T) f0)) :=
  de_isX (c := .ty T) Cs kl hg hm (pe_bltn (v := .ty T) hgx hx hv rfl hn hdb) (fun _ r => r) he h1 h2
end
/-- a class of own exceptions as a callee: its __init__ keeps sp; bound by gV -/
structure CalX (P : Program) (w : World) (K : PySem.W.Frag) (mg : Str → Option Value) (base : Heap) (x : Str) (C : Addr) (initId : String) (k : Nat) (sp : Sp) (np : Nat) (ks : List Str) (gV : List V → List V → List V) : Prop where
  ex : ∃ Bn B newId bmB fI fd ps g, BaseX Bn B newId initId bmB ∧ XcC K C newId bmB ∧ PySem.W.findIn K (.ref C) "__init__" = some (some (.ref fI)) ∧ PySem.W.typeIn K (.ref fI) = some (.type "function") ∧ FnOk P w K mg base CX0 k fI fd ps sp ∧ KBn K fd ps np ks g gV ∧ mg x = some (.ref C)
section
variable {X : Cx} {O P : Nat → Bool} {e : Expr} {es : List Expr} {pos p : Pos} {x f f2 : Str} {C : Addr} {initId : String} {k kk : Nat} {a : LF} {ks : List Str} {kws : List Keyword}
theorem pass00 : Passes CX0 X (fun _ _ _ => False) := pass0
theorem w_mk1 (c : CalX X.prog X.w X.K X.mg X.base x C initId k (spI1 X.K initId f) 2 [] fun vs _ => vs) (hf : PySem.W.findIn X.K (.ref C) f = some none) (hr : Room kk X.A) (ha : PA X (e :: es) (tF X.K X.w O a)) (hle : k + 1 ≤ kk := by decide) (hg : Gl X x := by rfl)
    (hdb : (x == ("__debug__" : Str)) = false := by decide) (he : starEach (e :: es) X.env = (false, eval e X.env) :: starEach es X.env := by rfl) (hpl : (backTo pos (starEach es X.env)).any (·.1) = false := by rfl) :
    PE X (.Call (.Name x p) (e :: es) [] pos) (tE X.K X.w O (eMk1 C f a)) := by
  obtain ⟨Bn, B, newId, bmB, fI, fd, ps, g, BX, T, i, t, F, kb, hm⟩ := c.ex
  exact de_mk1 (E := fun _ _ _ => False) pass0 BX T i t F (hr.mono hle) kb hf hg hm ha hdb he hpl
theorem w_mk2 (c : CalX X.prog X.w X.K X.mg X.base x C initId k (spI2 X.K initId f f2) 3 [] fun vs _ => vs) (hf : PySem.W.findIn X.K (.ref C) f = some none) (hf2 : PySem.W.findIn X.K (.ref C) f2 = some none) (hr : Room kk X.A) (ha : PA X (e :: es) (tF X.K X.w O a)) (hle : k + 1 ≤ kk := by decide)
    (hg : Gl X x := by rfl) (hdb : (x == ("__debug__" : Str)) = false := by decide) (he : starEach (e :: es) X.env = (false, eval e X.env) :: starEach es X.env := by rfl) (hpl : (backTo pos (starEach es X.env)).any (·.1) = false := by rfl) :
    PE X (.Call (.Name x p) (e :: es) [] pos) (tE X.K X.w O (eMk2 C f f2 a)) := by
  obtain ⟨Bn, B, newId, bmB, fI, fd, ps, g, BX, T, i, t, F, kb, hm⟩ := c.ex
  exact de_mk2 (E := fun _ _ _ => False) pass0 BX T i t F (hr.mono hle) kb hf hf2 hg hm ha hdb he hpl
theorem w_mk0 (c : CalX X.prog X.w X.K X.mg X.base x C initId k (spI0 X.K initId) 1 [] fun vs _ => vs) (hr : Room kk X.A) (hle : k + 1 ≤ kk := by decide) (hg : Gl X x := by rfl) (hdb : (x == ("__debug__" : Str)) = false := by decide) :
    PE X (.Call (.Name x p) [] [] pos) (tE X.K X.w O (eMk0 C)) := by
  obtain ⟨Bn, B, newId, bmB, fI, fd, ps, g, BX, T, i, t, F, kb, hm⟩ := c.ex
  exact de_mk0 (E := fun _ _ _ => False) pass0 BX T i t F (hr.mono hle) kb hg hm hdb
theorem w_mk1k (c : CalX X.prog X.w X.K X.mg X.base x C initId k (spI1 X.K initId f) 1 ks fun vs zs => vs ++ zs) (hf : PySem.W.findIn X.K (.ref C) f = some none) (hr : Room kk X.A) (ha : PK X kws (tF X.K X.w O a)) (hl : ks.length = 1 := by rfl) (hle : k + 1 ≤ kk := by decide) (hg : Gl X x := by rfl)
    (hall : (backToKw pos (keywordEach kws X.env)).all (·.1.isSome) = true := by rfl) (hks : (backToKw pos (keywordEach kws X.env)).filterMap (·.1) = ks := by rfl)
    (hdb : (x == ("__debug__" : Str)) = false := by decide) (hpl : ((backTo pos (starEach [] X.env)).any (·.1) || (backToKw pos (keywordEach kws X.env)).any (·.1.isNone)) = false := by rfl) :
    PE X (.Call (.Name x p) [] kws pos) (tE X.K X.w O (eMk1 C f a)) := by
  obtain ⟨Bn, B, newId, bmB, fI, fd, ps, g, BX, T, i, t, F, kb, hm⟩ := c.ex
  exact de_mk1k (E := fun _ _ _ => False) pass0 BX T i t F (hr.mono hle) kb hl hf hg hm ha hall hks hdb hpl
theorem w_mk2k (c : CalX X.prog X.w X.K X.mg X.base x C initId k (spI2 X.K initId f f2) 1 ks fun vs zs => vs ++ zs) (hf : PySem.W.findIn X.K (.ref C) f = some none) (hf2 : PySem.W.findIn X.K (.ref C) f2 = some none) (hr : Room kk X.A) (ha : PK X kws (tF X.K X.w O a)) (hl : ks.length = 2 := by rfl) (hle : k + 1 ≤ kk := by decide)
    (hg : Gl X x := by rfl) (hall : (backToKw pos (keywordEach kws X.env)).all (·.1.isSome) = true := by rfl) (hks : (backToKw pos (keywordEach kws X.env)).filterMap (·.1) = ks := by rfl)
    (hdb : (x == ("__debug__" : Str)) = false := by decide) (hpl : ((backTo pos (starEach [] X.env)).any (·.1) || (backToKw pos (keywordEach kws X.env)).any (·.1.isNone)) = false := by rfl) :
    PE X (.Call (.Name x p) [] kws pos) (tE X.K X.w O (eMk2 C f f2 a)) := by
  obtain ⟨Bn, B, newId, bmB, fI, fd, ps, g, BX, T, i, t, F, kb, hm⟩ := c.ex
  exact de_mk2k (E := fun _ _ _ => False) pass0 BX T i t F (hr.mono hle) kb hl hf hf2 hg hm ha hall hks hdb hpl
theorem w_mk2r (c : CalX X.prog X.w X.K X.mg X.base x C initId k (spI2 X.K initId f f2) 1 ks fun vs zs => vs ++ zs.reverse) (hf : PySem.W.findIn X.K (.ref C) f = some none) (hf2 : PySem.W.findIn X.K (.ref C) f2 = some none) (hr : Room kk X.A) (ha : PK X kws (tF X.K X.w O a)) (hl : ks.length = 2 := by rfl) (hle : k + 1 ≤ kk := by decide)
    (hg : Gl X x := by rfl) (hall : (backToKw pos (keywordEach kws X.env)).all (·.1.isSome) = true := by rfl) (hks : (backToKw pos (keywordEach kws X.env)).filterMap (·.1) = ks := by rfl)
    (hdb : (x == ("__debug__" : Str)) = false := by decide) (hpl : ((backTo pos (starEach [] X.env)).any (·.1) || (backToKw pos (keywordEach kws X.env)).any (·.1.isNone)) = false := by rfl) :
    PE X (.Call (.Name x p) [] kws pos) (tE X.K X.w O (eMk2r C f f2 a)) := by
  obtain ⟨Bn, B, newId, bmB, fI, fd, ps, g, BX, T, i, t, F, kb, hm⟩ := c.ex
  exact de_mk2r (E := fun _ _ _ => False) pass0 BX T i t F (hr.mono hle) kb hl hf hf2 hg hm ha hall hks hdb hpl
theorem dk_nil : PK X [] (tF X.K X.w O lN) := by
  refine ⟨fun pos pins s σ H Q I h => pk_nil.run pos pins s σ H Q I ?_⟩
  obtain ⟨Z, F, env, rs, env1, s, e, k⟩ := h
  cases e
  exact k [] Z F H s Step.refl .nil
theorem w_kc {f0 : EF} {r : LF} {n : Option Str} {kp : Pos} (ha : PE X e (tE X.K X.w O f0)) (hr : PK X kws (tF X.K X.w O r)) : PK X (⟨n, e, kp⟩ :: kws) (tF X.K X.w O (lC f0 r)) := by
  refine ⟨fun pos pins s σ H Q I h => (pk_cons ha hr).run pos pins s σ H Q I ?_⟩
  obtain ⟨Z, F, env, ds, env1, s, e, k⟩ := h
  obtain ⟨⟨d, ea⟩, q1, e⟩ := Option.bind_eq_some_iff.mp e
  obtain ⟨⟨rb, eb⟩, q2, e⟩ := Option.map_eq_some_iff.mp e
  cases e
  refine ⟨Z, F, env, d, ea, s, q1, fun v Z1 F1 H1 s1 t1 h1 => ⟨Z1, F1, ea, rb, eb, s1, q2, fun vs Z2 F2 H2 s2 t2 h2 => ?_⟩⟩
  exact k (v :: vs) Z2 F2 H2 s2 (t1.trans t2) (.cons (h1.kp (s1.kp t2)) h2)
end
/-! ### a def's binds by name, without defaults -/
theorem kbn_of {K : PySem.W.Frag} {x qual : Str} {params : Arguments} {body : List Stmt} {scope : Scope} {f : Addr} {fd : FuncData} {ps : List Str} (F : FunD K x qual params body scope [] [] f fd) (n : Nat) (ks : List Str) (g : {α : Type} → List α → List α → List α)
    (hrel : ∀ {vs zs : List V} {us ws : List Value}, Vals vs us → Vals zs ws → Vals (g vs zs) (g us ws))
    (h : ∀ (kV doc pm : Value) (an : Option Addr) (cdv ct : Value) (us ws : List Value), us.length = n → ws.length = ks.length → bindArgs (PySem.W.fnOf x qual params body scope .none kV doc pm an cdv ct) ⟨us, ks.zip ws⟩ = pure (ps.zip (g us ws))) : KBn K fd ps n ks (fun us ws => g us ws) (fun vs zs => g vs zs) := by
  obtain ⟨oc, od, dV, kV, doc, pm, an, cdv, ct, osl, rfl, lk, hcd, hD, hK⟩ := F.ex
  rcases hD with ⟨_, rfl⟩ | ⟨e, _⟩
  · exact ⟨fun s us ws X l1 l2 => .of_eq (h kV doc pm an cdv ct us ws l1 l2), fun r1 r2 => hrel r1 r2⟩
  · exact absurd rfl e
/-! ### the bodies of __init__ -/
section
variable {K : PySem.W.Frag} {initId : String} {f g : Str}
theorem ini0 {σ : L2.St} {vs : List V} {H : Hp} {Q : VK} {E : XK} (h : spI0 K initId vs H Q E) (hσ : σ = vs.map some) : tDrop (tBi K initId (tCons (tVar 0) tNil)) { nx := fun _ H' => Q .non H', rt := Q } σ H := by
  obtain ⟨a, C, rfl, ⟨Bn, B, newId, bmB, BX, T⟩, ha, q⟩ := h
  subst hσ
  exact ⟨_, rfl, a, C, [], Bn, B, newId, bmB, rfl, by decide, BX, T, ha, q⟩
theorem ini1 {σ : L2.St} {vs : List V} {H : Hp} {Q : VK} {E : XK} (h : spI1 K initId f vs H Q E) (hσ : σ = vs.map some) :
    tSeq (tDrop (tBi K initId (tCons (tVar 0) (tCons (tVar 1) tNil)))) (tPut K f (tVar 0) (tVar 1)) { nx := fun _ H' => Q .non H', rt := Q } σ H := by
  obtain ⟨a, C, x, rfl, ⟨Bn, B, newId, bmB, BX, T⟩, hf, ha, q⟩ := h
  subst hσ
  refine ⟨_, rfl, _, rfl, a, C, [x], Bn, B, newId, bmB, rfl, (by show 1 ≤ 1000; decide), BX, T, ha, _, rfl, _, rfl, a, C, Bn, B, newId, initId, bmB, rfl, BX, T, hf, .inl ⟨ha, fun dx n ne => q dx n ne⟩⟩
theorem ini2 {σ : L2.St} {vs : List V} {H : Hp} {Q : VK} {E : XK} (h : spI2 K initId f g vs H Q E) (hσ : σ = vs.map some) :
    tSeq (tDrop (tBi K initId (tCons (tVar 0) (tCons (tVar 1) (tCons (tVar 2) tNil))))) (tSeq (tPut K f (tVar 0) (tVar 1)) (tPut K g (tVar 0) (tVar 2))) { nx := fun _ H' => Q .non H', rt := Q } σ H := by
  obtain ⟨a, C, x, y, rfl, ⟨Bn, B, newId, bmB, BX, T⟩, hf, hg, ha, q⟩ := h
  subst hσ
  refine ⟨_, rfl, _, rfl, _, rfl, a, C, [x, y], Bn, B, newId, bmB, rfl, (by show 2 ≤ 1000; decide), BX, T, ha, _, rfl, _, rfl, a, C, Bn, B, newId, initId, bmB, rfl, BX, T, hf, .inl ⟨ha, fun dx n ne => ?_⟩⟩
  refine ⟨_, rfl, _, rfl, a, C, Bn, B, newId, initId, bmB, rfl, BX, T, hg, .inr ⟨dx, [(f, x)], upd_same, ?_, (by show 1 ≤ 900; decide), q dx n ne⟩⟩
  rw [upd_ne ne, upd_same]
end
end Ev

end

noncomputable section
set_option Elab.async false
set_option linter.all false
set_option maxRecDepth 100000
set_option maxHeartbeats 0
namespace Lw
open PySem PySem.Spec PyProof.Rows L2 Ev
def topS (i : Nat) : Stmt := PySem.Challenge.pw_leastmaker_k01_refusals.main.body.getD i (.Pass ⟨0, 0, 0, 0⟩)
abbrev FnP (K : PySem.W.Frag) (x : Str) (st : Stmt) (f : Addr) (fd : FuncData) : Prop := FunD K x x (defArgs st) (defBody st) (defScope st) [] [] f fd
def clsB : Stmt → List Stmt
  | .ClassDef (body := b) .. => b
  | _ => []
def mth (i : Nat) : Stmt := (clsB (topS i)).getD 0 (.Pass ⟨0, 0, 0, 0⟩)
def Ks (K : PySem.W.Frag) : List Addr := [He.ga K "NoHead", He.ga K "NoProgram", He.ga K "NoText", He.ga K "NoStock", He.ga K "NoAnswer", He.ga K "NoInputs", He.ga K "Clash", He.ga K "NoRow", He.ga K "NoQuestion", He.ga K "NoDoer", He.ga K "NotKept", He.ga K "NoName"]
structure Gf (K : PySem.W.Frag) (mg : Str → Option Value) : Prop where
  nothing : True
  f_IndexError : mg "IndexError" = none
  f_KeyError : mg "KeyError" = none
  f_LookupError : mg "LookupError" = none
  f_ValueError : mg "ValueError" = none
  f_all : mg "all" = none
  f_bool : mg "bool" = none
  f_enumerate : mg "enumerate" = none
  f_isinstance : mg "isinstance" = none
  f_len : mg "len" = none
  f_list : mg "list" = none
  f_max : mg "max" = none
  f_range : mg "range" = none
  f_str : mg "str" = none
  f_tuple : mg "tuple" = none
  f_zip : mg "zip" = none
  g_MakeError : mg "MakeError" = some (.ref (He.ga K "MakeError"))
  g_NoHead : mg "NoHead" = some (.ref (He.ga K "NoHead"))
  g_NoProgram : mg "NoProgram" = some (.ref (He.ga K "NoProgram"))
  g_NoText : mg "NoText" = some (.ref (He.ga K "NoText"))
  g_NoStock : mg "NoStock" = some (.ref (He.ga K "NoStock"))
  g_NoAnswer : mg "NoAnswer" = some (.ref (He.ga K "NoAnswer"))
  g_NoInputs : mg "NoInputs" = some (.ref (He.ga K "NoInputs"))
  g_Clash : mg "Clash" = some (.ref (He.ga K "Clash"))
  g_NoRow : mg "NoRow" = some (.ref (He.ga K "NoRow"))
  g_NoQuestion : mg "NoQuestion" = some (.ref (He.ga K "NoQuestion"))
  g_NoDoer : mg "NoDoer" = some (.ref (He.ga K "NoDoer"))
  g_NotKept : mg "NotKept" = some (.ref (He.ga K "NotKept"))
  g_NoName : mg "NoName" = some (.ref (He.ga K "NoName"))
  x_ok : ∀ C ∈ Ks K, ∃ newId bmB, XcV.XcC K C newId bmB
  xa_answer : ∀ C ∈ Ks K, ∃ newId bmB, XcV.XcC K C newId bmB ∧ PySem.W.findIn K (.ref C) "answer" = some none
  xa_at : ∀ C ∈ Ks K, ∃ newId bmB, XcV.XcC K C newId bmB ∧ PySem.W.findIn K (.ref C) "at" = some none
  xa_inputs : ∀ C ∈ Ks K, ∃ newId bmB, XcV.XcC K C newId bmB ∧ PySem.W.findIn K (.ref C) "inputs" = some none
  xa_name : ∀ C ∈ Ks K, ∃ newId bmB, XcV.XcC K C newId bmB ∧ PySem.W.findIn K (.ref C) "name" = some none
  xa_number : ∀ C ∈ Ks K, ∃ newId bmB, XcV.XcC K C newId bmB ∧ PySem.W.findIn K (.ref C) "number" = some none
  xa_word : ∀ C ∈ Ks K, ∃ newId bmB, XcV.XcC K C newId bmB ∧ PySem.W.findIn K (.ref C) "word" = some none
  n_NoHead_word : PySem.W.findIn K (.ref (He.ga K "NoHead")) "word" = some none
  n_NoHead_at : PySem.W.findIn K (.ref (He.ga K "NoHead")) "at" = some none
  n_NoProgram_word : PySem.W.findIn K (.ref (He.ga K "NoProgram")) "word" = some none
  n_NoProgram_at : PySem.W.findIn K (.ref (He.ga K "NoProgram")) "at" = some none
  n_NoText_at : PySem.W.findIn K (.ref (He.ga K "NoText")) "at" = some none
  n_NoStock_word : PySem.W.findIn K (.ref (He.ga K "NoStock")) "word" = some none
  n_NoStock_at : PySem.W.findIn K (.ref (He.ga K "NoStock")) "at" = some none
  n_NoAnswer_answer : PySem.W.findIn K (.ref (He.ga K "NoAnswer")) "answer" = some none
  n_NoInputs_at : PySem.W.findIn K (.ref (He.ga K "NoInputs")) "at" = some none
  n_Clash_at : PySem.W.findIn K (.ref (He.ga K "Clash")) "at" = some none
  n_Clash_number : PySem.W.findIn K (.ref (He.ga K "Clash")) "number" = some none
  n_NoDoer_inputs : PySem.W.findIn K (.ref (He.ga K "NoDoer")) "inputs" = some none
  n_NotKept_number : PySem.W.findIn K (.ref (He.ga K "NotKept")) "number" = some none
  n_NoName_name : PySem.W.findIn K (.ref (He.ga K "NoName")) "name" = some none
structure Gi (K : PySem.W.Frag) (mg : Str → Option Value) : Prop extends Gf K mg where
  k_NoHead : ∃ Bn newId bmB, XcV.BaseX Bn "ValueError" newId "ValueError.__init__" bmB ∧ XcV.XcC K (He.ga K "NoHead") newId bmB
  i_NoHead : PySem.W.findIn K (.ref (He.ga K "NoHead")) "__init__" = some (some (.ref (He.fAd K ("NoHead", some "__init__"))))
  t_NoHead : PySem.W.typeIn K (.ref (He.fAd K ("NoHead", some "__init__"))) = some (.type "function")
  k_NoProgram : ∃ Bn newId bmB, XcV.BaseX Bn "ValueError" newId "ValueError.__init__" bmB ∧ XcV.XcC K (He.ga K "NoProgram") newId bmB
  i_NoProgram : PySem.W.findIn K (.ref (He.ga K "NoProgram")) "__init__" = some (some (.ref (He.fAd K ("NoProgram", some "__init__"))))
  t_NoProgram : PySem.W.typeIn K (.ref (He.fAd K ("NoProgram", some "__init__"))) = some (.type "function")
  k_NoText : ∃ Bn newId bmB, XcV.BaseX Bn "ValueError" newId "ValueError.__init__" bmB ∧ XcV.XcC K (He.ga K "NoText") newId bmB
  i_NoText : PySem.W.findIn K (.ref (He.ga K "NoText")) "__init__" = some (some (.ref (He.fAd K ("NoText", some "__init__"))))
  t_NoText : PySem.W.typeIn K (.ref (He.fAd K ("NoText", some "__init__"))) = some (.type "function")
  k_NoStock : ∃ Bn newId bmB, XcV.BaseX Bn "ValueError" newId "ValueError.__init__" bmB ∧ XcV.XcC K (He.ga K "NoStock") newId bmB
  i_NoStock : PySem.W.findIn K (.ref (He.ga K "NoStock")) "__init__" = some (some (.ref (He.fAd K ("NoStock", some "__init__"))))
  t_NoStock : PySem.W.typeIn K (.ref (He.fAd K ("NoStock", some "__init__"))) = some (.type "function")
  k_NoAnswer : ∃ Bn newId bmB, XcV.BaseX Bn "ValueError" newId "ValueError.__init__" bmB ∧ XcV.XcC K (He.ga K "NoAnswer") newId bmB
  i_NoAnswer : PySem.W.findIn K (.ref (He.ga K "NoAnswer")) "__init__" = some (some (.ref (He.fAd K ("NoAnswer", some "__init__"))))
  t_NoAnswer : PySem.W.typeIn K (.ref (He.fAd K ("NoAnswer", some "__init__"))) = some (.type "function")
  k_NoInputs : ∃ Bn newId bmB, XcV.BaseX Bn "ValueError" newId "ValueError.__init__" bmB ∧ XcV.XcC K (He.ga K "NoInputs") newId bmB
  i_NoInputs : PySem.W.findIn K (.ref (He.ga K "NoInputs")) "__init__" = some (some (.ref (He.fAd K ("NoInputs", some "__init__"))))
  t_NoInputs : PySem.W.typeIn K (.ref (He.fAd K ("NoInputs", some "__init__"))) = some (.type "function")
  k_Clash : ∃ Bn newId bmB, XcV.BaseX Bn "ValueError" newId "ValueError.__init__" bmB ∧ XcV.XcC K (He.ga K "Clash") newId bmB
  i_Clash : PySem.W.findIn K (.ref (He.ga K "Clash")) "__init__" = some (some (.ref (He.fAd K ("Clash", some "__init__"))))
  t_Clash : PySem.W.typeIn K (.ref (He.fAd K ("Clash", some "__init__"))) = some (.type "function")
  k_NoRow : ∃ Bn newId bmB, XcV.BaseX Bn "ValueError" newId "ValueError.__init__" bmB ∧ XcV.XcC K (He.ga K "NoRow") newId bmB
  i_NoRow : PySem.W.findIn K (.ref (He.ga K "NoRow")) "__init__" = some (some (.ref (He.fAd K ("NoRow", some "__init__"))))
  t_NoRow : PySem.W.typeIn K (.ref (He.fAd K ("NoRow", some "__init__"))) = some (.type "function")
  k_NoQuestion : ∃ Bn newId bmB, XcV.BaseX Bn "LookupError" newId "LookupError.__init__" bmB ∧ XcV.XcC K (He.ga K "NoQuestion") newId bmB
  i_NoQuestion : PySem.W.findIn K (.ref (He.ga K "NoQuestion")) "__init__" = some (some (.ref (He.fAd K ("NoQuestion", some "__init__"))))
  t_NoQuestion : PySem.W.typeIn K (.ref (He.fAd K ("NoQuestion", some "__init__"))) = some (.type "function")
  k_NoDoer : ∃ Bn newId bmB, XcV.BaseX Bn "LookupError" newId "LookupError.__init__" bmB ∧ XcV.XcC K (He.ga K "NoDoer") newId bmB
  i_NoDoer : PySem.W.findIn K (.ref (He.ga K "NoDoer")) "__init__" = some (some (.ref (He.fAd K ("NoDoer", some "__init__"))))
  t_NoDoer : PySem.W.typeIn K (.ref (He.fAd K ("NoDoer", some "__init__"))) = some (.type "function")
  k_NotKept : ∃ Bn newId bmB, XcV.BaseX Bn "IndexError" newId "IndexError.__init__" bmB ∧ XcV.XcC K (He.ga K "NotKept") newId bmB
  i_NotKept : PySem.W.findIn K (.ref (He.ga K "NotKept")) "__init__" = some (some (.ref (He.fAd K ("NotKept", some "__init__"))))
  t_NotKept : PySem.W.typeIn K (.ref (He.fAd K ("NotKept", some "__init__"))) = some (.type "function")
  k_NoName : ∃ Bn newId bmB, XcV.BaseX Bn "KeyError" newId "KeyError.__init__" bmB ∧ XcV.XcC K (He.ga K "NoName") newId bmB
  i_NoName : PySem.W.findIn K (.ref (He.ga K "NoName")) "__init__" = some (some (.ref (He.fAd K ("NoName", some "__init__"))))
  t_NoName : PySem.W.typeIn K (.ref (He.fAd K ("NoName", some "__init__"))) = some (.type "function")
  b_IndexError : mg "IndexError" = none
  v_IndexError : PySem.W.findCls K (.type "IndexError") (.type "type") "__init__" = some (.val (.builtin "IndexError.__init__"))
  b_KeyError : mg "KeyError" = none
  v_KeyError : PySem.W.findCls K (.type "KeyError") (.type "type") "__init__" = some (.val (.builtin "KeyError.__init__"))
  b_LookupError : mg "LookupError" = none
  v_LookupError : PySem.W.findCls K (.type "LookupError") (.type "type") "__init__" = some (.val (.builtin "LookupError.__init__"))
  r_MakeError : ClX.CRead K (He.ga K "MakeError") (.type "type")
  v_MakeError : PySem.W.findCls K (.ref (He.ga K "MakeError")) (.type "type") "__init__" = some (.val (.builtin "ValueError.__init__"))
/-! class NoHead -/
theorem si_NoHead : FnScope ["self", "word", "at"] ["self", "word", "at"] (defScope (mth 2)) := ⟨rfl, rfl, rfl, by decide +kernel, rfl, by decide +kernel, by decide +kernel⟩
theorem oi_NoHead {P : Program} {w : World} {K : PySem.W.Frag} {mg : Str → Option Value} {base : Heap} {f : Addr} {fd : FuncData} (F : FunD K "__init__" "NoHead.__init__" (defArgs (mth 2)) (defBody (mth 2)) (defScope (mth 2)) [] [] f fd) (G : Gi K mg) :
    FnOk P w K mg base CX0 1 f fd ["self", "word", "at"] (spI2 K "ValueError.__init__" "word" "at") := by
  refine F.ok si_NoHead (fun vs H Q E h => ?_) fun cdv A outer s H vs Q E hr h => ⟨_, PSs.nox ?_, ini2 h ?_⟩
  · obtain ⟨a, C, x0, x1, rfl, _⟩ := h
    rfl
  · exact pss_cons (ps_expr (XcV.pe_cinit rfl G.g_MakeError (by decide) G.r_MakeError G.v_MakeError (by decide +kernel) (pa_cons (pv 0) (pa_cons (pv 1) (pa_cons (pv 2) (pa_nil)))) (by rfl) (by rfl) (by rfl))) (pss_cons (XcV.ps_put (pv 0) (pv 1) (by rfl)) (pss_one (XcV.ps_put (pv 0) (pv 2) (by rfl))))
  · obtain ⟨a, C, x0, x1, rfl, _⟩ := h
    rfl
theorem cx_NoHead {P : Program} {w : World} {K : PySem.W.Frag} {mg : Str → Option Value} {base : Heap} {fd : FuncData} (F : FunD K "__init__" "NoHead.__init__" (defArgs (mth 2)) (defBody (mth 2)) (defScope (mth 2)) [] [] (He.fAd K ("NoHead", some "__init__")) fd) (G : Gi K mg) :
    CalX P w K mg base "NoHead" (He.ga K "NoHead") "ValueError.__init__" 1 (spI2 K "ValueError.__init__" "word" "at") 3 [] fun vs _ => vs := by
  obtain ⟨Bn, newId, bmB, BX, T⟩ := G.k_NoHead
  exact ⟨Bn, _, newId, bmB, _, fd, _, _, BX, T, G.i_NoHead, G.t_NoHead, oi_NoHead F G, kbn_of F 3 [] (fun us _ => us) (fun r _ => r) (fun _ _ _ _ _ _ us ws l1 l2 => match us, l1, ws, l2 with | [_, _, _], _, [], _ => rfl), G.g_NoHead⟩
theorem ck_NoHead {P : Program} {w : World} {K : PySem.W.Frag} {mg : Str → Option Value} {base : Heap} {fd : FuncData} (F : FunD K "__init__" "NoHead.__init__" (defArgs (mth 2)) (defBody (mth 2)) (defScope (mth 2)) [] [] (He.fAd K ("NoHead", some "__init__")) fd) (G : Gi K mg) :
    CalX P w K mg base "NoHead" (He.ga K "NoHead") "ValueError.__init__" 1 (spI2 K "ValueError.__init__" "word" "at") 1 ["word", "at"] fun vs zs => vs ++ zs := by
  obtain ⟨Bn, newId, bmB, BX, T⟩ := G.k_NoHead
  exact ⟨Bn, _, newId, bmB, _, fd, _, _, BX, T, G.i_NoHead, G.t_NoHead, oi_NoHead F G, kbn_of F 1 ["word", "at"] (fun us ws => us ++ ws) (fun r s => r.append s) (fun _ _ _ _ _ _ us ws l1 l2 => match us, l1, ws, l2 with | [_], _, [_, _], _ => rfl), G.g_NoHead⟩
/-! class NoProgram -/
theorem si_NoProgram : FnScope ["self", "word", "at"] ["self", "word", "at"] (defScope (mth 3)) := ⟨rfl, rfl, rfl, by decide +kernel, rfl, by decide +kernel, by decide +kernel⟩
theorem oi_NoProgram {P : Program} {w : World} {K : PySem.W.Frag} {mg : Str → Option Value} {base : Heap} {f : Addr} {fd : FuncData} (F : FunD K "__init__" "NoProgram.__init__" (defArgs (mth 3)) (defBody (mth 3)) (defScope (mth 3)) [] [] f fd) (G : Gi K mg) :
    FnOk P w K mg base CX0 1 f fd ["self", "word", "at"] (spI2 K "ValueError.__init__" "word" "at") := by
  refine F.ok si_NoProgram (fun vs H Q E h => ?_) fun cdv A outer s H vs Q E hr h => ⟨_, PSs.nox ?_, ini2 h ?_⟩
  · obtain ⟨a, C, x0, x1, rfl, _⟩ := h
    rfl
  · exact pss_cons (ps_expr (XcV.pe_cinit rfl G.g_MakeError (by decide) G.r_MakeError G.v_MakeError (by decide +kernel) (pa_cons (pv 0) (pa_cons (pv 1) (pa_cons (pv 2) (pa_nil)))) (by rfl) (by rfl) (by rfl))) (pss_cons (XcV.ps_put (pv 0) (pv 1) (by rfl)) (pss_one (XcV.ps_put (pv 0) (pv 2) (by rfl))))
  · obtain ⟨a, C, x0, x1, rfl, _⟩ := h
    rfl
theorem cx_NoProgram {P : Program} {w : World} {K : PySem.W.Frag} {mg : Str → Option Value} {base : Heap} {fd : FuncData} (F : FunD K "__init__" "NoProgram.__init__" (defArgs (mth 3)) (defBody (mth 3)) (defScope (mth 3)) [] [] (He.fAd K ("NoProgram", some "__init__")) fd) (G : Gi K mg) :
    CalX P w K mg base "NoProgram" (He.ga K "NoProgram") "ValueError.__init__" 1 (spI2 K "ValueError.__init__" "word" "at") 3 [] fun vs _ => vs := by
  obtain ⟨Bn, newId, bmB, BX, T⟩ := G.k_NoProgram
  exact ⟨Bn, _, newId, bmB, _, fd, _, _, BX, T, G.i_NoProgram, G.t_NoProgram, oi_NoProgram F G, kbn_of F 3 [] (fun us _ => us) (fun r _ => r) (fun _ _ _ _ _ _ us ws l1 l2 => match us, l1, ws, l2 with | [_, _, _], _, [], _ => rfl), G.g_NoProgram⟩
/-! class NoText -/
theorem si_NoText : FnScope ["self", "at"] ["self", "at"] (defScope (mth 4)) := ⟨rfl, rfl, rfl, by decide +kernel, rfl, by decide +kernel, by decide +kernel⟩
theorem oi_NoText {P : Program} {w : World} {K : PySem.W.Frag} {mg : Str → Option Value} {base : Heap} {f : Addr} {fd : FuncData} (F : FunD K "__init__" "NoText.__init__" (defArgs (mth 4)) (defBody (mth 4)) (defScope (mth 4)) [] [] f fd) (G : Gi K mg) :
    FnOk P w K mg base CX0 1 f fd ["self", "at"] (spI1 K "ValueError.__init__" "at") := by
  refine F.ok si_NoText (fun vs H Q E h => ?_) fun cdv A outer s H vs Q E hr h => ⟨_, PSs.nox ?_, ini1 h ?_⟩
  · obtain ⟨a, C, x0, rfl, _⟩ := h
    rfl
  · exact pss_cons (ps_expr (XcV.pe_cinit rfl G.g_MakeError (by decide) G.r_MakeError G.v_MakeError (by decide +kernel) (pa_cons (pv 0) (pa_cons (pv 1) (pa_nil))) (by rfl) (by rfl) (by rfl))) (pss_one (XcV.ps_put (pv 0) (pv 1) (by rfl)))
  · obtain ⟨a, C, x0, rfl, _⟩ := h
    rfl
theorem cx_NoText {P : Program} {w : World} {K : PySem.W.Frag} {mg : Str → Option Value} {base : Heap} {fd : FuncData} (F : FunD K "__init__" "NoText.__init__" (defArgs (mth 4)) (defBody (mth 4)) (defScope (mth 4)) [] [] (He.fAd K ("NoText", some "__init__")) fd) (G : Gi K mg) :
    CalX P w K mg base "NoText" (He.ga K "NoText") "ValueError.__init__" 1 (spI1 K "ValueError.__init__" "at") 2 [] fun vs _ => vs := by
  obtain ⟨Bn, newId, bmB, BX, T⟩ := G.k_NoText
  exact ⟨Bn, _, newId, bmB, _, fd, _, _, BX, T, G.i_NoText, G.t_NoText, oi_NoText F G, kbn_of F 2 [] (fun us _ => us) (fun r _ => r) (fun _ _ _ _ _ _ us ws l1 l2 => match us, l1, ws, l2 with | [_, _], _, [], _ => rfl), G.g_NoText⟩
/-! class NoStock -/
theorem si_NoStock : FnScope ["self", "word", "at"] ["self", "word", "at"] (defScope (mth 5)) := ⟨rfl, rfl, rfl, by decide +kernel, rfl, by decide +kernel, by decide +kernel⟩
theorem oi_NoStock {P : Program} {w : World} {K : PySem.W.Frag} {mg : Str → Option Value} {base : Heap} {f : Addr} {fd : FuncData} (F : FunD K "__init__" "NoStock.__init__" (defArgs (mth 5)) (defBody (mth 5)) (defScope (mth 5)) [] [] f fd) (G : Gi K mg) :
    FnOk P w K mg base CX0 1 f fd ["self", "word", "at"] (spI2 K "ValueError.__init__" "word" "at") := by
  refine F.ok si_NoStock (fun vs H Q E h => ?_) fun cdv A outer s H vs Q E hr h => ⟨_, PSs.nox ?_, ini2 h ?_⟩
  · obtain ⟨a, C, x0, x1, rfl, _⟩ := h
    rfl
  · exact pss_cons (ps_expr (XcV.pe_cinit rfl G.g_MakeError (by decide) G.r_MakeError G.v_MakeError (by decide +kernel) (pa_cons (pv 0) (pa_cons (pv 1) (pa_cons (pv 2) (pa_nil)))) (by rfl) (by rfl) (by rfl))) (pss_cons (XcV.ps_put (pv 0) (pv 1) (by rfl)) (pss_one (XcV.ps_put (pv 0) (pv 2) (by rfl))))
  · obtain ⟨a, C, x0, x1, rfl, _⟩ := h
    rfl
theorem cx_NoStock {P : Program} {w : World} {K : PySem.W.Frag} {mg : Str → Option Value} {base : Heap} {fd : FuncData} (F : FunD K "__init__" "NoStock.__init__" (defArgs (mth 5)) (defBody (mth 5)) (defScope (mth 5)) [] [] (He.fAd K ("NoStock", some "__init__")) fd) (G : Gi K mg) :
    CalX P w K mg base "NoStock" (He.ga K "NoStock") "ValueError.__init__" 1 (spI2 K "ValueError.__init__" "word" "at") 3 [] fun vs _ => vs := by
  obtain ⟨Bn, newId, bmB, BX, T⟩ := G.k_NoStock
  exact ⟨Bn, _, newId, bmB, _, fd, _, _, BX, T, G.i_NoStock, G.t_NoStock, oi_NoStock F G, kbn_of F 3 [] (fun us _ => us) (fun r _ => r) (fun _ _ _ _ _ _ us ws l1 l2 => match us, l1, ws, l2 with | [_, _, _], _, [], _ => rfl), G.g_NoStock⟩
theorem ck_NoStock {P : Program} {w : World} {K : PySem.W.Frag} {mg : Str → Option Value} {base : Heap} {fd : FuncData} (F : FunD K "__init__" "NoStock.__init__" (defArgs (mth 5)) (defBody (mth 5)) (defScope (mth 5)) [] [] (He.fAd K ("NoStock", some "__init__")) fd) (G : Gi K mg) :
    CalX P w K mg base "NoStock" (He.ga K "NoStock") "ValueError.__init__" 1 (spI2 K "ValueError.__init__" "word" "at") 1 ["at", "word"] fun vs zs => vs ++ zs.reverse := by
  obtain ⟨Bn, newId, bmB, BX, T⟩ := G.k_NoStock
  exact ⟨Bn, _, newId, bmB, _, fd, _, _, BX, T, G.i_NoStock, G.t_NoStock, oi_NoStock F G, kbn_of F 1 ["at", "word"] (fun us ws => us ++ ws.reverse) (fun r s => r.append s.reverse) (fun _ _ _ _ _ _ us ws l1 l2 => match us, l1, ws, l2 with | [_], _, [_, _], _ => rfl), G.g_NoStock⟩
/-! class NoAnswer -/
theorem si_NoAnswer : FnScope ["self", "answer"] ["self", "answer"] (defScope (mth 6)) := ⟨rfl, rfl, rfl, by decide +kernel, rfl, by decide +kernel, by decide +kernel⟩
theorem oi_NoAnswer {P : Program} {w : World} {K : PySem.W.Frag} {mg : Str → Option Value} {base : Heap} {f : Addr} {fd : FuncData} (F : FunD K "__init__" "NoAnswer.__init__" (defArgs (mth 6)) (defBody (mth 6)) (defScope (mth 6)) [] [] f fd) (G : Gi K mg) :
    FnOk P w K mg base CX0 1 f fd ["self", "answer"] (spI1 K "ValueError.__init__" "answer") := by
  refine F.ok si_NoAnswer (fun vs H Q E h => ?_) fun cdv A outer s H vs Q E hr h => ⟨_, PSs.nox ?_, ini1 h ?_⟩
  · obtain ⟨a, C, x0, rfl, _⟩ := h
    rfl
  · exact pss_cons (ps_expr (XcV.pe_cinit rfl G.g_MakeError (by decide) G.r_MakeError G.v_MakeError (by decide +kernel) (pa_cons (pv 0) (pa_cons (pv 1) (pa_nil))) (by rfl) (by rfl) (by rfl))) (pss_one (XcV.ps_put (pv 0) (pv 1) (by rfl)))
  · obtain ⟨a, C, x0, rfl, _⟩ := h
    rfl
theorem cx_NoAnswer {P : Program} {w : World} {K : PySem.W.Frag} {mg : Str → Option Value} {base : Heap} {fd : FuncData} (F : FunD K "__init__" "NoAnswer.__init__" (defArgs (mth 6)) (defBody (mth 6)) (defScope (mth 6)) [] [] (He.fAd K ("NoAnswer", some "__init__")) fd) (G : Gi K mg) :
    CalX P w K mg base "NoAnswer" (He.ga K "NoAnswer") "ValueError.__init__" 1 (spI1 K "ValueError.__init__" "answer") 2 [] fun vs _ => vs := by
  obtain ⟨Bn, newId, bmB, BX, T⟩ := G.k_NoAnswer
  exact ⟨Bn, _, newId, bmB, _, fd, _, _, BX, T, G.i_NoAnswer, G.t_NoAnswer, oi_NoAnswer F G, kbn_of F 2 [] (fun us _ => us) (fun r _ => r) (fun _ _ _ _ _ _ us ws l1 l2 => match us, l1, ws, l2 with | [_, _], _, [], _ => rfl), G.g_NoAnswer⟩
/-! class NoInputs -/
theorem si_NoInputs : FnScope ["self", "at"] ["self", "at"] (defScope (mth 7)) := ⟨rfl, rfl, rfl, by decide +kernel, rfl, by decide +kernel, by decide +kernel⟩
theorem oi_NoInputs {P : Program} {w : World} {K : PySem.W.Frag} {mg : Str → Option Value} {base : Heap} {f : Addr} {fd : FuncData} (F : FunD K "__init__" "NoInputs.__init__" (defArgs (mth 7)) (defBody (mth 7)) (defScope (mth 7)) [] [] f fd) (G : Gi K mg) :
    FnOk P w K mg base CX0 1 f fd ["self", "at"] (spI1 K "ValueError.__init__" "at") := by
  refine F.ok si_NoInputs (fun vs H Q E h => ?_) fun cdv A outer s H vs Q E hr h => ⟨_, PSs.nox ?_, ini1 h ?_⟩
  · obtain ⟨a, C, x0, rfl, _⟩ := h
    rfl
  · exact pss_cons (ps_expr (XcV.pe_cinit rfl G.g_MakeError (by decide) G.r_MakeError G.v_MakeError (by decide +kernel) (pa_cons (pv 0) (pa_cons (pv 1) (pa_nil))) (by rfl) (by rfl) (by rfl))) (pss_one (XcV.ps_put (pv 0) (pv 1) (by rfl)))
  · obtain ⟨a, C, x0, rfl, _⟩ := h
    rfl
theorem cx_NoInputs {P : Program} {w : World} {K : PySem.W.Frag} {mg : Str → Option Value} {base : Heap} {fd : FuncData} (F : FunD K "__init__" "NoInputs.__init__" (defArgs (mth 7)) (defBody (mth 7)) (defScope (mth 7)) [] [] (He.fAd K ("NoInputs", some "__init__")) fd) (G : Gi K mg) :
    CalX P w K mg base "NoInputs" (He.ga K "NoInputs") "ValueError.__init__" 1 (spI1 K "ValueError.__init__" "at") 2 [] fun vs _ => vs := by
  obtain ⟨Bn, newId, bmB, BX, T⟩ := G.k_NoInputs
  exact ⟨Bn, _, newId, bmB, _, fd, _, _, BX, T, G.i_NoInputs, G.t_NoInputs, oi_NoInputs F G, kbn_of F 2 [] (fun us _ => us) (fun r _ => r) (fun _ _ _ _ _ _ us ws l1 l2 => match us, l1, ws, l2 with | [_, _], _, [], _ => rfl), G.g_NoInputs⟩
/-! class Clash -/
theorem si_Clash : FnScope ["self", "at", "number"] ["self", "at", "number"] (defScope (mth 8)) := ⟨rfl, rfl, rfl, by decide +kernel, rfl, by decide +kernel, by decide +kernel⟩
theorem oi_Clash {P : Program} {w : World} {K : PySem.W.Frag} {mg : Str → Option Value} {base : Heap} {f : Addr} {fd : FuncData} (F : FunD K "__init__" "Clash.__init__" (defArgs (mth 8)) (defBody (mth 8)) (defScope (mth 8)) [] [] f fd) (G : Gi K mg) :
    FnOk P w K mg base CX0 1 f fd ["self", "at", "number"] (spI2 K "ValueError.__init__" "at" "number") := by
  refine F.ok si_Clash (fun vs H Q E h => ?_) fun cdv A outer s H vs Q E hr h => ⟨_, PSs.nox ?_, ini2 h ?_⟩
  · obtain ⟨a, C, x0, x1, rfl, _⟩ := h
    rfl
  · exact pss_cons (ps_expr (XcV.pe_cinit rfl G.g_MakeError (by decide) G.r_MakeError G.v_MakeError (by decide +kernel) (pa_cons (pv 0) (pa_cons (pv 1) (pa_cons (pv 2) (pa_nil)))) (by rfl) (by rfl) (by rfl))) (pss_cons (XcV.ps_put (pv 0) (pv 1) (by rfl)) (pss_one (XcV.ps_put (pv 0) (pv 2) (by rfl))))
  · obtain ⟨a, C, x0, x1, rfl, _⟩ := h
    rfl
theorem cx_Clash {P : Program} {w : World} {K : PySem.W.Frag} {mg : Str → Option Value} {base : Heap} {fd : FuncData} (F : FunD K "__init__" "Clash.__init__" (defArgs (mth 8)) (defBody (mth 8)) (defScope (mth 8)) [] [] (He.fAd K ("Clash", some "__init__")) fd) (G : Gi K mg) :
    CalX P w K mg base "Clash" (He.ga K "Clash") "ValueError.__init__" 1 (spI2 K "ValueError.__init__" "at" "number") 3 [] fun vs _ => vs := by
  obtain ⟨Bn, newId, bmB, BX, T⟩ := G.k_Clash
  exact ⟨Bn, _, newId, bmB, _, fd, _, _, BX, T, G.i_Clash, G.t_Clash, oi_Clash F G, kbn_of F 3 [] (fun us _ => us) (fun r _ => r) (fun _ _ _ _ _ _ us ws l1 l2 => match us, l1, ws, l2 with | [_, _, _], _, [], _ => rfl), G.g_Clash⟩
theorem ck_Clash {P : Program} {w : World} {K : PySem.W.Frag} {mg : Str → Option Value} {base : Heap} {fd : FuncData} (F : FunD K "__init__" "Clash.__init__" (defArgs (mth 8)) (defBody (mth 8)) (defScope (mth 8)) [] [] (He.fAd K ("Clash", some "__init__")) fd) (G : Gi K mg) :
    CalX P w K mg base "Clash" (He.ga K "Clash") "ValueError.__init__" 1 (spI2 K "ValueError.__init__" "at" "number") 1 ["number", "at"] fun vs zs => vs ++ zs.reverse := by
  obtain ⟨Bn, newId, bmB, BX, T⟩ := G.k_Clash
  exact ⟨Bn, _, newId, bmB, _, fd, _, _, BX, T, G.i_Clash, G.t_Clash, oi_Clash F G, kbn_of F 1 ["number", "at"] (fun us ws => us ++ ws.reverse) (fun r s => r.append s.reverse) (fun _ _ _ _ _ _ us ws l1 l2 => match us, l1, ws, l2 with | [_], _, [_, _], _ => rfl), G.g_Clash⟩
/-! class NoRow -/
theorem si_NoRow : FnScope ["self"] ["self"] (defScope (mth 9)) := ⟨rfl, rfl, rfl, by decide +kernel, rfl, by decide +kernel, by decide +kernel⟩
theorem oi_NoRow {P : Program} {w : World} {K : PySem.W.Frag} {mg : Str → Option Value} {base : Heap} {f : Addr} {fd : FuncData} (F : FunD K "__init__" "NoRow.__init__" (defArgs (mth 9)) (defBody (mth 9)) (defScope (mth 9)) [] [] f fd) (G : Gi K mg) :
    FnOk P w K mg base CX0 1 f fd ["self"] (spI0 K "ValueError.__init__" ) := by
  refine F.ok si_NoRow (fun vs H Q E h => ?_) fun cdv A outer s H vs Q E hr h => ⟨_, PSs.nox ?_, ini0 h ?_⟩
  · obtain ⟨a, C, rfl, _⟩ := h
    rfl
  · exact pss_one (ps_expr (XcV.pe_cinit rfl G.g_MakeError (by decide) G.r_MakeError G.v_MakeError (by decide +kernel) (pa_cons (pv 0) (pa_nil)) (by rfl) (by rfl) (by rfl)))
  · obtain ⟨a, C, rfl, _⟩ := h
    rfl
theorem cx_NoRow {P : Program} {w : World} {K : PySem.W.Frag} {mg : Str → Option Value} {base : Heap} {fd : FuncData} (F : FunD K "__init__" "NoRow.__init__" (defArgs (mth 9)) (defBody (mth 9)) (defScope (mth 9)) [] [] (He.fAd K ("NoRow", some "__init__")) fd) (G : Gi K mg) :
    CalX P w K mg base "NoRow" (He.ga K "NoRow") "ValueError.__init__" 1 (spI0 K "ValueError.__init__" ) 1 [] fun vs _ => vs := by
  obtain ⟨Bn, newId, bmB, BX, T⟩ := G.k_NoRow
  exact ⟨Bn, _, newId, bmB, _, fd, _, _, BX, T, G.i_NoRow, G.t_NoRow, oi_NoRow F G, kbn_of F 1 [] (fun us _ => us) (fun r _ => r) (fun _ _ _ _ _ _ us ws l1 l2 => match us, l1, ws, l2 with | [_], _, [], _ => rfl), G.g_NoRow⟩
/-! class NoQuestion -/
theorem si_NoQuestion : FnScope ["self"] ["self"] (defScope (mth 10)) := ⟨rfl, rfl, rfl, by decide +kernel, rfl, by decide +kernel, by decide +kernel⟩
theorem oi_NoQuestion {P : Program} {w : World} {K : PySem.W.Frag} {mg : Str → Option Value} {base : Heap} {f : Addr} {fd : FuncData} (F : FunD K "__init__" "NoQuestion.__init__" (defArgs (mth 10)) (defBody (mth 10)) (defScope (mth 10)) [] [] f fd) (G : Gi K mg) :
    FnOk P w K mg base CX0 1 f fd ["self"] (spI0 K "LookupError.__init__" ) := by
  refine F.ok si_NoQuestion (fun vs H Q E h => ?_) fun cdv A outer s H vs Q E hr h => ⟨_, PSs.nox ?_, ini0 h ?_⟩
  · obtain ⟨a, C, rfl, _⟩ := h
    rfl
  · exact pss_one (ps_expr (XcV.pe_binit rfl G.b_LookupError (by decide +kernel) (by decide) (by decide) (by first | kernel_rfl | rfl) (by decide +kernel) G.v_LookupError (by decide +kernel) (pa_cons (pv 0) (pa_nil)) (by rfl) (by rfl) (by rfl)))
  · obtain ⟨a, C, rfl, _⟩ := h
    rfl
theorem cx_NoQuestion {P : Program} {w : World} {K : PySem.W.Frag} {mg : Str → Option Value} {base : Heap} {fd : FuncData} (F : FunD K "__init__" "NoQuestion.__init__" (defArgs (mth 10)) (defBody (mth 10)) (defScope (mth 10)) [] [] (He.fAd K ("NoQuestion", some "__init__")) fd) (G : Gi K mg) :
    CalX P w K mg base "NoQuestion" (He.ga K "NoQuestion") "LookupError.__init__" 1 (spI0 K "LookupError.__init__" ) 1 [] fun vs _ => vs := by
  obtain ⟨Bn, newId, bmB, BX, T⟩ := G.k_NoQuestion
  exact ⟨Bn, _, newId, bmB, _, fd, _, _, BX, T, G.i_NoQuestion, G.t_NoQuestion, oi_NoQuestion F G, kbn_of F 1 [] (fun us _ => us) (fun r _ => r) (fun _ _ _ _ _ _ us ws l1 l2 => match us, l1, ws, l2 with | [_], _, [], _ => rfl), G.g_NoQuestion⟩
/-! class NoDoer -/
theorem si_NoDoer : FnScope ["self", "inputs"] ["self", "inputs"] (defScope (mth 11)) := ⟨rfl, rfl, rfl, by decide +kernel, rfl, by decide +kernel, by decide +kernel⟩
theorem oi_NoDoer {P : Program} {w : World} {K : PySem.W.Frag} {mg : Str → Option Value} {base : Heap} {f : Addr} {fd : FuncData} (F : FunD K "__init__" "NoDoer.__init__" (defArgs (mth 11)) (defBody (mth 11)) (defScope (mth 11)) [] [] f fd) (G : Gi K mg) :
    FnOk P w K mg base CX0 1 f fd ["self", "inputs"] (spI1 K "LookupError.__init__" "inputs") := by
  refine F.ok si_NoDoer (fun vs H Q E h => ?_) fun cdv A outer s H vs Q E hr h => ⟨_, PSs.nox ?_, ini1 h ?_⟩
  · obtain ⟨a, C, x0, rfl, _⟩ := h
    rfl
  · exact pss_cons (ps_expr (XcV.pe_binit rfl G.b_LookupError (by decide +kernel) (by decide) (by decide) (by first | kernel_rfl | rfl) (by decide +kernel) G.v_LookupError (by decide +kernel) (pa_cons (pv 0) (pa_cons (pv 1) (pa_nil))) (by rfl) (by rfl) (by rfl))) (pss_one (XcV.ps_put (pv 0) (pv 1) (by rfl)))
  · obtain ⟨a, C, x0, rfl, _⟩ := h
    rfl
theorem cx_NoDoer {P : Program} {w : World} {K : PySem.W.Frag} {mg : Str → Option Value} {base : Heap} {fd : FuncData} (F : FunD K "__init__" "NoDoer.__init__" (defArgs (mth 11)) (defBody (mth 11)) (defScope (mth 11)) [] [] (He.fAd K ("NoDoer", some "__init__")) fd) (G : Gi K mg) :
    CalX P w K mg base "NoDoer" (He.ga K "NoDoer") "LookupError.__init__" 1 (spI1 K "LookupError.__init__" "inputs") 2 [] fun vs _ => vs := by
  obtain ⟨Bn, newId, bmB, BX, T⟩ := G.k_NoDoer
  exact ⟨Bn, _, newId, bmB, _, fd, _, _, BX, T, G.i_NoDoer, G.t_NoDoer, oi_NoDoer F G, kbn_of F 2 [] (fun us _ => us) (fun r _ => r) (fun _ _ _ _ _ _ us ws l1 l2 => match us, l1, ws, l2 with | [_, _], _, [], _ => rfl), G.g_NoDoer⟩
theorem ck_NoDoer {P : Program} {w : World} {K : PySem.W.Frag} {mg : Str → Option Value} {base : Heap} {fd : FuncData} (F : FunD K "__init__" "NoDoer.__init__" (defArgs (mth 11)) (defBody (mth 11)) (defScope (mth 11)) [] [] (He.fAd K ("NoDoer", some "__init__")) fd) (G : Gi K mg) :
    CalX P w K mg base "NoDoer" (He.ga K "NoDoer") "LookupError.__init__" 1 (spI1 K "LookupError.__init__" "inputs") 1 ["inputs"] fun vs zs => vs ++ zs := by
  obtain ⟨Bn, newId, bmB, BX, T⟩ := G.k_NoDoer
  exact ⟨Bn, _, newId, bmB, _, fd, _, _, BX, T, G.i_NoDoer, G.t_NoDoer, oi_NoDoer F G, kbn_of F 1 ["inputs"] (fun us ws => us ++ ws) (fun r s => r.append s) (fun _ _ _ _ _ _ us ws l1 l2 => match us, l1, ws, l2 with | [_], _, [_], _ => rfl), G.g_NoDoer⟩
/-! class NotKept -/
theorem si_NotKept : FnScope ["self", "number"] ["self", "number"] (defScope (mth 12)) := ⟨rfl, rfl, rfl, by decide +kernel, rfl, by decide +kernel, by decide +kernel⟩
theorem oi_NotKept {P : Program} {w : World} {K : PySem.W.Frag} {mg : Str → Option Value} {base : Heap} {f : Addr} {fd : FuncData} (F : FunD K "__init__" "NotKept.__init__" (defArgs (mth 12)) (defBody (mth 12)) (defScope (mth 12)) [] [] f fd) (G : Gi K mg) :
    FnOk P w K mg base CX0 1 f fd ["self", "number"] (spI1 K "IndexError.__init__" "number") := by
  refine F.ok si_NotKept (fun vs H Q E h => ?_) fun cdv A outer s H vs Q E hr h => ⟨_, PSs.nox ?_, ini1 h ?_⟩
  · obtain ⟨a, C, x0, rfl, _⟩ := h
    rfl
  · exact pss_cons (ps_expr (XcV.pe_binit rfl G.b_IndexError (by decide +kernel) (by decide) (by decide) (by first | kernel_rfl | rfl) (by decide +kernel) G.v_IndexError (by decide +kernel) (pa_cons (pv 0) (pa_cons (pv 1) (pa_nil))) (by rfl) (by rfl) (by rfl))) (pss_one (XcV.ps_put (pv 0) (pv 1) (by rfl)))
  · obtain ⟨a, C, x0, rfl, _⟩ := h
    rfl
theorem cx_NotKept {P : Program} {w : World} {K : PySem.W.Frag} {mg : Str → Option Value} {base : Heap} {fd : FuncData} (F : FunD K "__init__" "NotKept.__init__" (defArgs (mth 12)) (defBody (mth 12)) (defScope (mth 12)) [] [] (He.fAd K ("NotKept", some "__init__")) fd) (G : Gi K mg) :
    CalX P w K mg base "NotKept" (He.ga K "NotKept") "IndexError.__init__" 1 (spI1 K "IndexError.__init__" "number") 2 [] fun vs _ => vs := by
  obtain ⟨Bn, newId, bmB, BX, T⟩ := G.k_NotKept
  exact ⟨Bn, _, newId, bmB, _, fd, _, _, BX, T, G.i_NotKept, G.t_NotKept, oi_NotKept F G, kbn_of F 2 [] (fun us _ => us) (fun r _ => r) (fun _ _ _ _ _ _ us ws l1 l2 => match us, l1, ws, l2 with | [_, _], _, [], _ => rfl), G.g_NotKept⟩
/-! class NoName -/
theorem si_NoName : FnScope ["self", "name"] ["self", "name"] (defScope (mth 13)) := ⟨rfl, rfl, rfl, by decide +kernel, rfl, by decide +kernel, by decide +kernel⟩
theorem oi_NoName {P : Program} {w : World} {K : PySem.W.Frag} {mg : Str → Option Value} {base : Heap} {f : Addr} {fd : FuncData} (F : FunD K "__init__" "NoName.__init__" (defArgs (mth 13)) (defBody (mth 13)) (defScope (mth 13)) [] [] f fd) (G : Gi K mg) :
    FnOk P w K mg base CX0 1 f fd ["self", "name"] (spI1 K "KeyError.__init__" "name") := by
  refine F.ok si_NoName (fun vs H Q E h => ?_) fun cdv A outer s H vs Q E hr h => ⟨_, PSs.nox ?_, ini1 h ?_⟩
  · obtain ⟨a, C, x0, rfl, _⟩ := h
    rfl
  · exact pss_cons (ps_expr (XcV.pe_binit rfl G.b_KeyError (by decide +kernel) (by decide) (by decide) (by first | kernel_rfl | rfl) (by decide +kernel) G.v_KeyError (by decide +kernel) (pa_cons (pv 0) (pa_cons (pv 1) (pa_nil))) (by rfl) (by rfl) (by rfl))) (pss_one (XcV.ps_put (pv 0) (pv 1) (by rfl)))
  · obtain ⟨a, C, x0, rfl, _⟩ := h
    rfl
theorem cx_NoName {P : Program} {w : World} {K : PySem.W.Frag} {mg : Str → Option Value} {base : Heap} {fd : FuncData} (F : FunD K "__init__" "NoName.__init__" (defArgs (mth 13)) (defBody (mth 13)) (defScope (mth 13)) [] [] (He.fAd K ("NoName", some "__init__")) fd) (G : Gi K mg) :
    CalX P w K mg base "NoName" (He.ga K "NoName") "KeyError.__init__" 1 (spI1 K "KeyError.__init__" "name") 2 [] fun vs _ => vs := by
  obtain ⟨Bn, newId, bmB, BX, T⟩ := G.k_NoName
  exact ⟨Bn, _, newId, bmB, _, fd, _, _, BX, T, G.i_NoName, G.t_NoName, oi_NoName F G, kbn_of F 2 [] (fun us _ => us) (fun r _ => r) (fun _ _ _ _ _ _ us ws l1 l2 => match us, l1, ws, l2 with | [_, _], _, [], _ => rfl), G.g_NoName⟩
/-! _law_cell -/
def sg_law_cell : Sig := ⟨3, 2, fun i => false, false⟩
def b_law_cell : SF := sSeq (sIf (tB1 (e2 ltI (qE (eV 1)) (qE (eA lenD (aC (qE (eV 0)) (aN)))))) (sRt (e2 ixD (qE (eV 0)) (qE (eV 1)))) (sNx))
 (sSeq (sSet 2 (e2 addD (qE (e2 mulD (qE (eV 1)) (qE (eC (.int 7919))))) (qE (eC (.int 5)))))
 (sSeq (sIf (tB1 (e2 gtI (qE (eA lenD (aC (qE (eV 0)) (aN)))) (qE (eC (.int 0))))) (sSet 2 (e2 addD (qE (e2 mulD (qE (e2 modD (qE (e2 ixD (qE (eV 0)) (qE (e2 modD (qE (e2 mulD (qE (eV 1)) (qE (eC (.int 7))))) (qE (eA lenD (aC (qE (eV 0)) (aN)))))))) (qE (eC (.int 2147483629))))) (qE (eC (.int 48271))))) (qE (e2 mulD (qE (eV 1)) (qE (eC (.int 7919))))))) (sNx))
 (sRt (e2 mulD (qE (e2 modD (qE (eV 2)) (qE (eC (.int 2147483647))))) (qE (eC (.int 31)))))))
def S_law_cell : SemF := semOf sg_law_cell (b_law_cell)
def N_law_cell : List Str := ["_law_script", "_law_k", "_law_whole"]
theorem sc_law_cell : FnScope N_law_cell ["_law_script", "_law_k"] (defScope (topS 15)) := ⟨rfl, rfl, rfl, by decide +kernel, rfl, by decide +kernel, by decide +kernel⟩
theorem ok_law_cell {P : Program} {w : World} {K : PySem.W.Frag} {mg : Str → Option Value} {base : Heap} {f : Addr} {fd : FuncData} (F : FnP K "_law_cell" (topS 15) f fd) (G : Gf K mg)   :
    FnOk P w K mg base CX0 1 f fd ["_law_script", "_law_k"] (spOf K w sg_law_cell S_law_cell) := by
  refine fn_body F sc_law_cell rfl rfl fun cdv A outer s H E hr => ?_
  have nd : N_law_cell.Nodup := sc_law_cell.nd
  have hu65 : (A.deeper (envOfC "_law_cell" (defScope (topS 15)) s.heap.objs.size f cdv)).units + 65 < cLine := by have := hr.un; omega
  unfold b_law_cell
  refine ds_cons ?_ ?_
  refine ds_if ?_ ?_ ?_
  refine w_tcmp op_lt ok_lt ?_ ?_
  refine pq_e ?_
  refine w_v 1
  refine pq_e ?_
  refine w_bi call_len ok_len G.f_len (by decide +kernel) ?_
  refine w_ac ?_ ?_
  refine pq_e ?_
  refine w_v 0
  refine da_nil
  refine ds_one ?_
  refine ds_ret ?_
  refine w_ix ix_seq ok_ix ?_ ?_
  refine pq_e ?_
  refine w_v 0
  refine pq_e ?_
  refine w_v 1
  refine ds_nil
  refine ds_cons ?_ ?_
  refine w_set 2 nd ?_
  refine w_op or_add ok_add ?_ ?_
  refine pq_e ?_
  refine w_op or_mul ok_mul ?_ ?_
  refine pq_e ?_
  refine w_v 1
  refine pq_e ?_
  refine de_int
  refine pq_e ?_
  refine de_int
  refine ds_cons ?_ ?_
  refine ds_if ?_ ?_ ?_
  refine w_tcmp op_gt ok_gt ?_ ?_
  refine pq_e ?_
  refine w_bi call_len ok_len G.f_len (by decide +kernel) ?_
  refine w_ac ?_ ?_
  refine pq_e ?_
  refine w_v 0
  refine da_nil
  refine pq_e ?_
  refine de_int
  refine ds_one ?_
  refine w_set 2 nd ?_
  refine w_op or_add ok_add ?_ ?_
  refine pq_e ?_
  refine w_op or_mul ok_mul ?_ ?_
  refine pq_e ?_
  refine w_op op_mod ok_mod ?_ ?_
  refine pq_e ?_
  refine w_ix ix_seq ok_ix ?_ ?_
  refine pq_e ?_
  refine w_v 0
  refine pq_e ?_
  refine w_op op_mod ok_mod ?_ ?_
  refine pq_e ?_
  refine w_op or_mul ok_mul ?_ ?_
  refine pq_e ?_
  refine w_v 1
  refine pq_e ?_
  refine de_int
  refine pq_e ?_
  refine w_bi call_len ok_len G.f_len (by decide +kernel) ?_
  refine w_ac ?_ ?_
  refine pq_e ?_
  refine w_v 0
  refine da_nil
  refine pq_e ?_
  refine de_int
  refine pq_e ?_
  refine de_int
  refine pq_e ?_
  refine w_op or_mul ok_mul ?_ ?_
  refine pq_e ?_
  refine w_v 1
  refine pq_e ?_
  refine de_int
  refine ds_nil
  refine ds_one ?_
  refine ds_ret ?_
  refine w_op or_mul ok_mul ?_ ?_
  refine pq_e ?_
  refine w_op op_mod ok_mod ?_ ?_
  refine pq_e ?_
  refine w_v 2
  refine pq_e ?_
  refine de_int
  refine pq_e ?_
  refine de_int
/-! _law_flow -/
def sg_law_flow : Sig := ⟨4, 2, fun i => false, true⟩
def b_law_flow : SF := sSeq (sSet 2 (eCallS sg_law_cell S_law_cell (uF (eV 0) (uF (eV 1) (uN)))))
 (sSeq (sSet 3 (eC (.int 0)))
 (sSeq (sIf (tB1 (e2 geI (qE (eV 2)) (qE (e2 powD (qE (eC (.int 10))) (qE (eC (.int 18))))))) (sSet 3 (eV 2)) (sNx))
 (sRt (eLst (lC (eV 3) (lC (eC (.int 0)) (lC (e2 addD (qE (e2 modD (qE (eV 2)) (qE (eC (.int 2147483629))))) (qE (e2 mulD (qE (eC (.int 40692))) (qE (eV 1))))) (lN))))))))
def S_law_flow : SemF := semOf sg_law_flow (b_law_flow)
def N_law_flow : List Str := ["_law_script", "_law_k", "_law_cell_here", "_law_own"]
theorem sc_law_flow : FnScope N_law_flow ["_law_script", "_law_k"] (defScope (topS 16)) := ⟨rfl, rfl, rfl, by decide +kernel, rfl, by decide +kernel, by decide +kernel⟩
theorem ok_law_flow {P : Program} {w : World} {K : PySem.W.Frag} {mg : Str → Option Value} {base : Heap} {f : Addr} {fd : FuncData} (F : FnP K "_law_flow" (topS 16) f fd) (G : Gf K mg) (C_law_cell : Cal P w K mg base "_law_cell" 1 sg_law_cell S_law_cell)  :
    FnOk P w K mg base CX0 2 f fd ["_law_script", "_law_k"] (spOf K w sg_law_flow S_law_flow) := by
  refine fn_body F sc_law_flow rfl rfl fun cdv A outer s H E hr => ?_
  have nd : N_law_flow.Nodup := sc_law_flow.nd
  have hu65 : (A.deeper (envOfC "_law_flow" (defScope (topS 16)) s.heap.objs.size f cdv)).units + 65 < cLine := by have := hr.un; omega
  unfold b_law_flow
  refine ds_cons ?_ ?_
  refine w_set 2 nd ?_
  refine w_call C_law_cell hr ?_
  refine w_uf ?_ ?_
  refine w_v 0
  refine w_uf ?_ ?_
  refine w_v 1
  refine du_nil
  refine ds_cons ?_ ?_
  refine w_set 3 nd ?_
  refine de_int
  refine ds_cons ?_ ?_
  refine ds_if ?_ ?_ ?_
  refine w_tcmp op_ge ok_ge ?_ ?_
  refine pq_e ?_
  refine w_v 2
  refine pq_e ?_
  refine w_op op_pow ok_pow ?_ ?_
  refine pq_e ?_
  refine de_int
  refine pq_e ?_
  refine de_int
  refine ds_one ?_
  refine w_set 3 nd ?_
  refine w_v 2
  refine ds_nil
  refine ds_one ?_
  refine ds_retO ?_
  refine do_lst ?_
  refine w_lc ?_ ?_
  refine w_v 3
  refine w_lc ?_ ?_
  refine de_int
  refine w_lc ?_ ?_
  refine w_op or_add ok_add ?_ ?_
  refine pq_e ?_
  refine w_op op_mod ok_mod ?_ ?_
  refine pq_e ?_
  refine w_v 2
  refine pq_e ?_
  refine de_int
  refine pq_e ?_
  refine w_op or_mul ok_mul ?_ ?_
  refine pq_e ?_
  refine de_int
  refine pq_e ?_
  refine w_v 1
  refine dl_nil
/-! _law_draw -/
def sg_law_draw : Sig := ⟨4, 2, fun i => i == 0, false⟩
def b_law_draw : SF := sSeq (sIf (tB1 (e2 gtI (qE (e2 ixD (qV 0) (qE (eC (.int 0))))) (qE (eC (.int 0))))) (sSeq (sSet 2 (e2 modD (qE (e2 ixD (qV 0) (qE (eC (.int 0))))) (qE (eV 1))))
 (sSeq (sLSet 0 (eC (.int 0)) (e2 fdivD (qE (e2 ixD (qV 0) (qE (eC (.int 0))))) (qE (eV 1))))
 (sRt (eV 2)))) (sNx))
 (sSeq (sLSet 0 (eC (.int 1)) (e2 addD (qE (e2 ixD (qV 0) (qE (eC (.int 1))))) (qE (eC (.int 1)))))
 (sSeq (sSet 3 (e2 modD (qE (e2 addD (qE (e2 addD (qE (e2 mulD (qE (e2 ixD (qV 0) (qE (eC (.int 2))))) (qE (e2 addD (qE (eC (.int 48271))) (qE (e2 mulD (qE (eC (.int 2))) (qE (e2 ixD (qV 0) (qE (eC (.int 1))))))))))) (qE (e2 mulD (qE (eC (.int 7919))) (qE (e2 ixD (qV 0) (qE (eC (.int 1))))))))) (qE (eC (.int 1))))) (qE (eC (.int 2147483629)))))
 (sSeq (sSet 3 (e2 modD (qE (e2 mulD (qE (eV 3)) (qE (eV 3)))) (qE (eC (.int 2147483587)))))
 (sRt (e2 modD (qE (e2 fdivD (qE (e2 modD (qE (e2 mulD (qE (e2 addD (qE (eV 3)) (qE (eC (.int 5))))) (qE (e2 addD (qE (eV 3)) (qE (eC (.int 40692))))))) (qE (eC (.int 2147483579))))) (qE (eC (.int 31))))) (qE (eV 1)))))))
def S_law_draw : SemF := semOf sg_law_draw (b_law_draw)
def N_law_draw : List Str := ["_law_flow_here", "_law_many", "_law_digit", "_law_whole"]
theorem sc_law_draw : FnScope N_law_draw ["_law_flow_here", "_law_many"] (defScope (topS 17)) := ⟨rfl, rfl, rfl, by decide +kernel, rfl, by decide +kernel, by decide +kernel⟩
theorem ok_law_draw {P : Program} {w : World} {K : PySem.W.Frag} {mg : Str → Option Value} {base : Heap} {f : Addr} {fd : FuncData} (F : FnP K "_law_draw" (topS 17) f fd) (G : Gf K mg)   :
    FnOk P w K mg base CX0 1 f fd ["_law_flow_here", "_law_many"] (spOf K w sg_law_draw S_law_draw) := by
  refine fn_body F sc_law_draw rfl rfl fun cdv A outer s H E hr => ?_
  have nd : N_law_draw.Nodup := sc_law_draw.nd
  have hu65 : (A.deeper (envOfC "_law_draw" (defScope (topS 17)) s.heap.objs.size f cdv)).units + 65 < cLine := by have := hr.un; omega
  unfold b_law_draw
  refine ds_cons ?_ ?_
  refine ds_if ?_ ?_ ?_
  refine w_tcmp op_gt ok_gt ?_ ?_
  refine pq_e ?_
  refine w_ix ix_seq ok_ix ?_ ?_
  refine w_q 0
  refine pq_e ?_
  refine de_int
  refine pq_e ?_
  refine de_int
  refine ds_cons ?_ ?_
  refine w_set 2 nd ?_
  refine w_op op_mod ok_mod ?_ ?_
  refine pq_e ?_
  refine w_ix ix_seq ok_ix ?_ ?_
  refine w_q 0
  refine pq_e ?_
  refine de_int
  refine pq_e ?_
  refine w_v 1
  refine ds_cons ?_ ?_
  refine w_lset 0 (hi := ?_) (he := ?_)
  refine de_int
  refine w_op op_fdivW ok_fdiv ?_ ?_
  refine pq_e ?_
  refine w_ix ix_seq ok_ix ?_ ?_
  refine w_q 0
  refine pq_e ?_
  refine de_int
  refine pq_e ?_
  refine w_v 1
  refine ds_one ?_
  refine ds_ret ?_
  refine w_v 2
  refine ds_nil
  refine ds_cons ?_ ?_
  refine w_lset 0 (hi := ?_) (he := ?_)
  refine de_int
  refine w_op or_add ok_add ?_ ?_
  refine pq_e ?_
  refine w_ix ix_seq ok_ix ?_ ?_
  refine w_q 0
  refine pq_e ?_
  refine de_int
  refine pq_e ?_
  refine de_int
  refine ds_cons ?_ ?_
  refine w_set 3 nd ?_
  refine w_op op_mod ok_mod ?_ ?_
  refine pq_e ?_
  refine w_op or_add ok_add ?_ ?_
  refine pq_e ?_
  refine w_op or_add ok_add ?_ ?_
  refine pq_e ?_
  refine w_op or_mul ok_mul ?_ ?_
  refine pq_e ?_
  refine w_ix ix_seq ok_ix ?_ ?_
  refine w_q 0
  refine pq_e ?_
  refine de_int
  refine pq_e ?_
  refine w_op or_add ok_add ?_ ?_
  refine pq_e ?_
  refine de_int
  refine pq_e ?_
  refine w_op or_mul ok_mul ?_ ?_
  refine pq_e ?_
  refine de_int
  refine pq_e ?_
  refine w_ix ix_seq ok_ix ?_ ?_
  refine w_q 0
  refine pq_e ?_
  refine de_int
  refine pq_e ?_
  refine w_op or_mul ok_mul ?_ ?_
  refine pq_e ?_
  refine de_int
  refine pq_e ?_
  refine w_ix ix_seq ok_ix ?_ ?_
  refine w_q 0
  refine pq_e ?_
  refine de_int
  refine pq_e ?_
  refine de_int
  refine pq_e ?_
  refine de_int
  refine ds_cons ?_ ?_
  refine w_set 3 nd ?_
  refine w_op op_mod ok_mod ?_ ?_
  refine pq_e ?_
  refine w_op or_mul ok_mul ?_ ?_
  refine pq_e ?_
  refine w_v 3
  refine pq_e ?_
  refine w_v 3
  refine pq_e ?_
  refine de_int
  refine ds_one ?_
  refine ds_ret ?_
  refine w_op op_mod ok_mod ?_ ?_
  refine pq_e ?_
  refine w_op op_fdivW ok_fdiv ?_ ?_
  refine pq_e ?_
  refine w_op op_mod ok_mod ?_ ?_
  refine pq_e ?_
  refine w_op or_mul ok_mul ?_ ?_
  refine pq_e ?_
  refine w_op or_add ok_add ?_ ?_
  refine pq_e ?_
  refine w_v 3
  refine pq_e ?_
  refine de_int
  refine pq_e ?_
  refine w_op or_add ok_add ?_ ?_
  refine pq_e ?_
  refine w_v 3
  refine pq_e ?_
  refine de_int
  refine pq_e ?_
  refine de_int
  refine pq_e ?_
  refine de_int
  refine pq_e ?_
  refine w_v 1
/-! _law_alike -/
def sg_law_alike : Sig := ⟨5, 2, fun i => i == 2, false⟩
def b_law_alike : SF := sSeq (sSet 2 (eLst (lC (eTup (lC (eV 0) (lC (eV 1) (lN)))) (lN))))
 (sSeq (sWhile (tB1 (e2 gtI (qE (eA lenD (aC (qV 2) (aN)))) (qE (eC (.int 0))))) (sSeq (sAsg (gT (gsC (gN 3) (gsC (gN 4) (gsN)))) (mPop 2))
 (sSeq (sIf (tB1 (e2 neD (qE (eIsi "tuple" (qE (eV 3)))) (qE (eIsi "tuple" (qE (eV 4)))))) (sRt (eC (.bl false))) (sNx))
 (sSeq (sIf (tB1 (e2 neD (qE (eIsi "bool" (qE (eV 3)))) (qE (eIsi "bool" (qE (eV 4)))))) (sRt (eC (.bl false))) (sNx))
 (sIf (tB1 (eIsi "tuple" (qE (eV 4)))) (sSeq (sIf (tB1 (e2 neD (qE (eA lenD (aC (qE (eV 3)) (aN)))) (qE (eA lenD (aC (qE (eV 4)) (aN)))))) (sRt (eC (.bl false))) (sNx))
 (sEx (mExt 2 (eZip (qE (eV 3)) (qE (eV 4)))))) (sIf (tOr1 (tB1 (e2 neD (qE (eIsi "str" (qE (eV 3)))) (qE (eIsi "str" (qE (eV 4)))))) (tB1 (e2 neD (qE (eV 3)) (qE (eV 4))))) (sRt (eC (.bl false))) (sNx)))))))
 (sRt (eC (.bl true))))
def S_law_alike : SemF := semOf sg_law_alike (b_law_alike)
def N_law_alike : List Str := ["_law_found", "_law_due", "_law_left", "_law_one", "_law_other"]
theorem sc_law_alike : FnScope N_law_alike ["_law_found", "_law_due"] (defScope (topS 18)) := ⟨rfl, rfl, rfl, by decide +kernel, rfl, by decide +kernel, by decide +kernel⟩
theorem ok_law_alike {P : Program} {w : World} {K : PySem.W.Frag} {mg : Str → Option Value} {base : Heap} {f : Addr} {fd : FuncData} (F : FnP K "_law_alike" (topS 18) f fd) (G : Gf K mg)   :
    FnOk P w K mg base CX0 1 f fd ["_law_found", "_law_due"] (spOf K w sg_law_alike S_law_alike) := by
  refine fn_body F sc_law_alike rfl rfl fun cdv A outer s H E hr => ?_
  have nd : N_law_alike.Nodup := sc_law_alike.nd
  have hu65 : (A.deeper (envOfC "_law_alike" (defScope (topS 18)) s.heap.objs.size f cdv)).units + 65 < cLine := by have := hr.un; omega
  unfold b_law_alike
  refine ds_cons ?_ ?_
  refine w_setO 2 nd ?_
  refine do_lst ?_
  refine w_lc ?_ ?_
  refine de_tup ?_
  refine w_lc ?_ ?_
  refine w_v 0
  refine w_lc ?_ ?_
  refine w_v 1
  refine dl_nil
  refine dl_nil
  refine ds_cons ?_ ?_
  refine w_while ?_ ?_
  refine w_tcmp op_gt ok_gt ?_ ?_
  refine pq_e ?_
  refine w_bi call_len ok_len G.f_len (by decide +kernel) ?_
  refine w_ac ?_ ?_
  refine w_q 2
  refine da_nil
  refine pq_e ?_
  refine de_int
  refine ds_cons ?_ ?_
  refine w_asg ?_ ?_
  refine w_pop 2
  refine w_gt ?_ (gl_cons (gl_cons (gl_nil)))
  refine w_gc ?_ ?_
  refine w_gn 3 nd
  refine w_gc ?_ ?_
  refine w_gn 4 nd
  refine dgs_nil
  refine ds_cons ?_ ?_
  refine ds_if ?_ ?_ ?_
  refine w_tcmp (or_ne hr.units) ok_ne ?_ ?_
  refine pq_e ?_
  refine w_isi G.f_isinstance G.f_tuple ?_
  refine pq_e ?_
  refine w_v 3
  refine pq_e ?_
  refine w_isi G.f_isinstance G.f_tuple ?_
  refine pq_e ?_
  refine w_v 4
  refine ds_one ?_
  refine ds_ret ?_
  refine de_bl
  refine ds_nil
  refine ds_cons ?_ ?_
  refine ds_if ?_ ?_ ?_
  refine w_tcmp (or_ne hr.units) ok_ne ?_ ?_
  refine pq_e ?_
  refine w_isi G.f_isinstance G.f_bool ?_
  refine pq_e ?_
  refine w_v 3
  refine pq_e ?_
  refine w_isi G.f_isinstance G.f_bool ?_
  refine pq_e ?_
  refine w_v 4
  refine ds_one ?_
  refine ds_ret ?_
  refine de_bl
  refine ds_nil
  refine ds_one ?_
  refine ds_if ?_ ?_ ?_
  refine w_tval ?_
  refine w_isi G.f_isinstance G.f_tuple ?_
  refine pq_e ?_
  refine w_v 4
  refine ds_cons ?_ ?_
  refine ds_if ?_ ?_ ?_
  refine w_tcmp (or_ne hr.units) ok_ne ?_ ?_
  refine pq_e ?_
  refine w_bi call_len ok_len G.f_len (by decide +kernel) ?_
  refine w_ac ?_ ?_
  refine pq_e ?_
  refine w_v 3
  refine da_nil
  refine pq_e ?_
  refine w_bi call_len ok_len G.f_len (by decide +kernel) ?_
  refine w_ac ?_ ?_
  refine pq_e ?_
  refine w_v 4
  refine da_nil
  refine ds_one ?_
  refine ds_ret ?_
  refine de_bl
  refine ds_nil
  refine ds_one ?_
  refine w_ex ?_
  refine w_ext 2 ?_
  refine de_frz ?_
  refine w_zip G.f_list G.f_zip ?_ ?_
  refine pq_e ?_
  refine w_v 3
  refine pq_e ?_
  refine w_v 4
  refine ds_one ?_
  refine ds_if ?_ ?_ ?_
  refine PW.pt ?_
  refine dw_or ?_ ?_
  refine w_tcmp (or_ne hr.units) ok_ne ?_ ?_
  refine pq_e ?_
  refine w_isi G.f_isinstance G.f_str ?_
  refine pq_e ?_
  refine w_v 3
  refine pq_e ?_
  refine w_isi G.f_isinstance G.f_str ?_
  refine pq_e ?_
  refine w_v 4
  refine dw_or1 ?_
  refine w_tcmp (or_ne hr.units) ok_ne ?_ ?_
  refine pq_e ?_
  refine w_v 3
  refine pq_e ?_
  refine w_v 4
  refine ds_one ?_
  refine ds_ret ?_
  refine de_bl
  refine ds_nil
  refine ds_one ?_
  refine ds_ret ?_
  refine de_bl
/-! _law_sorts -/
def sg_law_sorts : Sig := ⟨2, 1, fun i => false, false⟩
def b_law_sorts (K : PySem.W.Frag) : SF := sSeq (sSet 1 (eLst (lC (eIsX K (Ks K) (.ref (He.ga K "NoHead")) (eV 0)) (lC (eIsX K (Ks K) (.ref (He.ga K "NoProgram")) (eV 0)) (lC (eIsX K (Ks K) (.ref (He.ga K "NoText")) (eV 0)) (lC (eIsX K (Ks K) (.ref (He.ga K "NoStock")) (eV 0)) (lN)))))))
 (sSeq (sSet 1 (e2 addD (qE (eV 1)) (qE (eLst (lC (eIsX K (Ks K) (.ref (He.ga K "NoAnswer")) (eV 0)) (lC (eIsX K (Ks K) (.ref (He.ga K "NoInputs")) (eV 0)) (lC (eIsX K (Ks K) (.ref (He.ga K "Clash")) (eV 0)) (lC (eIsX K (Ks K) (.ref (He.ga K "NoRow")) (eV 0)) (lN)))))))))
 (sRt (e2 addD (qE (eV 1)) (qE (eLst (lC (eIsX K (Ks K) (.ref (He.ga K "NoQuestion")) (eV 0)) (lC (eIsX K (Ks K) (.ref (He.ga K "NoDoer")) (eV 0)) (lC (eIsX K (Ks K) (.ref (He.ga K "NotKept")) (eV 0)) (lC (eIsX K (Ks K) (.ref (He.ga K "NoName")) (eV 0)) (lN))))))))))
def S_law_sorts (K : PySem.W.Frag) : SemF := semOf sg_law_sorts (b_law_sorts K)
def N_law_sorts : List Str := ["_law_e", "_law_found"]
theorem sc_law_sorts : FnScope N_law_sorts ["_law_e"] (defScope (topS 19)) := ⟨rfl, rfl, rfl, by decide +kernel, rfl, by decide +kernel, by decide +kernel⟩
theorem ok_law_sorts {P : Program} {w : World} {K : PySem.W.Frag} {mg : Str → Option Value} {base : Heap} {f : Addr} {fd : FuncData} (F : FnP K "_law_sorts" (topS 19) f fd) (G : Gf K mg)   :
    FnOk P w K mg base CX0 1 f fd ["_law_e"] (spOf K w sg_law_sorts (S_law_sorts K)) := by
  refine fn_body F sc_law_sorts rfl rfl fun cdv A outer s H E hr => ?_
  have nd : N_law_sorts.Nodup := sc_law_sorts.nd
  have hu65 : (A.deeper (envOfC "_law_sorts" (defScope (topS 19)) s.heap.objs.size f cdv)).units + 65 < cLine := by have := hr.un; omega
  unfold b_law_sorts
  refine ds_cons ?_ ?_
  refine w_set 1 nd ?_
  refine de_frz ?_
  refine do_lst ?_
  refine w_lc ?_ ?_
  refine w_isXc G.x_ok G.f_isinstance G.g_NoHead ?_
  refine w_v 0
  refine w_lc ?_ ?_
  refine w_isXc G.x_ok G.f_isinstance G.g_NoProgram ?_
  refine w_v 0
  refine w_lc ?_ ?_
  refine w_isXc G.x_ok G.f_isinstance G.g_NoText ?_
  refine w_v 0
  refine w_lc ?_ ?_
  refine w_isXc G.x_ok G.f_isinstance G.g_NoStock ?_
  refine w_v 0
  refine dl_nil
  refine ds_cons ?_ ?_
  refine w_set 1 nd ?_
  refine w_op or_add ok_add ?_ ?_
  refine pq_e ?_
  refine w_v 1
  refine pq_e ?_
  refine de_frz ?_
  refine do_lst ?_
  refine w_lc ?_ ?_
  refine w_isXc G.x_ok G.f_isinstance G.g_NoAnswer ?_
  refine w_v 0
  refine w_lc ?_ ?_
  refine w_isXc G.x_ok G.f_isinstance G.g_NoInputs ?_
  refine w_v 0
  refine w_lc ?_ ?_
  refine w_isXc G.x_ok G.f_isinstance G.g_Clash ?_
  refine w_v 0
  refine w_lc ?_ ?_
  refine w_isXc G.x_ok G.f_isinstance G.g_NoRow ?_
  refine w_v 0
  refine dl_nil
  refine ds_one ?_
  refine ds_ret ?_
  refine w_op or_add ok_add ?_ ?_
  refine pq_e ?_
  refine w_v 1
  refine pq_e ?_
  refine de_frz ?_
  refine do_lst ?_
  refine w_lc ?_ ?_
  refine w_isXc G.x_ok G.f_isinstance G.g_NoQuestion ?_
  refine w_v 0
  refine w_lc ?_ ?_
  refine w_isXc G.x_ok G.f_isinstance G.g_NoDoer ?_
  refine w_v 0
  refine w_lc ?_ ?_
  refine w_isXc G.x_ok G.f_isinstance G.g_NotKept ?_
  refine w_v 0
  refine w_lc ?_ ?_
  refine w_isXc G.x_ok G.f_isinstance G.g_NoName ?_
  refine w_v 0
  refine dl_nil
/-! _law_thing -/
def sg_law_thing : Sig := ⟨3, 1, fun i => i == 0, false⟩
def b_law_thing : SF := sSeq (sSet 1 (e2 ixD (qE (eLst (lC (eCallS sg_law_draw S_law_draw (uO 0 (uF (eC (.int 7)) (uN)))) (lC (e2 subD (qE (eC (.int 0))) (qE (eCallS sg_law_draw S_law_draw (uO 0 (uF (eC (.int 9)) (uN)))))) (lC (eCallS sg_law_draw S_law_draw (uO 0 (uF (e2 powD (qE (eC (.int 10))) (qE (eC (.int 20)))) (uN)))) (lN)))))) (qE (eCallS sg_law_draw S_law_draw (uO 0 (uF (eC (.int 3)) (uN)))))))
 (sSeq (sSet 2 (eSl slD (qE (eSl slD (qE (eC (.str "abcdefgh"))) (pS (eCallS sg_law_draw S_law_draw (uO 0 (uF (eC (.int 8)) (uN))))) (pN))) (pN) (pS (eCallS sg_law_draw S_law_draw (uO 0 (uF (eC (.int 5)) (uN)))))))
 (sRt (e2 ixD (qE (eLst (lC (eV 1) (lC (eV 2) (lC (eTup (lC (eV 1) (lC (eV 2) (lN)))) (lC (eC .non) (lC (eLst (lC (eV 1) (lC (eC .non) (lN)))) (lC (eC (.bl true)) (lN))))))))) (qE (eCallS sg_law_draw S_law_draw (uO 0 (uF (eC (.int 6)) (uN))))))))
def S_law_thing : SemF := semOf sg_law_thing (b_law_thing)
def N_law_thing : List Str := ["_law_flow_here", "_law_whole", "_law_short"]
theorem sc_law_thing : FnScope N_law_thing ["_law_flow_here"] (defScope (topS 20)) := ⟨rfl, rfl, rfl, by decide +kernel, rfl, by decide +kernel, by decide +kernel⟩
theorem ok_law_thing {P : Program} {w : World} {K : PySem.W.Frag} {mg : Str → Option Value} {base : Heap} {f : Addr} {fd : FuncData} (F : FnP K "_law_thing" (topS 20) f fd) (G : Gf K mg) (C_law_draw : Cal P w K mg base "_law_draw" 1 sg_law_draw S_law_draw)  :
    FnOk P w K mg base CX0 2 f fd ["_law_flow_here"] (spOf K w sg_law_thing S_law_thing) := by
  refine fn_body F sc_law_thing rfl rfl fun cdv A outer s H E hr => ?_
  have nd : N_law_thing.Nodup := sc_law_thing.nd
  have hu65 : (A.deeper (envOfC "_law_thing" (defScope (topS 20)) s.heap.objs.size f cdv)).units + 65 < cLine := by have := hr.un; omega
  unfold b_law_thing
  refine ds_cons ?_ ?_
  refine w_set 1 nd ?_
  refine w_ix ix_seq ok_ix ?_ ?_
  refine pq_e ?_
  refine de_frz ?_
  refine do_lst ?_
  refine w_lc ?_ ?_
  refine w_call C_law_draw hr ?_
  refine w_uo 0 ?_
  refine w_uf ?_ ?_
  refine de_int
  refine du_nil
  refine w_lc ?_ ?_
  refine w_op op_sub ok_sub ?_ ?_
  refine pq_e ?_
  refine de_int
  refine pq_e ?_
  refine w_call C_law_draw hr ?_
  refine w_uo 0 ?_
  refine w_uf ?_ ?_
  refine de_int
  refine du_nil
  refine w_lc ?_ ?_
  refine w_call C_law_draw hr ?_
  refine w_uo 0 ?_
  refine w_uf ?_ ?_
  refine w_op op_pow ok_pow ?_ ?_
  refine pq_e ?_
  refine de_int
  refine pq_e ?_
  refine de_int
  refine du_nil
  refine dl_nil
  refine pq_e ?_
  refine w_call C_law_draw hr ?_
  refine w_uo 0 ?_
  refine w_uf ?_ ?_
  refine de_int
  refine du_nil
  refine ds_cons ?_ ?_
  refine w_set 2 nd ?_
  refine w_sl ?_ ?_ ?_
  refine pq_e ?_
  refine w_sl ?_ ?_ ?_
  refine pq_e ?_
  refine de_str
  refine dp_some ?_
  refine w_call C_law_draw hr ?_
  refine w_uo 0 ?_
  refine w_uf ?_ ?_
  refine de_int
  refine du_nil
  refine dp_none
  refine dp_none
  refine dp_some ?_
  refine w_call C_law_draw hr ?_
  refine w_uo 0 ?_
  refine w_uf ?_ ?_
  refine de_int
  refine du_nil
  refine ds_one ?_
  refine ds_ret ?_
  refine w_ix ix_seq ok_ix ?_ ?_
  refine pq_e ?_
  refine de_frz ?_
  refine do_lst ?_
  refine w_lc ?_ ?_
  refine w_v 1
  refine w_lc ?_ ?_
  refine w_v 2
  refine w_lc ?_ ?_
  refine de_tup ?_
  refine w_lc ?_ ?_
  refine w_v 1
  refine w_lc ?_ ?_
  refine w_v 2
  refine dl_nil
  refine w_lc ?_ ?_
  refine de_non
  refine w_lc ?_ ?_
  refine de_frz ?_
  refine do_lst ?_
  refine w_lc ?_ ?_
  refine w_v 1
  refine w_lc ?_ ?_
  refine de_non
  refine dl_nil
  refine w_lc ?_ ?_
  refine de_bl
  refine dl_nil
  refine pq_e ?_
  refine w_call C_law_draw hr ?_
  refine w_uo 0 ?_
  refine w_uf ?_ ?_
  refine de_int
  refine du_nil
/-! _law_bases -/
def sg_law_bases : Sig := ⟨2, 1, fun i => false, false⟩
def b_law_bases (K : PySem.W.Frag) : SF := sSeq (sSet 1 (eLst (lC (eIsX K (Ks K) (.ref (He.ga K "MakeError")) (eV 0)) (lC (eIsX K (Ks K) (.type "ValueError") (eV 0)) (lC (eIsX K (Ks K) (.type "LookupError") (eV 0)) (lN))))))
 (sRt (e2 addD (qE (eV 1)) (qE (eLst (lC (eIsX K (Ks K) (.type "IndexError") (eV 0)) (lC (eIsX K (Ks K) (.type "KeyError") (eV 0)) (lN)))))))
def S_law_bases (K : PySem.W.Frag) : SemF := semOf sg_law_bases (b_law_bases K)
def N_law_bases : List Str := ["_law_e", "_law_found"]
theorem sc_law_bases : FnScope N_law_bases ["_law_e"] (defScope (topS 21)) := ⟨rfl, rfl, rfl, by decide +kernel, rfl, by decide +kernel, by decide +kernel⟩
theorem ok_law_bases {P : Program} {w : World} {K : PySem.W.Frag} {mg : Str → Option Value} {base : Heap} {f : Addr} {fd : FuncData} (F : FnP K "_law_bases" (topS 21) f fd) (G : Gf K mg)   :
    FnOk P w K mg base CX0 1 f fd ["_law_e"] (spOf K w sg_law_bases (S_law_bases K)) := by
  refine fn_body F sc_law_bases rfl rfl fun cdv A outer s H E hr => ?_
  have nd : N_law_bases.Nodup := sc_law_bases.nd
  have hu65 : (A.deeper (envOfC "_law_bases" (defScope (topS 21)) s.heap.objs.size f cdv)).units + 65 < cLine := by have := hr.un; omega
  unfold b_law_bases
  refine ds_cons ?_ ?_
  refine w_set 1 nd ?_
  refine de_frz ?_
  refine do_lst ?_
  refine w_lc ?_ ?_
  refine w_isXc G.x_ok G.f_isinstance G.g_MakeError ?_
  refine w_v 0
  refine w_lc ?_ ?_
  refine w_isXt G.x_ok G.f_isinstance G.f_ValueError ?_
  refine w_v 0
  refine w_lc ?_ ?_
  refine w_isXt G.x_ok G.f_isinstance G.f_LookupError ?_
  refine w_v 0
  refine dl_nil
  refine ds_one ?_
  refine ds_ret ?_
  refine w_op or_add ok_add ?_ ?_
  refine pq_e ?_
  refine w_v 1
  refine pq_e ?_
  refine de_frz ?_
  refine do_lst ?_
  refine w_lc ?_ ?_
  refine w_isXt G.x_ok G.f_isinstance G.f_IndexError ?_
  refine w_v 0
  refine w_lc ?_ ?_
  refine w_isXt G.x_ok G.f_isinstance G.f_KeyError ?_
  refine w_v 0
  refine dl_nil
/-! _law_bases_due -/
def sg_law_bases_due : Sig := ⟨1, 1, fun i => false, true⟩
def b_law_bases_due : SF := sSeq (sIf (tB1 (e2 ltI (qE (eV 0)) (qE (eC (.int 8))))) (sRt (eLst (lC (eC (.bl true)) (lC (eC (.bl true)) (lC (eC (.bl false)) (lC (eC (.bl false)) (lC (eC (.bl false)) (lN)))))))) (sNx))
 (sRt (eLst (lC (eC (.bl false)) (lC (eC (.bl false)) (lC (eC (.bl true)) (lC (e2 eqD (qE (eV 0)) (qE (eC (.int 10)))) (lC (e2 eqD (qE (eV 0)) (qE (eC (.int 11)))) (lN))))))))
def S_law_bases_due : SemF := semOf sg_law_bases_due (b_law_bases_due)
def N_law_bases_due : List Str := ["_law_spot"]
theorem sc_law_bases_due : FnScope N_law_bases_due ["_law_spot"] (defScope (topS 22)) := ⟨rfl, rfl, rfl, by decide +kernel, rfl, by decide +kernel, by decide +kernel⟩
theorem ok_law_bases_due {P : Program} {w : World} {K : PySem.W.Frag} {mg : Str → Option Value} {base : Heap} {f : Addr} {fd : FuncData} (F : FnP K "_law_bases_due" (topS 22) f fd) (G : Gf K mg)   :
    FnOk P w K mg base CX0 1 f fd ["_law_spot"] (spOf K w sg_law_bases_due S_law_bases_due) := by
  refine fn_body F sc_law_bases_due rfl rfl fun cdv A outer s H E hr => ?_
  have nd : N_law_bases_due.Nodup := sc_law_bases_due.nd
  have hu65 : (A.deeper (envOfC "_law_bases_due" (defScope (topS 22)) s.heap.objs.size f cdv)).units + 65 < cLine := by have := hr.un; omega
  unfold b_law_bases_due
  refine ds_cons ?_ ?_
  refine ds_if ?_ ?_ ?_
  refine w_tcmp op_lt ok_lt ?_ ?_
  refine pq_e ?_
  refine w_v 0
  refine pq_e ?_
  refine de_int
  refine ds_one ?_
  refine ds_retO ?_
  refine do_lst ?_
  refine w_lc ?_ ?_
  refine de_bl
  refine w_lc ?_ ?_
  refine de_bl
  refine w_lc ?_ ?_
  refine de_bl
  refine w_lc ?_ ?_
  refine de_bl
  refine w_lc ?_ ?_
  refine de_bl
  refine dl_nil
  refine ds_nil
  refine ds_one ?_
  refine ds_retO ?_
  refine do_lst ?_
  refine w_lc ?_ ?_
  refine de_bl
  refine w_lc ?_ ?_
  refine de_bl
  refine w_lc ?_ ?_
  refine de_bl
  refine w_lc ?_ ?_
  refine w_cmp (or_eq hr.units) ok_eq ?_ ?_
  refine pq_e ?_
  refine w_v 0
  refine pq_e ?_
  refine de_int
  refine w_lc ?_ ?_
  refine w_cmp (or_eq hr.units) ok_eq ?_ ?_
  refine pq_e ?_
  refine w_v 0
  refine pq_e ?_
  refine de_int
  refine dl_nil
/-! _law_right -/
def sg_law_right : Sig := ⟨11, 1, fun i => i == 0, false⟩
def b_law_right (K : PySem.W.Frag) : SF := sSeq (sAsg (gU (gsC (gN 1) (gsC (gN 2) (gsC (gN 3) (gsC (gN 4) (gsN)))))) (eLc (wRg1 (eC (.int 4))) [6] (gN 6) (tYes1) (eCallS sg_law_thing S_law_thing (uO 0 (uN)))))
 (sSeq (sSet 5 (eLst (lC (eMk2 (He.ga K "NoHead") "word" "at" (lC (eV 1) (lC (eV 2) (lN)))) (lC (eMk2 (He.ga K "NoProgram") "word" "at" (lC (eV 3) (lC (eV 4) (lN)))) (lC (eMk1 (He.ga K "NoText") "at" (lC (eV 1) (lN))) (lC (eMk2 (He.ga K "NoStock") "word" "at" (lC (eV 2) (lC (eV 3) (lN)))) (lC (eMk1 (He.ga K "NoAnswer") "answer" (lC (eV 4) (lN))) (lC (eMk1 (He.ga K "NoInputs") "at" (lC (eV 1) (lN))) (lC (eMk2 (He.ga K "Clash") "at" "number" (lC (eV 2) (lC (eV 4) (lN)))) (lC (eMk0 (He.ga K "NoRow")) (lN)))))))))))
 (sSeq (sSet 5 (e2 addD (qE (eV 5)) (qE (eLst (lC (eMk0 (He.ga K "NoQuestion")) (lC (eMk1 (He.ga K "NoDoer") "inputs" (lC (eV 3) (lN))) (lC (eMk1 (He.ga K "NotKept") "number" (lC (eV 2) (lN))) (lC (eMk1 (He.ga K "NoName") "name" (lC (eV 4) (lN))) (lN)))))))))
 (sSeq (sFor (wEn (eV 5)) (gT (gsC (gN 6) (gsC (gN 7) (gsN)))) (sIf (tOr1 (tB1 (e2 neD (qE (eCallS sg_law_sorts (S_law_sorts K) (uF (eV 7) (uN)))) (qE (eLc (wRg1 (eC (.int 12))) [10] (gN 10) (tYes1) (e2 eqD (qE (eV 10)) (qE (eV 6))))))) (tB1 (e2 neD (qE (eCallS sg_law_bases (S_law_bases K) (uF (eV 7) (uN)))) (qE (eCallS sg_law_bases_due S_law_bases_due (uF (eV 6) (uN))))))) (sRt (eC (.bl false))) (sNx)))
 (sSeq (sSet 8 (eLst (lC (eXa (Ks K) "word" (e2 ixD (qE (eV 5)) (qE (eC (.int 0))))) (lC (eXa (Ks K) "at" (e2 ixD (qE (eV 5)) (qE (eC (.int 0))))) (lC (eXa (Ks K) "word" (e2 ixD (qE (eV 5)) (qE (eC (.int 1))))) (lC (eXa (Ks K) "at" (e2 ixD (qE (eV 5)) (qE (eC (.int 1))))) (lC (eXa (Ks K) "at" (e2 ixD (qE (eV 5)) (qE (eC (.int 2))))) (lC (eXa (Ks K) "word" (e2 ixD (qE (eV 5)) (qE (eC (.int 3))))) (lC (eXa (Ks K) "at" (e2 ixD (qE (eV 5)) (qE (eC (.int 3))))) (lN))))))))))
 (sSeq (sSet 8 (e2 addD (qE (eV 8)) (qE (eLst (lC (eXa (Ks K) "answer" (e2 ixD (qE (eV 5)) (qE (eC (.int 4))))) (lC (eXa (Ks K) "at" (e2 ixD (qE (eV 5)) (qE (eC (.int 5))))) (lC (eXa (Ks K) "at" (e2 ixD (qE (eV 5)) (qE (eC (.int 6))))) (lC (eXa (Ks K) "number" (e2 ixD (qE (eV 5)) (qE (eC (.int 6))))) (lC (eXa (Ks K) "inputs" (e2 ixD (qE (eV 5)) (qE (eC (.int 9))))) (lC (eXa (Ks K) "number" (e2 ixD (qE (eV 5)) (qE (eC (.int 10))))) (lN)))))))))))
 (sSeq (sIf (tNot1 (tB1 (eCallS sg_law_alike S_law_alike (uF (eA tupleD (aC (qE (e2 addD (qE (eV 8)) (qE (eLst (lC (eXa (Ks K) "name" (e2 ixD (qE (eV 5)) (qE (eC (.int 11))))) (lN)))))) (aN))) (uF (eTup (lC (eV 1) (lC (eV 2) (lC (eV 3) (lC (eV 4) (lC (eV 1) (lC (eV 2) (lC (eV 3) (lC (eV 4) (lC (eV 1) (lC (eV 2) (lC (eV 4) (lC (eV 3) (lC (eV 2) (lC (eV 4) (lN)))))))))))))))) (uN)))))) (sRt (eC (.bl false))) (sNx))
 (sSeq (sSet 9 (eLst (lC (eMk2 (He.ga K "NoHead") "word" "at" (lC (eV 3) (lC (eV 1) (lN)))) (lC (eMk2r (He.ga K "NoStock") "word" "at" (lC (eV 1) (lC (eV 4) (lN)))) (lC (eMk2r (He.ga K "Clash") "at" "number" (lC (eV 1) (lC (eV 3) (lN)))) (lC (eMk1 (He.ga K "NoDoer") "inputs" (lC (eV 2) (lN))) (lN)))))))
 (sSeq (sSet 8 (eLst (lC (eXa (Ks K) "word" (e2 ixD (qE (eV 9)) (qE (eC (.int 0))))) (lC (eXa (Ks K) "at" (e2 ixD (qE (eV 9)) (qE (eC (.int 0))))) (lC (eXa (Ks K) "word" (e2 ixD (qE (eV 9)) (qE (eC (.int 1))))) (lC (eXa (Ks K) "at" (e2 ixD (qE (eV 9)) (qE (eC (.int 1))))) (lC (eXa (Ks K) "at" (e2 ixD (qE (eV 9)) (qE (eC (.int 2))))) (lC (eXa (Ks K) "number" (e2 ixD (qE (eV 9)) (qE (eC (.int 2))))) (lC (eXa (Ks K) "inputs" (e2 ixD (qE (eV 9)) (qE (eC (.int 3))))) (lN))))))))))
 (sRt (eCallS sg_law_alike S_law_alike (uF (eA tupleD (aC (qE (eV 8)) (aN))) (uF (eTup (lC (eV 3) (lC (eV 1) (lC (eV 4) (lC (eV 1) (lC (eV 3) (lC (eV 1) (lC (eV 2) (lN))))))))) (uN)))))))))))))
def S_law_right (K : PySem.W.Frag) : SemF := semOf sg_law_right (b_law_right K)
def N_law_right : List Str := ["_law_flow_here", "_law_a", "_law_b", "_law_c", "_law_d", "_law_some", "_law_k", "_law_e", "_law_found", "_law_more", "_law_j"]
theorem sc_law_right : FnScope N_law_right ["_law_flow_here"] (defScope (topS 23)) := ⟨rfl, rfl, rfl, by decide +kernel, rfl, by decide +kernel, by decide +kernel⟩
theorem ok_law_right {P : Program} {w : World} {K : PySem.W.Frag} {mg : Str → Option Value} {base : Heap} {f : Addr} {fd : FuncData} (F : FnP K "_law_right" (topS 23) f fd) (G : Gf K mg) (C_law_alike : Cal P w K mg base "_law_alike" 1 sg_law_alike S_law_alike) (C_law_bases : Cal P w K mg base "_law_bases" 1 sg_law_bases (S_law_bases K)) (C_law_bases_due : Cal P w K mg base "_law_bases_due" 1 sg_law_bases_due S_law_bases_due) (C_law_sorts : Cal P w K mg base "_law_sorts" 1 sg_law_sorts (S_law_sorts K)) (C_law_thing : Cal P w K mg base "_law_thing" 2 sg_law_thing S_law_thing) (cx_Clash : CalX P w K mg base "Clash" (He.ga K "Clash") "ValueError.__init__" 1 (spI2 K "ValueError.__init__" "at" "number") 3 [] fun vs _ => vs) (ck_Clash : CalX P w K mg base "Clash" (He.ga K "Clash") "ValueError.__init__" 1 (spI2 K "ValueError.__init__" "at" "number") 1 ["number", "at"] fun vs zs => vs ++ zs.reverse) (cx_NoAnswer : CalX P w K mg base "NoAnswer" (He.ga K "NoAnswer") "ValueError.__init__" 1 (spI1 K "ValueError.__init__" "answer") 2 [] fun vs _ => vs) (cx_NoDoer : CalX P w K mg base "NoDoer" (He.ga K "NoDoer") "LookupError.__init__" 1 (spI1 K "LookupError.__init__" "inputs") 2 [] fun vs _ => vs) (ck_NoDoer : CalX P w K mg base "NoDoer" (He.ga K "NoDoer") "LookupError.__init__" 1 (spI1 K "LookupError.__init__" "inputs") 1 ["inputs"] fun vs zs => vs ++ zs) (cx_NoHead : CalX P w K mg base "NoHead" (He.ga K "NoHead") "ValueError.__init__" 1 (spI2 K "ValueError.__init__" "word" "at") 3 [] fun vs _ => vs) (ck_NoHead : CalX P w K mg base "NoHead" (He.ga K "NoHead") "ValueError.__init__" 1 (spI2 K "ValueError.__init__" "word" "at") 1 ["word", "at"] fun vs zs => vs ++ zs) (cx_NoInputs : CalX P w K mg base "NoInputs" (He.ga K "NoInputs") "ValueError.__init__" 1 (spI1 K "ValueError.__init__" "at") 2 [] fun vs _ => vs) (cx_NoName : CalX P w K mg base "NoName" (He.ga K "NoName") "KeyError.__init__" 1 (spI1 K "KeyError.__init__" "name") 2 [] fun vs _ => vs) (cx_NoProgram : CalX P w K mg base "NoProgram" (He.ga K "NoProgram") "ValueError.__init__" 1 (spI2 K "ValueError.__init__" "word" "at") 3 [] fun vs _ => vs) (cx_NoQuestion : CalX P w K mg base "NoQuestion" (He.ga K "NoQuestion") "LookupError.__init__" 1 (spI0 K "LookupError.__init__" ) 1 [] fun vs _ => vs) (cx_NoRow : CalX P w K mg base "NoRow" (He.ga K "NoRow") "ValueError.__init__" 1 (spI0 K "ValueError.__init__" ) 1 [] fun vs _ => vs) (cx_NoStock : CalX P w K mg base "NoStock" (He.ga K "NoStock") "ValueError.__init__" 1 (spI2 K "ValueError.__init__" "word" "at") 3 [] fun vs _ => vs) (ck_NoStock : CalX P w K mg base "NoStock" (He.ga K "NoStock") "ValueError.__init__" 1 (spI2 K "ValueError.__init__" "word" "at") 1 ["at", "word"] fun vs zs => vs ++ zs.reverse) (cx_NoText : CalX P w K mg base "NoText" (He.ga K "NoText") "ValueError.__init__" 1 (spI1 K "ValueError.__init__" "at") 2 [] fun vs _ => vs) (cx_NotKept : CalX P w K mg base "NotKept" (He.ga K "NotKept") "IndexError.__init__" 1 (spI1 K "IndexError.__init__" "number") 2 [] fun vs _ => vs) :
    FnOk P w K mg base CX0 4 f fd ["_law_flow_here"] (spOf K w sg_law_right (S_law_right K)) := by
  refine fn_body F sc_law_right rfl rfl fun cdv A outer s H E hr => ?_
  have nd : N_law_right.Nodup := sc_law_right.nd
  have hu65 : (A.deeper (envOfC "_law_right" (defScope (topS 23)) s.heap.objs.size f cdv)).units + 65 < cLine := by have := hr.un; omega
  unfold b_law_right
  refine ds_cons ?_ ?_
  refine w_asg ?_ ?_
  refine de_frz ?_
  refine w_lcomp N_law_right (defScope (topS 23)) [("_law_k", 6)] nd ?_ (fun _ _ _ _ _ => ?_) (fun _ _ _ _ _ => ?_) (fun _ _ _ _ _ => ?_) (gN_len)
  refine w_rg1 G.f_range ?_
  refine de_int
  refine w_gn 6 nd
  refine dts_nil
  refine w_call C_law_thing hr ?_
  refine w_uo 0 ?_
  refine du_nil
  refine w_gu ?_ (gl_cons (gl_cons (gl_cons (gl_cons (gl_nil)))))
  refine w_gc ?_ ?_
  refine w_gn 1 nd
  refine w_gc ?_ ?_
  refine w_gn 2 nd
  refine w_gc ?_ ?_
  refine w_gn 3 nd
  refine w_gc ?_ ?_
  refine w_gn 4 nd
  refine dgs_nil
  refine ds_cons ?_ ?_
  refine w_set 5 nd ?_
  refine de_frz ?_
  refine do_lst ?_
  refine w_lc ?_ ?_
  refine w_mk2 cx_NoHead G.n_NoHead_word G.n_NoHead_at hr ?_
  refine w_lc ?_ ?_
  refine w_v 1
  refine w_lc ?_ ?_
  refine w_v 2
  refine dl_nil
  refine w_lc ?_ ?_
  refine w_mk2 cx_NoProgram G.n_NoProgram_word G.n_NoProgram_at hr ?_
  refine w_lc ?_ ?_
  refine w_v 3
  refine w_lc ?_ ?_
  refine w_v 4
  refine dl_nil
  refine w_lc ?_ ?_
  refine w_mk1 cx_NoText G.n_NoText_at hr ?_
  refine w_lc ?_ ?_
  refine w_v 1
  refine dl_nil
  refine w_lc ?_ ?_
  refine w_mk2 cx_NoStock G.n_NoStock_word G.n_NoStock_at hr ?_
  refine w_lc ?_ ?_
  refine w_v 2
  refine w_lc ?_ ?_
  refine w_v 3
  refine dl_nil
  refine w_lc ?_ ?_
  refine w_mk1 cx_NoAnswer G.n_NoAnswer_answer hr ?_
  refine w_lc ?_ ?_
  refine w_v 4
  refine dl_nil
  refine w_lc ?_ ?_
  refine w_mk1 cx_NoInputs G.n_NoInputs_at hr ?_
  refine w_lc ?_ ?_
  refine w_v 1
  refine dl_nil
  refine w_lc ?_ ?_
  refine w_mk2 cx_Clash G.n_Clash_at G.n_Clash_number hr ?_
  refine w_lc ?_ ?_
  refine w_v 2
  refine w_lc ?_ ?_
  refine w_v 4
  refine dl_nil
  refine w_lc ?_ ?_
  refine w_mk0 cx_NoRow hr
  refine dl_nil
  refine ds_cons ?_ ?_
  refine w_set 5 nd ?_
  refine w_op or_add ok_add ?_ ?_
  refine pq_e ?_
  refine w_v 5
  refine pq_e ?_
  refine de_frz ?_
  refine do_lst ?_
  refine w_lc ?_ ?_
  refine w_mk0 cx_NoQuestion hr
  refine w_lc ?_ ?_
  refine w_mk1 cx_NoDoer G.n_NoDoer_inputs hr ?_
  refine w_lc ?_ ?_
  refine w_v 3
  refine dl_nil
  refine w_lc ?_ ?_
  refine w_mk1 cx_NotKept G.n_NotKept_number hr ?_
  refine w_lc ?_ ?_
  refine w_v 2
  refine dl_nil
  refine w_lc ?_ ?_
  refine w_mk1 cx_NoName G.n_NoName_name hr ?_
  refine w_lc ?_ ?_
  refine w_v 4
  refine dl_nil
  refine dl_nil
  refine ds_cons ?_ ?_
  refine w_for ?_ ?_ ?_
  refine w_en G.f_enumerate ?_
  refine w_v 5
  refine w_gt ?_ (gl_cons (gl_cons (gl_nil)))
  refine w_gc ?_ ?_
  refine w_gn 6 nd
  refine w_gc ?_ ?_
  refine w_gn 7 nd
  refine dgs_nil
  refine ds_one ?_
  refine ds_if ?_ ?_ ?_
  refine PW.pt ?_
  refine dw_or ?_ ?_
  refine w_tcmp (or_ne hr.units) ok_ne ?_ ?_
  refine pq_e ?_
  refine w_call C_law_sorts hr ?_
  refine w_uf ?_ ?_
  refine w_v 7
  refine du_nil
  refine pq_e ?_
  refine de_frz ?_
  refine w_lcomp N_law_right (defScope (topS 23)) [("_law_j", 10)] nd ?_ (fun _ _ _ _ _ => ?_) (fun _ _ _ _ _ => ?_) (fun _ _ _ _ _ => ?_) (gN_len)
  refine w_rg1 G.f_range ?_
  refine de_int
  refine w_gn 10 nd
  refine dts_nil
  refine w_cmp (or_eq hr.units) ok_eq ?_ ?_
  refine pq_e ?_
  refine w_v 10
  refine pq_e ?_
  refine w_v 6
  refine dw_or1 ?_
  refine w_tcmp (or_ne hr.units) ok_ne ?_ ?_
  refine pq_e ?_
  refine w_call C_law_bases hr ?_
  refine w_uf ?_ ?_
  refine w_v 7
  refine du_nil
  refine pq_e ?_
  refine de_frz ?_
  refine w_callO C_law_bases_due hr ?_
  refine w_uf ?_ ?_
  refine w_v 6
  refine du_nil
  refine ds_one ?_
  refine ds_ret ?_
  refine de_bl
  refine ds_nil
  refine ds_cons ?_ ?_
  refine w_set 8 nd ?_
  refine de_frz ?_
  refine do_lst ?_
  refine w_lc ?_ ?_
  refine w_xa G.xa_word ?_
  refine w_ix ix_seq ok_ix ?_ ?_
  refine pq_e ?_
  refine w_v 5
  refine pq_e ?_
  refine de_int
  refine w_lc ?_ ?_
  refine w_xa G.xa_at ?_
  refine w_ix ix_seq ok_ix ?_ ?_
  refine pq_e ?_
  refine w_v 5
  refine pq_e ?_
  refine de_int
  refine w_lc ?_ ?_
  refine w_xa G.xa_word ?_
  refine w_ix ix_seq ok_ix ?_ ?_
  refine pq_e ?_
  refine w_v 5
  refine pq_e ?_
  refine de_int
  refine w_lc ?_ ?_
  refine w_xa G.xa_at ?_
  refine w_ix ix_seq ok_ix ?_ ?_
  refine pq_e ?_
  refine w_v 5
  refine pq_e ?_
  refine de_int
  refine w_lc ?_ ?_
  refine w_xa G.xa_at ?_
  refine w_ix ix_seq ok_ix ?_ ?_
  refine pq_e ?_
  refine w_v 5
  refine pq_e ?_
  refine de_int
  refine w_lc ?_ ?_
  refine w_xa G.xa_word ?_
  refine w_ix ix_seq ok_ix ?_ ?_
  refine pq_e ?_
  refine w_v 5
  refine pq_e ?_
  refine de_int
  refine w_lc ?_ ?_
  refine w_xa G.xa_at ?_
  refine w_ix ix_seq ok_ix ?_ ?_
  refine pq_e ?_
  refine w_v 5
  refine pq_e ?_
  refine de_int
  refine dl_nil
  refine ds_cons ?_ ?_
  refine w_set 8 nd ?_
  refine w_op or_add ok_add ?_ ?_
  refine pq_e ?_
  refine w_v 8
  refine pq_e ?_
  refine de_frz ?_
  refine do_lst ?_
  refine w_lc ?_ ?_
  refine w_xa G.xa_answer ?_
  refine w_ix ix_seq ok_ix ?_ ?_
  refine pq_e ?_
  refine w_v 5
  refine pq_e ?_
  refine de_int
  refine w_lc ?_ ?_
  refine w_xa G.xa_at ?_
  refine w_ix ix_seq ok_ix ?_ ?_
  refine pq_e ?_
  refine w_v 5
  refine pq_e ?_
  refine de_int
  refine w_lc ?_ ?_
  refine w_xa G.xa_at ?_
  refine w_ix ix_seq ok_ix ?_ ?_
  refine pq_e ?_
  refine w_v 5
  refine pq_e ?_
  refine de_int
  refine w_lc ?_ ?_
  refine w_xa G.xa_number ?_
  refine w_ix ix_seq ok_ix ?_ ?_
  refine pq_e ?_
  refine w_v 5
  refine pq_e ?_
  refine de_int
  refine w_lc ?_ ?_
  refine w_xa G.xa_inputs ?_
  refine w_ix ix_seq ok_ix ?_ ?_
  refine pq_e ?_
  refine w_v 5
  refine pq_e ?_
  refine de_int
  refine w_lc ?_ ?_
  refine w_xa G.xa_number ?_
  refine w_ix ix_seq ok_ix ?_ ?_
  refine pq_e ?_
  refine w_v 5
  refine pq_e ?_
  refine de_int
  refine dl_nil
  refine ds_cons ?_ ?_
  refine ds_if ?_ ?_ ?_
  refine dt_not ?_
  refine w_tval ?_
  refine w_call C_law_alike hr ?_
  refine w_uf ?_ ?_
  refine w_ty call_tuple_of ok_tuple G.f_tuple (by decide +kernel) ?_
  refine w_ac ?_ ?_
  refine pq_e ?_
  refine w_op or_add ok_add ?_ ?_
  refine pq_e ?_
  refine w_v 8
  refine pq_e ?_
  refine de_frz ?_
  refine do_lst ?_
  refine w_lc ?_ ?_
  refine w_xa G.xa_name ?_
  refine w_ix ix_seq ok_ix ?_ ?_
  refine pq_e ?_
  refine w_v 5
  refine pq_e ?_
  refine de_int
  refine dl_nil
  refine da_nil
  refine w_uf ?_ ?_
  refine de_tup ?_
  refine w_lc ?_ ?_
  refine w_v 1
  refine w_lc ?_ ?_
  refine w_v 2
  refine w_lc ?_ ?_
  refine w_v 3
  refine w_lc ?_ ?_
  refine w_v 4
  refine w_lc ?_ ?_
  refine w_v 1
  refine w_lc ?_ ?_
  refine w_v 2
  refine w_lc ?_ ?_
  refine w_v 3
  refine w_lc ?_ ?_
  refine w_v 4
  refine w_lc ?_ ?_
  refine w_v 1
  refine w_lc ?_ ?_
  refine w_v 2
  refine w_lc ?_ ?_
  refine w_v 4
  refine w_lc ?_ ?_
  refine w_v 3
  refine w_lc ?_ ?_
  refine w_v 2
  refine w_lc ?_ ?_
  refine w_v 4
  refine dl_nil
  refine du_nil
  refine ds_one ?_
  refine ds_ret ?_
  refine de_bl
  refine ds_nil
  refine ds_cons ?_ ?_
  refine w_set 9 nd ?_
  refine de_frz ?_
  refine do_lst ?_
  refine w_lc ?_ ?_
  refine w_mk2k ck_NoHead G.n_NoHead_word G.n_NoHead_at hr ?_
  refine w_kc ?_ ?_
  refine w_v 3
  refine w_kc ?_ ?_
  refine w_v 1
  refine dk_nil
  refine w_lc ?_ ?_
  refine w_mk2r ck_NoStock G.n_NoStock_word G.n_NoStock_at hr ?_
  refine w_kc ?_ ?_
  refine w_v 1
  refine w_kc ?_ ?_
  refine w_v 4
  refine dk_nil
  refine w_lc ?_ ?_
  refine w_mk2r ck_Clash G.n_Clash_at G.n_Clash_number hr ?_
  refine w_kc ?_ ?_
  refine w_v 1
  refine w_kc ?_ ?_
  refine w_v 3
  refine dk_nil
  refine w_lc ?_ ?_
  refine w_mk1k ck_NoDoer G.n_NoDoer_inputs hr ?_
  refine w_kc ?_ ?_
  refine w_v 2
  refine dk_nil
  refine dl_nil
  refine ds_cons ?_ ?_
  refine w_set 8 nd ?_
  refine de_frz ?_
  refine do_lst ?_
  refine w_lc ?_ ?_
  refine w_xa G.xa_word ?_
  refine w_ix ix_seq ok_ix ?_ ?_
  refine pq_e ?_
  refine w_v 9
  refine pq_e ?_
  refine de_int
  refine w_lc ?_ ?_
  refine w_xa G.xa_at ?_
  refine w_ix ix_seq ok_ix ?_ ?_
  refine pq_e ?_
  refine w_v 9
  refine pq_e ?_
  refine de_int
  refine w_lc ?_ ?_
  refine w_xa G.xa_word ?_
  refine w_ix ix_seq ok_ix ?_ ?_
  refine pq_e ?_
  refine w_v 9
  refine pq_e ?_
  refine de_int
  refine w_lc ?_ ?_
  refine w_xa G.xa_at ?_
  refine w_ix ix_seq ok_ix ?_ ?_
  refine pq_e ?_
  refine w_v 9
  refine pq_e ?_
  refine de_int
  refine w_lc ?_ ?_
  refine w_xa G.xa_at ?_
  refine w_ix ix_seq ok_ix ?_ ?_
  refine pq_e ?_
  refine w_v 9
  refine pq_e ?_
  refine de_int
  refine w_lc ?_ ?_
  refine w_xa G.xa_number ?_
  refine w_ix ix_seq ok_ix ?_ ?_
  refine pq_e ?_
  refine w_v 9
  refine pq_e ?_
  refine de_int
  refine w_lc ?_ ?_
  refine w_xa G.xa_inputs ?_
  refine w_ix ix_seq ok_ix ?_ ?_
  refine pq_e ?_
  refine w_v 9
  refine pq_e ?_
  refine de_int
  refine dl_nil
  refine ds_one ?_
  refine ds_ret ?_
  refine w_call C_law_alike hr ?_
  refine w_uf ?_ ?_
  refine w_ty call_tuple_of ok_tuple G.f_tuple (by decide +kernel) ?_
  refine w_ac ?_ ?_
  refine pq_e ?_
  refine w_v 8
  refine da_nil
  refine w_uf ?_ ?_
  refine de_tup ?_
  refine w_lc ?_ ?_
  refine w_v 3
  refine w_lc ?_ ?_
  refine w_v 1
  refine w_lc ?_ ?_
  refine w_v 4
  refine w_lc ?_ ?_
  refine w_v 1
  refine w_lc ?_ ?_
  refine w_v 3
  refine w_lc ?_ ?_
  refine w_v 1
  refine w_lc ?_ ?_
  refine w_v 2
  refine dl_nil
  refine du_nil
/-! law -/
def sg_law : Sig := ⟨2, 1, fun i => false, false⟩
def b_law (K : PySem.W.Frag) : SF := sRt (eA allD (aC (qE (eLc (wRg1 (eA max2D (aC (qE (eC (.int 2))) (aC (qE (eA lenD (aC (qE (eSl slD (qE (eV 0)) (pN) (pS (eC (.int 6))))) (aN)))) (aN))))) [1] (gN 1) (tYes1) (eCallS sg_law_right (S_law_right K) (uT (eCallS sg_law_flow S_law_flow (uF (eV 0) (uF (eV 1) (uN)))) (uN))))) (aN)))
def S_law (K : PySem.W.Frag) : SemF := semOf sg_law (b_law K)
def N_law : List Str := ["_law_script", "_law_k"]
theorem sc_law : FnScope N_law ["_law_script"] (defScope (topS 24)) := ⟨rfl, rfl, rfl, by decide +kernel, rfl, by decide +kernel, by decide +kernel⟩
theorem ok_law {P : Program} {w : World} {K : PySem.W.Frag} {mg : Str → Option Value} {base : Heap} {f : Addr} {fd : FuncData} (F : FnP K "law" (topS 24) f fd) (G : Gf K mg) (C_law_flow : Cal P w K mg base "_law_flow" 2 sg_law_flow S_law_flow) (C_law_right : Cal P w K mg base "_law_right" 4 sg_law_right (S_law_right K))  :
    FnOk P w K mg base CX0 5 f fd ["_law_script"] (spOf K w sg_law (S_law K)) := by
  refine fn_body F sc_law rfl rfl fun cdv A outer s H E hr => ?_
  have nd : N_law.Nodup := sc_law.nd
  have hu65 : (A.deeper (envOfC "law" (defScope (topS 24)) s.heap.objs.size f cdv)).units + 65 < cLine := by have := hr.un; omega
  unfold b_law
  refine ds_one ?_
  refine ds_ret ?_
  refine w_bi (cr_all rfl) ok_all G.f_all (by decide +kernel) ?_
  refine w_ac ?_ ?_
  refine pq_e ?_
  refine de_frz ?_
  refine w_lcomp N_law (defScope (topS 24)) [("_law_k", 1)] nd ?_ (fun _ _ _ _ _ => ?_) (fun _ _ _ _ _ => ?_) (fun _ _ _ _ _ => ?_) (gN_len)
  refine w_rg1 G.f_range ?_
  refine w_bi (call_max2 rfl) ok_max2 G.f_max (by decide +kernel) ?_
  refine w_ac ?_ ?_
  refine pq_e ?_
  refine de_int
  refine w_ac ?_ ?_
  refine pq_e ?_
  refine w_bi call_len ok_len G.f_len (by decide +kernel) ?_
  refine w_ac ?_ ?_
  refine pq_e ?_
  refine w_sl ?_ ?_ ?_
  refine pq_e ?_
  refine w_v 0
  refine dp_none
  refine dp_some ?_
  refine de_int
  refine da_nil
  refine da_nil
  refine w_gn 1 nd
  refine dts_nil
  refine w_call C_law_right hr ?_
  refine w_ut ?_ ?_
  refine w_callO C_law_flow hr ?_
  refine w_uf ?_ ?_
  refine w_v 0
  refine w_uf ?_ ?_
  refine w_v 1
  refine du_nil
  refine du_nil
  refine da_nil
end Lw
end

section
set_option Elab.async false
set_option linter.all false
set_option maxRecDepth 100000
set_option maxHeartbeats 0
namespace Lw
open PySem PySem.Spec PyProof.Rows L2 Ev
def d0 : He.DefD := ⟨("NoHead", some "__init__"), "__init__", "NoHead.__init__", defArgs (mth 2), defBody (mth 2), defScope (mth 2), [], []⟩
def d1 : He.DefD := ⟨("NoProgram", some "__init__"), "__init__", "NoProgram.__init__", defArgs (mth 3), defBody (mth 3), defScope (mth 3), [], []⟩
def d2 : He.DefD := ⟨("NoText", some "__init__"), "__init__", "NoText.__init__", defArgs (mth 4), defBody (mth 4), defScope (mth 4), [], []⟩
def d3 : He.DefD := ⟨("NoStock", some "__init__"), "__init__", "NoStock.__init__", defArgs (mth 5), defBody (mth 5), defScope (mth 5), [], []⟩
def d4 : He.DefD := ⟨("NoAnswer", some "__init__"), "__init__", "NoAnswer.__init__", defArgs (mth 6), defBody (mth 6), defScope (mth 6), [], []⟩
def d5 : He.DefD := ⟨("NoInputs", some "__init__"), "__init__", "NoInputs.__init__", defArgs (mth 7), defBody (mth 7), defScope (mth 7), [], []⟩
def d6 : He.DefD := ⟨("Clash", some "__init__"), "__init__", "Clash.__init__", defArgs (mth 8), defBody (mth 8), defScope (mth 8), [], []⟩
def d7 : He.DefD := ⟨("NoRow", some "__init__"), "__init__", "NoRow.__init__", defArgs (mth 9), defBody (mth 9), defScope (mth 9), [], []⟩
def d8 : He.DefD := ⟨("NoQuestion", some "__init__"), "__init__", "NoQuestion.__init__", defArgs (mth 10), defBody (mth 10), defScope (mth 10), [], []⟩
def d9 : He.DefD := ⟨("NoDoer", some "__init__"), "__init__", "NoDoer.__init__", defArgs (mth 11), defBody (mth 11), defScope (mth 11), [], []⟩
def d10 : He.DefD := ⟨("NotKept", some "__init__"), "__init__", "NotKept.__init__", defArgs (mth 12), defBody (mth 12), defScope (mth 12), [], []⟩
def d11 : He.DefD := ⟨("NoName", some "__init__"), "__init__", "NoName.__init__", defArgs (mth 13), defBody (mth 13), defScope (mth 13), [], []⟩
def d12 : He.DefD := ⟨("_law_cell", none), "_law_cell", "_law_cell", defArgs (topS 15), defBody (topS 15), defScope (topS 15), [], []⟩
def d13 : He.DefD := ⟨("_law_flow", none), "_law_flow", "_law_flow", defArgs (topS 16), defBody (topS 16), defScope (topS 16), [], []⟩
def d14 : He.DefD := ⟨("_law_draw", none), "_law_draw", "_law_draw", defArgs (topS 17), defBody (topS 17), defScope (topS 17), [], []⟩
def d15 : He.DefD := ⟨("_law_alike", none), "_law_alike", "_law_alike", defArgs (topS 18), defBody (topS 18), defScope (topS 18), [], []⟩
def d16 : He.DefD := ⟨("_law_sorts", none), "_law_sorts", "_law_sorts", defArgs (topS 19), defBody (topS 19), defScope (topS 19), [], []⟩
def d17 : He.DefD := ⟨("_law_thing", none), "_law_thing", "_law_thing", defArgs (topS 20), defBody (topS 20), defScope (topS 20), [], []⟩
def d18 : He.DefD := ⟨("_law_bases", none), "_law_bases", "_law_bases", defArgs (topS 21), defBody (topS 21), defScope (topS 21), [], []⟩
def d19 : He.DefD := ⟨("_law_bases_due", none), "_law_bases_due", "_law_bases_due", defArgs (topS 22), defBody (topS 22), defScope (topS 22), [], []⟩
def d20 : He.DefD := ⟨("_law_right", none), "_law_right", "_law_right", defArgs (topS 23), defBody (topS 23), defScope (topS 23), [], []⟩
def d21 : He.DefD := ⟨("law", none), "law", "law", defArgs (topS 24), defBody (topS 24), defScope (topS 24), [], []⟩
def fn : List He.DefD := [d0, d1, d2, d3, d4, d5, d6, d7, d8, d9, d10, d11, d12, d13, d14, d15, d16, d17, d18, d19, d20, d21]
def fa : List He.Fa := [.glo "MakeError", .glo "NoHead", .glo "NoProgram", .glo "NoText", .glo "NoStock", .glo "NoAnswer", .glo "NoInputs", .glo "Clash", .glo "NoRow", .glo "NoQuestion", .glo "NoDoer", .glo "NotKept", .glo "NoName", .glo "_law_cell", .glo "_law_flow", .glo "_law_draw", .glo "_law_alike", .glo "_law_sorts", .glo "_law_thing", .glo "_law_bases", .glo "_law_bases_due", .glo "_law_right", .glo "law", .free "IndexError", .free "KeyError", .free "LookupError", .free "ValueError", .free "all", .free "bool", .free "enumerate", .free "isinstance", .free "len", .free "list", .free "max", .free "range", .free "str", .free "tuple", .free "zip"]
def bmOf (l : List String) : List Value := l.map Value.type
/-- the facts of one class -/
def clsB1 (K : PySem.W.Frag) (x : Str) (newId : String) (bm : List Value) : Bool :=
  PySem.W.excInitIn K (He.ga K x) bm newId && (PySem.W.excOver K (He.ga K x) bm &&
  (He.eqO (PySem.W.findIn K (.ref (He.ga K x)) "__setattr__") (some (some (.builtin "object.__setattr__"))) && (PySem.W.hasDictIn K (He.ga K x) && (PySem.W.keepIn K (.ref (He.ga K x)) &&
  (He.eqO (PySem.W.findIn K (.ref (He.ga K x)) "__getattribute__") (some (some (.builtin "BaseException.__getattribute__"))) && (He.eqO (PySem.W.findIn K (.ref (He.ga K x)) "__getattr__") (some none) &&
  (decide (PySem.W.subIn K (.ref (He.ga K x)) (.type "BaseException") = some true) && (He.eqO (PySem.W.findIn K (.ref (He.ga K x)) "__class__") (some (some (.builtin "object.__class__"))) &&
  (He.eqO (PySem.W.specialIn K (.builtin "object.__class__") "__get__") (some (some (.builtin "getset_descriptor.__get__"))) && (decide (PySem.W.takesIn K (.builtin "object.__class__") = some true) && decide (PySem.W.mroIn K (He.ga K x) (.type "object") = some true)))))))))))
theorem clsB1_ok {K : PySem.W.Frag} {x : Str} {newId : String} {bm : List Value} (h : clsB1 K x newId bm = true) : XcV.XcC K (He.ga K x) newId bm := by
  obtain ⟨h1, h⟩ := He.ba h
  obtain ⟨h2, h⟩ := He.ba h
  obtain ⟨h3, h⟩ := He.ba h
  obtain ⟨h4, h⟩ := He.ba h
  obtain ⟨h5, h⟩ := He.ba h
  obtain ⟨h6, h⟩ := He.ba h
  obtain ⟨h7, h⟩ := He.ba h
  obtain ⟨h8, h⟩ := He.ba h
  obtain ⟨h9, h⟩ := He.ba h
  obtain ⟨h10, h⟩ := He.ba h
  obtain ⟨h11, h⟩ := He.ba h
  exact ⟨h1, h2, He.eqO_ok h3, h4, h5, He.eqO_ok h6, He.eqO_ok h7, of_decide_eq_true h8, He.eqO_ok h9, He.eqO_ok h10, of_decide_eq_true h11, of_decide_eq_true h⟩
def initB (K : PySem.W.Frag) (x : Str) : Bool := He.eqO (PySem.W.findIn K (.ref (He.ga K x)) "__init__") (some (some (.ref (He.fAd K (x, some "__init__"))))) && decide (PySem.W.typeIn K (.ref (He.fAd K (x, some "__init__"))) = some (.type "function"))
theorem initB_ok {K : PySem.W.Frag} {x : Str} (h : initB K x = true) : PySem.W.findIn K (.ref (He.ga K x)) "__init__" = some (some (.ref (He.fAd K (x, some "__init__")))) ∧ PySem.W.typeIn K (.ref (He.fAd K (x, some "__init__"))) = some (.type "function") := by
  obtain ⟨h1, h2⟩ := He.ba h
  exact ⟨He.eqO_ok h1, of_decide_eq_true h2⟩
def noB (K : PySem.W.Frag) (x f : Str) : Bool := He.eqO (PySem.W.findIn K (.ref (He.ga K x)) f) (some none)
def isVal (r : Option PySem.W.CFound) (id : String) : Bool := match r with
  | some (.val (.builtin s)) => s == id
  | _ => false
theorem isVal_ok {r : Option PySem.W.CFound} {id : String} (h : isVal r id = true) : r = some (.val (.builtin id)) := by
  unfold isVal at h
  split at h
  · rw [beq_iff_eq.mp h]
  · cases h
def readB (K : PySem.W.Frag) (x : Str) : Bool := PySem.W.readsIn K (He.ga K x) (.type "type") && He.eqO (PySem.W.specialIn K (.ref (He.ga K x)) "__getattribute__") (some (some (.builtin "type.__getattribute__")))
theorem readB_ok {K : PySem.W.Frag} {x : Str} (h : readB K x = true) : ClX.CRead K (He.ga K x) (.type "type") := by
  obtain ⟨h1, h2⟩ := He.ba h
  exact ⟨h1, He.eqO_ok h2⟩
def kitB1 (K : PySem.W.Frag) (x : Str) (cv : Value) (b : Bool) : Bool := decide (PySem.W.kitOne K (.ref (He.ga K x)) cv = some b)
def xb (K : PySem.W.Frag) : List Bool := [
  clsB1 K "NoHead" "ValueError.__new__" (bmOf ["ValueError", "Exception", "BaseException", "object"]),
  initB K "NoHead",
  noB K "NoHead" "answer",
  noB K "NoHead" "at",
  noB K "NoHead" "inputs",
  noB K "NoHead" "name",
  noB K "NoHead" "number",
  noB K "NoHead" "word",
  clsB1 K "NoProgram" "ValueError.__new__" (bmOf ["ValueError", "Exception", "BaseException", "object"]),
  initB K "NoProgram",
  noB K "NoProgram" "answer",
  noB K "NoProgram" "at",
  noB K "NoProgram" "inputs",
  noB K "NoProgram" "name",
  noB K "NoProgram" "number",
  noB K "NoProgram" "word",
  clsB1 K "NoText" "ValueError.__new__" (bmOf ["ValueError", "Exception", "BaseException", "object"]),
  initB K "NoText",
  noB K "NoText" "answer",
  noB K "NoText" "at",
  noB K "NoText" "inputs",
  noB K "NoText" "name",
  noB K "NoText" "number",
  noB K "NoText" "word",
  clsB1 K "NoStock" "ValueError.__new__" (bmOf ["ValueError", "Exception", "BaseException", "object"]),
  initB K "NoStock",
  noB K "NoStock" "answer",
  noB K "NoStock" "at",
  noB K "NoStock" "inputs",
  noB K "NoStock" "name",
  noB K "NoStock" "number",
  noB K "NoStock" "word",
  clsB1 K "NoAnswer" "ValueError.__new__" (bmOf ["ValueError", "Exception", "BaseException", "object"]),
  initB K "NoAnswer",
  noB K "NoAnswer" "answer",
  noB K "NoAnswer" "at",
  noB K "NoAnswer" "inputs",
  noB K "NoAnswer" "name",
  noB K "NoAnswer" "number",
  noB K "NoAnswer" "word",
  clsB1 K "NoInputs" "ValueError.__new__" (bmOf ["ValueError", "Exception", "BaseException", "object"]),
  initB K "NoInputs",
  noB K "NoInputs" "answer",
  noB K "NoInputs" "at",
  noB K "NoInputs" "inputs",
  noB K "NoInputs" "name",
  noB K "NoInputs" "number",
  noB K "NoInputs" "word",
  clsB1 K "Clash" "ValueError.__new__" (bmOf ["ValueError", "Exception", "BaseException", "object"]),
  initB K "Clash",
  noB K "Clash" "answer",
  noB K "Clash" "at",
  noB K "Clash" "inputs",
  noB K "Clash" "name",
  noB K "Clash" "number",
  noB K "Clash" "word",
  clsB1 K "NoRow" "ValueError.__new__" (bmOf ["ValueError", "Exception", "BaseException", "object"]),
  initB K "NoRow",
  noB K "NoRow" "answer",
  noB K "NoRow" "at",
  noB K "NoRow" "inputs",
  noB K "NoRow" "name",
  noB K "NoRow" "number",
  noB K "NoRow" "word",
  clsB1 K "NoQuestion" "LookupError.__new__" (bmOf ["LookupError", "Exception", "BaseException", "object"]),
  initB K "NoQuestion",
  noB K "NoQuestion" "answer",
  noB K "NoQuestion" "at",
  noB K "NoQuestion" "inputs",
  noB K "NoQuestion" "name",
  noB K "NoQuestion" "number",
  noB K "NoQuestion" "word",
  clsB1 K "NoDoer" "LookupError.__new__" (bmOf ["LookupError", "Exception", "BaseException", "object"]),
  initB K "NoDoer",
  noB K "NoDoer" "answer",
  noB K "NoDoer" "at",
  noB K "NoDoer" "inputs",
  noB K "NoDoer" "name",
  noB K "NoDoer" "number",
  noB K "NoDoer" "word",
  clsB1 K "NotKept" "IndexError.__new__" (bmOf ["IndexError", "LookupError", "Exception", "BaseException", "object"]),
  initB K "NotKept",
  noB K "NotKept" "answer",
  noB K "NotKept" "at",
  noB K "NotKept" "inputs",
  noB K "NotKept" "name",
  noB K "NotKept" "number",
  noB K "NotKept" "word",
  clsB1 K "NoName" "LookupError.__new__" (bmOf ["KeyError", "LookupError", "Exception", "BaseException", "object"]),
  initB K "NoName",
  noB K "NoName" "answer",
  noB K "NoName" "at",
  noB K "NoName" "inputs",
  noB K "NoName" "name",
  noB K "NoName" "number",
  noB K "NoName" "word",
  isVal (PySem.W.findCls K (.type "IndexError") (.type "type") "__init__") "IndexError.__init__",
  isVal (PySem.W.findCls K (.type "KeyError") (.type "type") "__init__") "KeyError.__init__",
  isVal (PySem.W.findCls K (.type "LookupError") (.type "type") "__init__") "LookupError.__init__",
  readB K "MakeError",
  isVal (PySem.W.findCls K (.ref (He.ga K "MakeError")) (.type "type") "__init__") "ValueError.__init__",
  kitB1 K "NoHead" (.ref (He.ga K "NoHead")) true,
  kitB1 K "NoHead" (.ref (He.ga K "NoProgram")) false,
  kitB1 K "NoHead" (.ref (He.ga K "NoText")) false,
  kitB1 K "NoHead" (.ref (He.ga K "NoStock")) false,
  kitB1 K "NoHead" (.ref (He.ga K "NoAnswer")) false,
  kitB1 K "NoHead" (.ref (He.ga K "NoInputs")) false,
  kitB1 K "NoHead" (.ref (He.ga K "Clash")) false,
  kitB1 K "NoHead" (.ref (He.ga K "NoRow")) false,
  kitB1 K "NoHead" (.ref (He.ga K "NoQuestion")) false,
  kitB1 K "NoHead" (.ref (He.ga K "NoDoer")) false,
  kitB1 K "NoHead" (.ref (He.ga K "NotKept")) false,
  kitB1 K "NoHead" (.ref (He.ga K "NoName")) false,
  kitB1 K "NoHead" (.ref (He.ga K "MakeError")) true,
  kitB1 K "NoHead" (.type "ValueError") true,
  kitB1 K "NoHead" (.type "LookupError") false,
  kitB1 K "NoHead" (.type "IndexError") false,
  kitB1 K "NoHead" (.type "KeyError") false,
  kitB1 K "NoProgram" (.ref (He.ga K "NoHead")) false,
  kitB1 K "NoProgram" (.ref (He.ga K "NoProgram")) true,
  kitB1 K "NoProgram" (.ref (He.ga K "NoText")) false,
  kitB1 K "NoProgram" (.ref (He.ga K "NoStock")) false,
  kitB1 K "NoProgram" (.ref (He.ga K "NoAnswer")) false,
  kitB1 K "NoProgram" (.ref (He.ga K "NoInputs")) false,
  kitB1 K "NoProgram" (.ref (He.ga K "Clash")) false,
  kitB1 K "NoProgram" (.ref (He.ga K "NoRow")) false,
  kitB1 K "NoProgram" (.ref (He.ga K "NoQuestion")) false,
  kitB1 K "NoProgram" (.ref (He.ga K "NoDoer")) false,
  kitB1 K "NoProgram" (.ref (He.ga K "NotKept")) false,
  kitB1 K "NoProgram" (.ref (He.ga K "NoName")) false,
  kitB1 K "NoProgram" (.ref (He.ga K "MakeError")) true,
  kitB1 K "NoProgram" (.type "ValueError") true,
  kitB1 K "NoProgram" (.type "LookupError") false,
  kitB1 K "NoProgram" (.type "IndexError") false,
  kitB1 K "NoProgram" (.type "KeyError") false,
  kitB1 K "NoText" (.ref (He.ga K "NoHead")) false,
  kitB1 K "NoText" (.ref (He.ga K "NoProgram")) false,
  kitB1 K "NoText" (.ref (He.ga K "NoText")) true,
  kitB1 K "NoText" (.ref (He.ga K "NoStock")) false,
  kitB1 K "NoText" (.ref (He.ga K "NoAnswer")) false,
  kitB1 K "NoText" (.ref (He.ga K "NoInputs")) false,
  kitB1 K "NoText" (.ref (He.ga K "Clash")) false,
  kitB1 K "NoText" (.ref (He.ga K "NoRow")) false,
  kitB1 K "NoText" (.ref (He.ga K "NoQuestion")) false,
  kitB1 K "NoText" (.ref (He.ga K "NoDoer")) false,
  kitB1 K "NoText" (.ref (He.ga K "NotKept")) false,
  kitB1 K "NoText" (.ref (He.ga K "NoName")) false,
  kitB1 K "NoText" (.ref (He.ga K "MakeError")) true,
  kitB1 K "NoText" (.type "ValueError") true,
  kitB1 K "NoText" (.type "LookupError") false,
  kitB1 K "NoText" (.type "IndexError") false,
  kitB1 K "NoText" (.type "KeyError") false,
  kitB1 K "NoStock" (.ref (He.ga K "NoHead")) false,
  kitB1 K "NoStock" (.ref (He.ga K "NoProgram")) false,
  kitB1 K "NoStock" (.ref (He.ga K "NoText")) false,
  kitB1 K "NoStock" (.ref (He.ga K "NoStock")) true,
  kitB1 K "NoStock" (.ref (He.ga K "NoAnswer")) false,
  kitB1 K "NoStock" (.ref (He.ga K "NoInputs")) false,
  kitB1 K "NoStock" (.ref (He.ga K "Clash")) false,
  kitB1 K "NoStock" (.ref (He.ga K "NoRow")) false,
  kitB1 K "NoStock" (.ref (He.ga K "NoQuestion")) false,
  kitB1 K "NoStock" (.ref (He.ga K "NoDoer")) false,
  kitB1 K "NoStock" (.ref (He.ga K "NotKept")) false,
  kitB1 K "NoStock" (.ref (He.ga K "NoName")) false,
  kitB1 K "NoStock" (.ref (He.ga K "MakeError")) true,
  kitB1 K "NoStock" (.type "ValueError") true,
  kitB1 K "NoStock" (.type "LookupError") false,
  kitB1 K "NoStock" (.type "IndexError") false,
  kitB1 K "NoStock" (.type "KeyError") false,
  kitB1 K "NoAnswer" (.ref (He.ga K "NoHead")) false,
  kitB1 K "NoAnswer" (.ref (He.ga K "NoProgram")) false,
  kitB1 K "NoAnswer" (.ref (He.ga K "NoText")) false,
  kitB1 K "NoAnswer" (.ref (He.ga K "NoStock")) false,
  kitB1 K "NoAnswer" (.ref (He.ga K "NoAnswer")) true,
  kitB1 K "NoAnswer" (.ref (He.ga K "NoInputs")) false,
  kitB1 K "NoAnswer" (.ref (He.ga K "Clash")) false,
  kitB1 K "NoAnswer" (.ref (He.ga K "NoRow")) false,
  kitB1 K "NoAnswer" (.ref (He.ga K "NoQuestion")) false,
  kitB1 K "NoAnswer" (.ref (He.ga K "NoDoer")) false,
  kitB1 K "NoAnswer" (.ref (He.ga K "NotKept")) false,
  kitB1 K "NoAnswer" (.ref (He.ga K "NoName")) false,
  kitB1 K "NoAnswer" (.ref (He.ga K "MakeError")) true,
  kitB1 K "NoAnswer" (.type "ValueError") true,
  kitB1 K "NoAnswer" (.type "LookupError") false,
  kitB1 K "NoAnswer" (.type "IndexError") false,
  kitB1 K "NoAnswer" (.type "KeyError") false,
  kitB1 K "NoInputs" (.ref (He.ga K "NoHead")) false,
  kitB1 K "NoInputs" (.ref (He.ga K "NoProgram")) false,
  kitB1 K "NoInputs" (.ref (He.ga K "NoText")) false,
  kitB1 K "NoInputs" (.ref (He.ga K "NoStock")) false,
  kitB1 K "NoInputs" (.ref (He.ga K "NoAnswer")) false,
  kitB1 K "NoInputs" (.ref (He.ga K "NoInputs")) true,
  kitB1 K "NoInputs" (.ref (He.ga K "Clash")) false,
  kitB1 K "NoInputs" (.ref (He.ga K "NoRow")) false,
  kitB1 K "NoInputs" (.ref (He.ga K "NoQuestion")) false,
  kitB1 K "NoInputs" (.ref (He.ga K "NoDoer")) false,
  kitB1 K "NoInputs" (.ref (He.ga K "NotKept")) false,
  kitB1 K "NoInputs" (.ref (He.ga K "NoName")) false,
  kitB1 K "NoInputs" (.ref (He.ga K "MakeError")) true,
  kitB1 K "NoInputs" (.type "ValueError") true,
  kitB1 K "NoInputs" (.type "LookupError") false,
  kitB1 K "NoInputs" (.type "IndexError") false,
  kitB1 K "NoInputs" (.type "KeyError") false,
  kitB1 K "Clash" (.ref (He.ga K "NoHead")) false,
  kitB1 K "Clash" (.ref (He.ga K "NoProgram")) false,
  kitB1 K "Clash" (.ref (He.ga K "NoText")) false,
  kitB1 K "Clash" (.ref (He.ga K "NoStock")) false,
  kitB1 K "Clash" (.ref (He.ga K "NoAnswer")) false,
  kitB1 K "Clash" (.ref (He.ga K "NoInputs")) false,
  kitB1 K "Clash" (.ref (He.ga K "Clash")) true,
  kitB1 K "Clash" (.ref (He.ga K "NoRow")) false,
  kitB1 K "Clash" (.ref (He.ga K "NoQuestion")) false,
  kitB1 K "Clash" (.ref (He.ga K "NoDoer")) false,
  kitB1 K "Clash" (.ref (He.ga K "NotKept")) false,
  kitB1 K "Clash" (.ref (He.ga K "NoName")) false,
  kitB1 K "Clash" (.ref (He.ga K "MakeError")) true,
  kitB1 K "Clash" (.type "ValueError") true,
  kitB1 K "Clash" (.type "LookupError") false,
  kitB1 K "Clash" (.type "IndexError") false,
  kitB1 K "Clash" (.type "KeyError") false,
  kitB1 K "NoRow" (.ref (He.ga K "NoHead")) false,
  kitB1 K "NoRow" (.ref (He.ga K "NoProgram")) false,
  kitB1 K "NoRow" (.ref (He.ga K "NoText")) false,
  kitB1 K "NoRow" (.ref (He.ga K "NoStock")) false,
  kitB1 K "NoRow" (.ref (He.ga K "NoAnswer")) false,
  kitB1 K "NoRow" (.ref (He.ga K "NoInputs")) false,
  kitB1 K "NoRow" (.ref (He.ga K "Clash")) false,
  kitB1 K "NoRow" (.ref (He.ga K "NoRow")) true,
  kitB1 K "NoRow" (.ref (He.ga K "NoQuestion")) false,
  kitB1 K "NoRow" (.ref (He.ga K "NoDoer")) false,
  kitB1 K "NoRow" (.ref (He.ga K "NotKept")) false,
  kitB1 K "NoRow" (.ref (He.ga K "NoName")) false,
  kitB1 K "NoRow" (.ref (He.ga K "MakeError")) true,
  kitB1 K "NoRow" (.type "ValueError") true,
  kitB1 K "NoRow" (.type "LookupError") false,
  kitB1 K "NoRow" (.type "IndexError") false,
  kitB1 K "NoRow" (.type "KeyError") false,
  kitB1 K "NoQuestion" (.ref (He.ga K "NoHead")) false,
  kitB1 K "NoQuestion" (.ref (He.ga K "NoProgram")) false,
  kitB1 K "NoQuestion" (.ref (He.ga K "NoText")) false,
  kitB1 K "NoQuestion" (.ref (He.ga K "NoStock")) false,
  kitB1 K "NoQuestion" (.ref (He.ga K "NoAnswer")) false,
  kitB1 K "NoQuestion" (.ref (He.ga K "NoInputs")) false,
  kitB1 K "NoQuestion" (.ref (He.ga K "Clash")) false,
  kitB1 K "NoQuestion" (.ref (He.ga K "NoRow")) false,
  kitB1 K "NoQuestion" (.ref (He.ga K "NoQuestion")) true,
  kitB1 K "NoQuestion" (.ref (He.ga K "NoDoer")) false,
  kitB1 K "NoQuestion" (.ref (He.ga K "NotKept")) false,
  kitB1 K "NoQuestion" (.ref (He.ga K "NoName")) false,
  kitB1 K "NoQuestion" (.ref (He.ga K "MakeError")) false,
  kitB1 K "NoQuestion" (.type "ValueError") false,
  kitB1 K "NoQuestion" (.type "LookupError") true,
  kitB1 K "NoQuestion" (.type "IndexError") false,
  kitB1 K "NoQuestion" (.type "KeyError") false,
  kitB1 K "NoDoer" (.ref (He.ga K "NoHead")) false,
  kitB1 K "NoDoer" (.ref (He.ga K "NoProgram")) false,
  kitB1 K "NoDoer" (.ref (He.ga K "NoText")) false,
  kitB1 K "NoDoer" (.ref (He.ga K "NoStock")) false,
  kitB1 K "NoDoer" (.ref (He.ga K "NoAnswer")) false,
  kitB1 K "NoDoer" (.ref (He.ga K "NoInputs")) false,
  kitB1 K "NoDoer" (.ref (He.ga K "Clash")) false,
  kitB1 K "NoDoer" (.ref (He.ga K "NoRow")) false,
  kitB1 K "NoDoer" (.ref (He.ga K "NoQuestion")) false,
  kitB1 K "NoDoer" (.ref (He.ga K "NoDoer")) true,
  kitB1 K "NoDoer" (.ref (He.ga K "NotKept")) false,
  kitB1 K "NoDoer" (.ref (He.ga K "NoName")) false,
  kitB1 K "NoDoer" (.ref (He.ga K "MakeError")) false,
  kitB1 K "NoDoer" (.type "ValueError") false,
  kitB1 K "NoDoer" (.type "LookupError") true,
  kitB1 K "NoDoer" (.type "IndexError") false,
  kitB1 K "NoDoer" (.type "KeyError") false,
  kitB1 K "NotKept" (.ref (He.ga K "NoHead")) false,
  kitB1 K "NotKept" (.ref (He.ga K "NoProgram")) false,
  kitB1 K "NotKept" (.ref (He.ga K "NoText")) false,
  kitB1 K "NotKept" (.ref (He.ga K "NoStock")) false,
  kitB1 K "NotKept" (.ref (He.ga K "NoAnswer")) false,
  kitB1 K "NotKept" (.ref (He.ga K "NoInputs")) false,
  kitB1 K "NotKept" (.ref (He.ga K "Clash")) false,
  kitB1 K "NotKept" (.ref (He.ga K "NoRow")) false,
  kitB1 K "NotKept" (.ref (He.ga K "NoQuestion")) false,
  kitB1 K "NotKept" (.ref (He.ga K "NoDoer")) false,
  kitB1 K "NotKept" (.ref (He.ga K "NotKept")) true,
  kitB1 K "NotKept" (.ref (He.ga K "NoName")) false,
  kitB1 K "NotKept" (.ref (He.ga K "MakeError")) false,
  kitB1 K "NotKept" (.type "ValueError") false,
  kitB1 K "NotKept" (.type "LookupError") true,
  kitB1 K "NotKept" (.type "IndexError") true,
  kitB1 K "NotKept" (.type "KeyError") false,
  kitB1 K "NoName" (.ref (He.ga K "NoHead")) false,
  kitB1 K "NoName" (.ref (He.ga K "NoProgram")) false,
  kitB1 K "NoName" (.ref (He.ga K "NoText")) false,
  kitB1 K "NoName" (.ref (He.ga K "NoStock")) false,
  kitB1 K "NoName" (.ref (He.ga K "NoAnswer")) false,
  kitB1 K "NoName" (.ref (He.ga K "NoInputs")) false,
  kitB1 K "NoName" (.ref (He.ga K "Clash")) false,
  kitB1 K "NoName" (.ref (He.ga K "NoRow")) false,
  kitB1 K "NoName" (.ref (He.ga K "NoQuestion")) false,
  kitB1 K "NoName" (.ref (He.ga K "NoDoer")) false,
  kitB1 K "NoName" (.ref (He.ga K "NotKept")) false,
  kitB1 K "NoName" (.ref (He.ga K "NoName")) true,
  kitB1 K "NoName" (.ref (He.ga K "MakeError")) false,
  kitB1 K "NoName" (.type "ValueError") false,
  kitB1 K "NoName" (.type "LookupError") true,
  kitB1 K "NoName" (.type "IndexError") false,
  kitB1 K "NoName" (.type "KeyError") true]
abbrev AlX : Type := He.AlD × List Bool
def nX : Nat := 305
def valX : AlX := (He.valD fn, List.replicate nX true)
def obsX (K : PySem.W.Frag) : AlX := (He.obsD fa fn K, xb K)
def obsXG (g : Addr → Option Obj) : AlX := obsX (He.frG g (He.asD g 5 ++ [cStatics]))
def hk : PySem.W.Hook where
  α := AlX
  obs := fun s => obsXG s.heap.get?
  val := fun _ => valX
  says := fun _ h => ∃ K : PySem.W.Frag, K.In h ∧ obsX K = valX
  of := fun _ _ e => ⟨_, He.frG_in, e⟩
  keeps := fun _ _ _ ⟨K, hK, c⟩ k => ⟨K, PySem.W.Frag.In.keeps hK k, c⟩
def ob (s : PySem.W.SharedT) : AlX := obsXG (HandSHeadRun.getT s)
theorem ob_eq (s : PySem.W.SharedT) : ob s = hk.obs s.abs := by
  have e : HandSHeadRun.getT s = s.abs.heap.get? := funext fun a => HandSHeadRun.getT_eq s a
  show obsXG (HandSHeadRun.getT s) = obsXG s.abs.heap.get?
  rw [e]
abbrev R : PySem.W.OpenRow := PySem.W.OpenLaw.row PySem.Challenge.rw_leastmaker_k01_refusals
def names : List PySem.Str := ["MakeError", "NoHead", "NoProgram", "NoText", "NoStock", "NoAnswer", "NoInputs", "Clash", "NoRow", "NoQuestion", "NoDoer", "NotKept", "NoName", "_law_cell", "_law_flow", "_law_draw", "_law_alike", "_law_sorts", "_law_thing", "_law_bases", "_law_bases_due", "_law_right"]
theorem run (w : World) : HandSHeadRun.RunEq R (PySem.W.view R.prog [24]) hk ob 6000 names w := by
  refine PySem.W.byRow2 "special-get-raises" (P := fun w => HandSHeadRun.RunEq R (PySem.W.view R.prog [24]) hk ob 6000 names w) (fun w => ?_) (fun w => ?_) w
  · intro os
    kernel_rfl
  · intro os
    kernel_rfl
end Lw

end

section
set_option Elab.async false
set_option linter.all false
set_option maxRecDepth 100000
namespace Lw
open PySem PySem.Spec PyProof.Rows L2 Ev
abbrev fl (a b c : Int) : D := .lst [.int a, .int b, .int c]
theorem log_small {x : Int} (h : 0 ≤ x) (h2 : x < 18446744073709551616) : x.natAbs.log2 < 64 := by
  by_cases h0 : x.natAbs = 0
  · rw [h0]; decide
  · rw [Nat.log2_lt h0]
    show x.natAbs < 18446744073709551616
    omega
theorem mulD_ok {x y : Int} (h : 0 ≤ x) (h2 : x < 18446744073709551616) (h3 : 0 ≤ y) (h4 : y < 18446744073709551616) : mulD (.int x) (.int y) = some (.int (x * y)) := by
  show (if x.natAbs.log2 + y.natAbs.log2 < 1000000 then some (D.int (x * y)) else none) = _
  rw [if_pos]
  have := log_small h h2
  have := log_small h3 h4
  omega
theorem fdivD_ok {x y : Int} (h : 0 < y) (h2 : y.natAbs.log2 < 9000) : fdivD (.int x) (.int y) = some (.int (x / y)) := by
  show (if 0 < y ∧ y.natAbs.log2 < 9000 then some (D.int (x / y)) else none) = _
  rw [if_pos ⟨h, h2⟩]
theorem modD_ok {x y : Int} (h : 0 < y) : modD (.int x) (.int y) = some (.int (x % y)) := by
  show (if 0 < y then some (D.int (x % y)) else none) = _
  rw [if_pos h]
theorem addD_ok {x y : Int} : addD (.int x) (.int y) = some (.int (x + y)) := rfl
theorem subD_ok {x y : Int} : subD (.int x) (.int y) = some (.int (x - y)) := rfl
/-- an expression that changes nothing -/
def Is (f : EF) (env : Ev.Env) (d : D) : Prop := f env = some (d, env)
theorem is_c {d : D} {env : Ev.Env} : Is (eC d) env d := rfl
theorem is_v {i : Nat} {d : D} {env : Ev.Env} (h : env[i]? = some (some d)) : Is (eV i) env d := by
  unfold Is eV
  rw [h] <;> rfl
theorem bind1 {α β : Type} (x : α) (f : α → Option β) : (some x).bind f = f x := rfl
theorem map1 {α β : Type} (x : α) (f : α → β) : (some x).map f = some (f x) := rfl
theorem is_2 {g : D → D → Option D} {f h : EF} {env : Ev.Env} {a b d : D} (h1 : Is f env a) (h2 : Is h env b) (e : g a b = some d) : Is (e2 g (qE f) (qE h)) env d := by
  unfold Is at *
  unfold e2 qE
  rw [h1, map1, bind1]
  dsimp only
  rw [h2, map1, bind1]
  dsimp only
  rw [bind1, bind1, e, map1]
/-- the left one a slot that is owned -/
theorem is_2o {g : D → D → Option D} {i : Nat} {h : EF} {env : Ev.Env} {a b d : D} (h1 : env[i]? = some (some a)) (h2 : Is h env b) (e : g a b = some d) : Is (e2 g (qV i) (qE h)) env d := by
  unfold Is at *
  have hj : env[i]?.join = some a := by rw [h1]; rfl
  unfold e2 qE qV
  rw [hj, map1, bind1]
  dsimp only
  rw [h2, map1, bind1]
  dsimp only
  rw [hj, bind1, bind1, e, map1]
theorem seq_nx {f g : SF} {env env1 : Ev.Env} (h : f env = some (.nx, env1)) : sSeq f g env = g env1 := by
  unfold sSeq
  rw [h] <;> rfl
theorem seq_rt {f g : SF} {env env1 : Ev.Env} {d : D} (h : f env = some (.rt d, env1)) : sSeq f g env = some (.rt d, env1) := by
  unfold sSeq
  rw [h] <;> rfl
theorem set_is {i : Nat} {f : EF} {env env1 : Ev.Env} {d : D} (h : f env = some (d, env1)) : sSet i f env = some (.nx, env1.set i (some d)) := by
  unfold sSet
  rw [h] <;> rfl
theorem rt_is {f : EF} {env env1 : Ev.Env} {d : D} (h : f env = some (d, env1)) : sRt f env = some (.rt d, env1) := by
  unfold sRt
  rw [h] <;> rfl
theorem if_is {t : TF} {f g : SF} {env env1 : Ev.Env} {b : Bool} (h : t env = some (b, env1)) : sIf t f g env = if b = true then f env1 else g env1 := by
  unfold sIf
  rw [h] <;> rfl
theorem tb_is {f : EF} {env env1 : Ev.Env} {b : Bool} (h : f env = some (.bl b, env1)) : tB1 f env = some (b, env1) := by
  unfold tB1
  rw [h] <;> rfl
theorem ls_is {i : Nat} {fi fe : EF} {env : Ev.Env} {d : D} {ds : List D} {k : Int} (h1 : Is fe env d) (h2 : env[i]? = some (some (.lst ds))) (h3 : Is fi env (.int k)) (h4 : 0 ≤ k) (h5 : k < (ds.length : Int)) : sLSet i fi fe env = some (.nx, env.set i (some (.lst (ds.set k.toNat d)))) := by
  unfold Is at *
  have hg : getL env i = some ds := by unfold getL; rw [h2] <;> rfl
  unfold sLSet
  rw [h1, bind1]
  dsimp only
  rw [hg, bind1, h3, bind1]
  dsimp only
  rw [hg, bind1, if_pos ⟨h4, h5⟩]
theorem gt_is {x y : Int} : gtI (.int x) (.int y) = some (.bl (decide (y < x))) := rfl
theorem ix3 {ds : List D} {k : Nat} {d : D} (h : ds[k]? = some d) : ixD (.lst ds) (.int (k : Int)) = some d := by
  show ixL ds (k : Int) = _
  unfold ixL
  rw [if_pos (by omega), Int.toNat_natCast, h]
theorem draw_val (m : Int) (hm : 0 < m) (hl : m.natAbs.log2 < 9000) (a b c : Int) (ha : 0 ≤ a) (hb : 0 ≤ b) (hb2 : b < 100000) (hc : 0 ≤ c) (hc2 : c < 10000000000) :
    ∃ r a' b' e1 e2, S_law_draw [fl a b c, .int m] = some (.int r, [some (fl a' b' c), some (.int m), e1, e2]) ∧ 0 ≤ r ∧ r < m ∧ 0 ≤ a' ∧ b ≤ b' ∧ b' ≤ b + 1 := by
  have fin : ∀ r a' b' e1 e2, b_law_draw [some (fl a b c), some (.int m), none, none] = some (.rt (.int r), [some (fl a' b' c), some (.int m), e1, e2]) → S_law_draw [fl a b c, .int m] = some (.int r, [some (fl a' b' c), some (.int m), e1, e2]) := by
    intro r a' b' e1 e2 h
    show (b_law_draw [some (fl a b c), some (.int m), none, none]).bind _ = _
    rw [h] <;> rfl
  have i0 : ∀ {a b : Int} {x y z : Option D}, Is (e2 ixD (qV 0) (qE (eC (.int 0)))) [some (fl a b c), x, y, z] (.int a) := is_2o rfl is_c (ix3 (k := 0) rfl)
  have i1 : ∀ {a b : Int} {x y z : Option D}, Is (e2 ixD (qV 0) (qE (eC (.int 1)))) [some (fl a b c), x, y, z] (.int b) := is_2o rfl is_c (ix3 (k := 1) rfl)
  have i2 : ∀ {a b : Int} {x y z : Option D}, Is (e2 ixD (qV 0) (qE (eC (.int 2)))) [some (fl a b c), x, y, z] (.int c) := is_2o rfl is_c (ix3 (k := 2) rfl)
  by_cases h : 0 < a
  · refine ⟨a % m, a / m, b, some (.int (a % m)), none, fin _ _ _ _ _ ?_, Int.emod_nonneg _ (by omega), Int.emod_lt_of_pos _ hm, Int.ediv_nonneg ha (by omega), by omega, by omega⟩
    unfold b_law_draw
    refine seq_rt ?_
    rw [if_is (tb_is (is_2 i0 is_c gt_is)), if_pos (decide_eq_true h)]
    refine (seq_nx (set_is (i := 2) (is_2 (i0 (a := a) (b := b) (x := some (.int m)) (y := none) (z := none)) (is_v rfl) (modD_ok hm)))).trans ?_
    refine (seq_nx (ls_is (i := 0) (k := 0) (ds := [.int a, .int b, .int c]) (is_2 (i0 (a := a) (b := b) (x := some (.int m)) (y := some (.int (a % m))) (z := none)) (is_v rfl) (fdivD_ok hm hl)) rfl is_c (by decide) (by show (0 : Int) < 3; decide))).trans ?_
    exact rt_is (is_v rfl)
  · have h0 : a = 0 := by omega
    subst h0
    have key : ∀ n : Int, 0 ≤ n → n < 2147483629 → ∃ r, 0 ≤ r ∧ r < m ∧ r = (n * n % 2147483587 + 5) * (n * n % 2147483587 + 40692) % 2147483579 / 31 % m := fun n _ _ => ⟨_, Int.emod_nonneg _ (by omega), Int.emod_lt_of_pos _ hm, rfl⟩
    generalize hn : (c * (48271 + 2 * (b + 1)) + 7919 * (b + 1) + 1) % 2147483629 = n
    have n0 : 0 ≤ n := by omega
    have n1 : n < 2147483629 := by omega
    obtain ⟨r, r0, r1, hr⟩ := key n n0 n1
    refine ⟨r, 0, b + 1, none, some (.int (n * n % 2147483587)), fin _ _ _ _ _ ?_, r0, r1, by omega, by omega, by omega⟩
    unfold b_law_draw
    have e0 : sIf (tB1 (e2 gtI (qE (e2 ixD (qV 0) (qE (eC (.int 0))))) (qE (eC (.int 0))))) (sSeq (sSet 2 (e2 modD (qE (e2 ixD (qV 0) (qE (eC (.int 0))))) (qE (eV 1)))) (sSeq (sLSet 0 (eC (.int 0)) (e2 fdivD (qE (e2 ixD (qV 0) (qE (eC (.int 0))))) (qE (eV 1)))) (sRt (eV 2)))) sNx [some (fl 0 b c), some (.int m), none, none] = some (.nx, [some (fl 0 b c), some (.int m), none, none]) :=
      (if_is (tb_is (is_2 (i0 (a := 0) (b := b)) is_c gt_is))).trans rfl
    refine (seq_nx e0).trans ?_
    refine (seq_nx (ls_is (i := 0) (k := 1) (ds := [.int 0, .int b, .int c]) (is_2 (i1 (a := 0) (b := b) (x := some (.int m)) (y := none) (z := none)) is_c addD_ok) rfl is_c (by decide) (by show (1 : Int) < 3; decide))).trans ?_
    have e1 := set_is (i := 3) (is_2 (is_2 (is_2 (is_2 (i2 (a := 0) (b := b + 1) (x := some (.int m)) (y := none) (z := none)) (is_2 is_c (is_2 is_c (i1 (a := 0) (b := b + 1)) (mulD_ok (x := 2) (y := b + 1) (by decide) (by decide) (by omega) (by omega))) addD_ok) (mulD_ok (x := c) (y := 48271 + 2 * (b + 1)) hc (by omega) (by omega) (by omega))) (is_2 is_c (i1 (a := 0) (b := b + 1)) (mulD_ok (x := 7919) (y := b + 1) (by decide) (by decide) (by omega) (by omega))) addD_ok) (is_c (d := .int 1)) addD_ok) is_c (modD_ok (y := 2147483629) (by decide)))
    rw [hn] at e1
    refine (seq_nx e1).trans ?_
    have v3 : Is (eV 3) [some (fl 0 (b + 1) c), some (.int m), none, some (.int n)] (.int n) := is_v rfl
    have e2' := set_is (i := 3) (is_2 (is_2 v3 v3 (mulD_ok (x := n) (y := n) n0 (by omega) n0 (by omega))) is_c (modD_ok (y := 2147483587) (by decide)))
    generalize hn2 : n * n % 2147483587 = n2 at e2' hr
    have m0 : 0 ≤ n2 := by omega
    have m1 : n2 < 2147483587 := by omega
    refine (seq_nx e2').trans ?_
    have w3 : Is (eV 3) [some (fl 0 (b + 1) c), some (.int m), none, some (.int n2)] (.int n2) := is_v rfl
    rw [hr]
    exact rt_is (is_2 (is_2 (is_2 (is_2 (is_2 w3 is_c addD_ok) (is_2 w3 is_c addD_ok) (mulD_ok (x := n2 + 5) (y := n2 + 40692) (by omega) (by omega) (by omega) (by omega))) is_c (modD_ok (by decide))) is_c (fdivD_ok (by decide) (by decide))) (is_v rfl) (modD_ok hm))
end Lw

end

section
set_option Elab.async false
set_option linter.all false
set_option maxRecDepth 100000
namespace Lw
open PySem PySem.Spec PyProof.Rows L2 Ev
/-- a flow that has drawn no more than n numbers beyond its own -/
def Fw (n : Nat) (d : D) : Prop := ∃ a b c : Int, d = fl a b c ∧ 0 ≤ a ∧ 0 ≤ b ∧ b ≤ n ∧ 0 ≤ c ∧ c < 10000000000
theorem call_draw {i : Nat} {f : EF} {env : Ev.Env} {m : Int} {d : D} {n : Nat} (hi : env[i]? = some (some d)) (hd : Fw n d) (hn : n < 100000) (hf : Is f env (.int m)) (hm : 0 < m) (hl : m.natAbs.log2 < 9000) :
    ∃ r d', eCallS sg_law_draw S_law_draw (uO i (uF f uN)) env = some (.int r, env.set i (some d')) ∧ 0 ≤ r ∧ r < m ∧ Fw (n + 1) d' := by
  obtain ⟨a, b, c, rfl, h1, h2, h3, h4, h5⟩ := hd
  obtain ⟨r, a', b', e1, e2, hS, g1, g2, g3, g4, g5⟩ := draw_val m hm hl a b c h1 h2 (by omega) h4 h5
  refine ⟨r, fl a' b' c, ?_, g1, g2, a', b', c, rfl, g3, by omega, by omega, h4, h5⟩
  have hj : env[i]?.join = some (fl a b c) := by rw [hi]; rfl
  unfold eCallS eCall uO uF uN
  rw [hj, bind1, hf, bind1]
  dsimp only
  rw [map1, map1, bind1]
  rw [if_pos ⟨rfl, by simp [owns]⟩]
  have hc : conts env [AV.ow i, AV.fz (.int m)] = some [fl a b c, .int m] := by
    show (env[i]?.join).bind _ = _
    rw [hj] <;> rfl
  rw [hc, bind1]
  show (S_law_draw [fl a b c, .int m]).bind _ = _
  rw [hS, bind1]
  rfl
theorem lc_ev {f : EF} {r : LF} {env env1 env2 : Ev.Env} {d : D} {ds : List D} (h1 : f env = some (d, env1)) (h2 : r env1 = some (ds, env2)) : lC f r env = some (d :: ds, env2) := by
  unfold lC
  rw [h1, bind1]
  dsimp only
  rw [h2, map1]
theorem ln_ev {env : Ev.Env} : lN env = some ([], env) := rfl
theorem lst_ev {a : LF} {env env1 : Ev.Env} {ds : List D} (h : a env = some (ds, env1)) (hl : ds.length ≤ 16777216) : eLst a env = some (.lst ds, env1) := by
  unfold eLst
  rw [h, bind1, if_pos hl]
theorem tup_ev {a : LF} {env env1 : Ev.Env} {ds : List D} (h : a env = some (ds, env1)) (hl : ds.length ≤ 16777216) : eTup a env = some (.tup ds, env1) := by
  unfold eTup
  rw [h, bind1, if_pos hl]
theorem e2_ev {g : D → D → Option D} {f h : EF} {env env1 env2 : Ev.Env} {a b d : D} (h1 : f env = some (a, env1)) (h2 : h env1 = some (b, env2)) (e : g a b = some d) : e2 g (qE f) (qE h) env = some (d, env2) := by
  unfold e2 qE
  rw [h1, map1, bind1]
  dsimp only
  rw [h2, map1, bind1]
  dsimp only
  rw [bind1, bind1, e, map1]
theorem v_ev {i : Nat} {d : D} {env : Ev.Env} (h : env[i]? = some (some d)) : eV i env = some (d, env) := is_v h
theorem c_ev {d : D} {env : Ev.Env} : eC d env = some (d, env) := rfl
theorem sl_ev {a : EF} {lo hi : PF} {env env1 env2 env3 : Ev.Env} {x d : D} {l h : Option Int} (h1 : a env = some (x, env1)) (h2 : lo env1 = some (l, env2)) (h3 : hi env2 = some (h, env3)) (e : slD x l h = some d) : eSl slD (qE a) lo hi env = some (d, env3) := by
  unfold eSl qE
  rw [h1, map1, bind1]
  dsimp only
  rw [h2, bind1]
  dsimp only
  rw [h3, bind1]
  dsimp only
  rw [bind1, e, map1]
theorem ps_ev {f : EF} {env env1 : Ev.Env} {i : Int} (h : f env = some (.int i, env1)) : pS f env = some (some i, env1) := by
  unfold pS
  rw [h] <;> rfl
theorem pn_ev {env : Ev.Env} : pN env = some (none, env) := rfl
theorem ix_mem {ds : List D} {r : Int} (h : 0 ≤ r) (h2 : r < ds.length) : ∃ x, ixD (.lst ds) (.int r) = some x ∧ x ∈ ds := by
  have hl : r.toNat < ds.length := by omega
  refine ⟨ds[r.toNat], ?_, List.getElem_mem hl⟩
  show ixL ds r = _
  unfold ixL
  rw [if_pos h]
  exact List.getElem?_eq_getElem hl
/-- what a drawn thing may be -/
inductive Gd : D → Prop
  | int (i : Int) : Gd (.int i)
  | str (s : Str) : Gd (.str s)
  | tup (i : Int) (s : Str) : Gd (.tup [.int i, .str s])
  | non : Gd .non
  | lst (i : Int) : Gd (.lst [.int i, .non])
  | bl : Gd (.bl true)
theorem cut_short (z : Str) (lo hi : Option Int) : (cutS z lo hi).length ≤ z.length := by
  unfold cutS
  show (List.toArray _).size ≤ z.cps.size
  rw [List.size_toArray, List.length_take, List.length_drop, Array.length_toList]
  omega
theorem thing_val {n : Nat} (hn : n + 10 < 100000) {d : D} (hd : Fw n d) : ∃ x d' e1 e2, S_law_thing [d] = some (x, [some d', e1, e2]) ∧ Fw (n + 7) d' ∧ Gd x := by
  obtain ⟨r1, d1, c1, l1, u1, f1⟩ := call_draw (i := 0) (f := eC (.int 7)) (env := [some d, none, none]) rfl hd (by omega) is_c (by decide) (by decide)
  obtain ⟨r2, d2, c2, l2, u2, f2⟩ := call_draw (i := 0) (f := eC (.int 9)) (env := [some d1, none, none]) rfl f1 (by omega) is_c (by decide) (by decide)
  obtain ⟨r3, d3, c3, l3, u3, f3⟩ := call_draw (i := 0) (f := e2 powD (qE (eC (.int 10))) (qE (eC (.int 20)))) (m := 100000000000000000000) (env := [some d2, none, none]) rfl f2 (by omega) (is_2 is_c is_c (by rfl)) (by decide) (by decide +kernel)
  obtain ⟨r4, d4, c4, l4, u4, f4⟩ := call_draw (i := 0) (f := eC (.int 3)) (env := [some d3, none, none]) rfl f3 (by omega) is_c (by decide) (by decide)
  obtain ⟨w, hw, mw⟩ := ix_mem (ds := [.int r1, .int (0 - r2), .int r3]) l4 (by simpa using u4)
  have hW : ∃ i : Int, w = .int i := by
    simp only [List.mem_cons, List.not_mem_nil, or_false] at mw
    rcases mw with rfl | rfl | rfl <;> exact ⟨_, rfl⟩
  obtain ⟨i, rfl⟩ := hW
  obtain ⟨r5, d5, c5, l5, u5, f5⟩ := call_draw (i := 0) (f := eC (.int 8)) (env := [some d4, some (.int i), none]) rfl f4 (by omega) is_c (by decide) (by decide)
  obtain ⟨r6, d6, c6, l6, u6, f6⟩ := call_draw (i := 0) (f := eC (.int 5)) (env := [some d5, some (.int i), none]) rfl f5 (by omega) is_c (by decide) (by decide)
  have b1 : (cutS "abcdefgh" (some r5) none).length ≤ 8 := cut_short _ _ _
  have b2 := cut_short (cutS "abcdefgh" (some r5) none) none (some r6)
  generalize hs : cutS (cutS "abcdefgh" (some r5) none) none (some r6) = s at b2
  obtain ⟨r7, d7, c7, l7, u7, f7⟩ := call_draw (i := 0) (f := eC (.int 6)) (env := [some d6, some (.int i), some (.str s)]) rfl f6 (by omega) is_c (by decide) (by decide)
  obtain ⟨x, hx, mx⟩ := ix_mem (ds := [.int i, .str s, .tup [.int i, .str s], .non, .lst [.int i, .non], .bl true]) l7 (by simpa using u7)
  refine ⟨x, d7, some (.int i), some (.str s), ?_, f7, ?_⟩
  · show (b_law_thing [some d, none, none]).bind _ = _
    have e : b_law_thing [some d, none, none] = some (.rt x, [some d7, some (.int i), some (.str s)]) := by
      unfold b_law_thing
      refine (seq_nx (set_is (i := 1) (e2_ev (lst_ev (lc_ev c1 (lc_ev (e2_ev c_ev c2 subD_ok) (lc_ev c3 ln_ev))) (by simp)) c4 hw))).trans ?_
      refine (seq_nx (set_is (i := 2) (sl_ev (sl_ev c_ev (ps_ev c5) pn_ev (d := .str (cutS "abcdefgh" (some r5) none)) ?_) pn_ev (ps_ev c6) (d := .str s) ?_))).trans ?_
      · show (if ("abcdefgh" : Str).length ≤ 16777216 then some (D.str (cutS "abcdefgh" (some r5) none)) else none) = _
        rw [if_pos (by decide)]
      · show (if (cutS "abcdefgh" (some r5) none).length ≤ 16777216 then some (D.str (cutS (cutS "abcdefgh" (some r5) none) none (some r6))) else none) = _
        rw [if_pos (by omega), hs]
      · exact rt_is (e2_ev (lst_ev (lc_ev (v_ev rfl) (lc_ev (v_ev rfl) (lc_ev (tup_ev (lc_ev (v_ev rfl) (lc_ev (v_ev rfl) ln_ev)) (by simp)) (lc_ev c_ev (lc_ev (lst_ev (lc_ev (v_ev rfl) (lc_ev c_ev ln_ev)) (by simp)) (lc_ev c_ev ln_ev)))))) (by simp)) c7 hx)
    rw [e]
    rfl
  · simp only [List.mem_cons, List.not_mem_nil, or_false] at mx
    rcases mx with rfl | rfl | rfl | rfl | rfl | rfl
    · exact .int _
    · exact .str _
    · exact .tup _ _
    · exact .non
    · exact .lst _
    · exact .bl
end Lw

end

section
set_option Elab.async false
set_option linter.all false
set_option maxRecDepth 100000
namespace Lw
open PySem PySem.Spec PyProof.Rows L2 Ev
theorem call_f1 {sg : Sig} {S : SemF} {f : EF} {env env1 fin : Ev.Env} {a r : D} (hs : (List.range sg.np).map sg.O = [false]) (h1 : f env = some (a, env1)) (hS : S [a] = some (r, fin)) : eCallS sg S (uF f uN) env = some (r, env1) := by
  unfold eCallS eCall uF uN
  rw [h1, bind1]
  dsimp only
  rw [map1, bind1, if_pos ⟨by rw [hs]; rfl, by simp [owns]⟩]
  show (S [a]).bind _ = _
  rw [hS, bind1]
  rfl
theorem call_f2 {sg : Sig} {S : SemF} {f g : EF} {env env1 env2 fin : Ev.Env} {a b r : D} (hs : (List.range sg.np).map sg.O = [false, false]) (h1 : f env = some (a, env1)) (h2 : g env1 = some (b, env2)) (hS : S [a, b] = some (r, fin)) : eCallS sg S (uF f (uF g uN)) env = some (r, env2) := by
  unfold eCallS eCall uF uN
  rw [h1, bind1]
  dsimp only
  rw [h2, bind1]
  dsimp only
  rw [map1, map1, bind1, if_pos ⟨by rw [hs]; rfl, by simp [owns]⟩]
  show (S [a, b]).bind _ = _
  rw [hS, bind1]
  rfl
theorem call_o1 {sg : Sig} {S : SemF} {i : Nat} {env rest : Ev.Env} {d d' r : D} (hs : (List.range sg.np).map sg.O = [true]) (hi : env[i]? = some (some d)) (hS : S [d] = some (r, some d' :: rest)) : eCallS sg S (uO i uN) env = some (r, env.set i (some d')) := by
  have hj : env[i]?.join = some d := by rw [hi]; rfl
  unfold eCallS eCall uO uN
  rw [hj, bind1, map1, bind1, if_pos ⟨by rw [hs]; rfl, by simp [owns]⟩]
  have hc : conts env [AV.ow i] = some [d] := by
    show (env[i]?.join).bind _ = _
    rw [hj] <;> rfl
  rw [hc, bind1]
  show (S [d]).bind _ = _
  rw [hS, bind1]
  rfl
theorem call_t1 {sg : Sig} {S : SemF} {f : EF} {env env1 fin : Ev.Env} {a r : D} (hs : (List.range sg.np).map sg.O = [true]) (h1 : f env = some (a, env1)) (hS : S [a] = some (r, fin)) : eCallS sg S (uT f uN) env = some (r, env1) := by
  unfold eCallS eCall uT uN
  rw [h1, bind1]
  dsimp only
  rw [map1, bind1, if_pos ⟨by rw [hs]; rfl, by simp [owns]⟩]
  show (S [a]).bind _ = _
  rw [hS, bind1]
  rfl
theorem a1_ev {g : List D → Option D} {f : EF} {env env1 : Ev.Env} {a d : D} (h : f env = some (a, env1)) (e : g [a] = some d) : eA g (aC (qE f) aN) env = some (d, env1) := by
  unfold eA aC qE aN
  rw [h, map1, bind1]
  dsimp only
  rw [map1, bind1]
  show (g [a]).map _ = _
  rw [e] <;> rfl
theorem a1v_ev {g : List D → Option D} {i : Nat} {env : Ev.Env} {a d : D} (h : env[i]? = some (some a)) (e : g [a] = some d) : eA g (aC (qV i) aN) env = some (d, env) := by
  have hj : env[i]?.join = some a := by rw [h]; rfl
  unfold eA aC qV aN
  rw [hj, map1, bind1]
  dsimp only
  rw [map1, bind1]
  show (Option.bind (Option.bind (env[i]?.join) fun d => (some ([] : List D)).map fun ds => d :: ds) fun xs => (g xs).map fun d => (d, env)) = _
  rw [hj, bind1, map1, bind1, e, map1]
theorem a2_ev {g : List D → Option D} {f h : EF} {env env1 env2 : Ev.Env} {a b d : D} (h1 : f env = some (a, env1)) (h2 : h env1 = some (b, env2)) (e : g [a, b] = some d) : eA g (aC (qE f) (aC (qE h) aN)) env = some (d, env2) := by
  unfold eA aC qE aN
  rw [h1, map1, bind1]
  dsimp only
  rw [h2, map1, bind1]
  dsimp only
  rw [map1, map1, bind1]
  show (g [a, b]).map _ = _
  rw [e] <;> rfl
theorem sem_rt {sg : Sig} {g : SF} {ds : List D} {d : D} {fin : Ev.Env} (hl : ds.length = sg.np) (h : g (padE sg.n ds) = some (.rt d, fin)) : semOf sg g ds = some (d, fin) := by
  unfold semOf
  rw [if_pos hl, h] <;> rfl
theorem lt_is {x y : Int} : ltI (.int x) (.int y) = some (.bl (decide (x < y))) := rfl
theorem ge_is {x y : Int} : geI (.int x) (.int y) = some (.bl (decide (y ≤ x))) := rfl
theorem scr_ix {ns : List Int} {k : Int} (h : 0 ≤ k) (h2 : k < ns.length) : ∃ v : Int, ixD (.scr ns) (.int k) = some (.int v) := by
  have hl : k.toNat < ns.length := by omega
  refine ⟨ns[k.toNat], ?_⟩
  show (ixL ns k).map _ = _
  unfold ixL
  rw [if_pos h, List.getElem?_eq_getElem hl] <;> rfl
theorem cell_val (ns : List Int) (k : Int) (h0 : 0 ≤ k) (h6 : k < 6) : ∃ v fin, S_law_cell [.scr ns, .int k] = some (.int v, fin) := by
  have v0 : ∀ {z : Option D}, eV 0 [some (.scr ns), some (.int k), z] = some (.scr ns, [some (.scr ns), some (.int k), z]) := v_ev rfl
  have v1 : ∀ {z : Option D}, eV 1 [some (.scr ns), some (.int k), z] = some (.int k, [some (.scr ns), some (.int k), z]) := v_ev rfl
  have ln : ∀ {z : Option D}, eA lenD (aC (qE (eV 0)) aN) [some (.scr ns), some (.int k), z] = some (.int ns.length, [some (.scr ns), some (.int k), z]) := a1_ev v0 rfl
  have fin : ∀ v : Int, ∀ e : Ev.Env, b_law_cell [some (.scr ns), some (.int k), none] = some (.rt (.int v), e) → ∃ v fin, S_law_cell [.scr ns, .int k] = some (.int v, fin) := fun v e h => ⟨v, e, sem_rt rfl h⟩
  by_cases hk : k < ns.length
  · obtain ⟨v, hv⟩ := scr_ix h0 hk
    refine fin v [some (.scr ns), some (.int k), none] (seq_rt ?_)
    rw [if_is (tb_is (e2_ev v1 ln lt_is)), if_pos (decide_eq_true hk)]
    exact rt_is (e2_ev v0 v1 hv)
  · have s1 : sIf (tB1 (e2 ltI (qE (eV 1)) (qE (eA lenD (aC (qE (eV 0)) (aN)))))) (sRt (e2 ixD (qE (eV 0)) (qE (eV 1)))) (sNx) [some (.scr ns), some (.int k), none] = some (.nx, [some (.scr ns), some (.int k), none]) := by
      rw [if_is (tb_is (e2_ev v1 ln lt_is)), if_neg (by simp; omega)]
      rfl
    have s2 := set_is (i := 2) (e2_ev (e2_ev (v1 (z := none)) (c_ev (d := .int 7919)) (mulD_ok (x := k) (y := 7919) (by omega) (by omega) (by decide) (by decide))) (c_ev (d := .int 5)) addD_ok)
    have last : ∀ u : Int, ∃ v, ∃ e : Ev.Env, sRt (e2 mulD (qE (e2 modD (qE (eV 2)) (qE (eC (.int 2147483647))))) (qE (eC (.int 31)))) [some (.scr ns), some (.int k), some (.int u)] = some (.rt (.int v), e) := fun u => by
      have m0 := Int.emod_nonneg u (show (2147483647 : Int) ≠ 0 by decide)
      have m1 := Int.emod_lt_of_pos u (show (0 : Int) < 2147483647 by decide)
      exact ⟨_, _, rt_is (e2_ev (e2_ev (v_ev rfl) c_ev (modD_ok (by decide))) c_ev (mulD_ok m0 (by omega) (by decide) (by decide)))⟩
    by_cases hp : 0 < ns.length
    · have q0 := Int.emod_nonneg (k * 7) (show (ns.length : Int) ≠ 0 by omega)
      have q1 := Int.emod_lt_of_pos (k * 7) (show (0 : Int) < ns.length by omega)
      obtain ⟨x, hx⟩ := scr_ix q0 q1
      have p0 := Int.emod_nonneg x (show (2147483629 : Int) ≠ 0 by decide)
      have p1 := Int.emod_lt_of_pos x (show (0 : Int) < 2147483629 by decide)
      have wh := e2_ev (e2_ev (e2_ev (e2_ev (v0 (z := some (.int (k * 7919 + 5)))) (e2_ev (e2_ev v1 (c_ev (d := .int 7)) (mulD_ok (x := k) (y := 7) (by omega) (by omega) (by decide) (by decide))) ln (modD_ok (by omega))) hx) (c_ev (d := .int 2147483629)) (modD_ok (by decide))) (c_ev (d := .int 48271)) (mulD_ok p0 (by omega) (by decide) (by decide))) (e2_ev v1 (c_ev (d := .int 7919)) (mulD_ok (x := k) (y := 7919) (by omega) (by omega) (by decide) (by decide))) addD_ok
      obtain ⟨v, e, hv⟩ := last (x % 2147483629 * 48271 + k * 7919)
      refine fin v e ((seq_nx s1).trans ((seq_nx s2).trans ((seq_nx (env1 := [some (.scr ns), some (.int k), some (.int (x % 2147483629 * 48271 + k * 7919))]) ?_).trans hv)))
      refine (if_is (tb_is (e2_ev ln c_ev gt_is))).trans ?_
      rw [if_pos (by rw [decide_eq_true_eq]; omega)]
      exact set_is (i := 2) wh
    · obtain ⟨v, e, hv⟩ := last (k * 7919 + 5)
      refine fin v e ((seq_nx s1).trans ((seq_nx s2).trans ((seq_nx (env1 := [some (.scr ns), some (.int k), some (.int (k * 7919 + 5))]) ?_).trans hv)))
      refine (if_is (tb_is (e2_ev ln c_ev gt_is))).trans ?_
      rw [if_neg (by rw [decide_eq_true_eq]; omega)]
      rfl
theorem flow_val (ns : List Int) (k : Int) (h0 : 0 ≤ k) (h6 : k < 6) : ∃ d fin, S_law_flow [.scr ns, .int k] = some (d, fin) ∧ Fw 0 d := by
  obtain ⟨v, f1, hv⟩ := cell_val ns k h0 h6
  have m0 := Int.emod_nonneg v (show (2147483629 : Int) ≠ 0 by decide)
  have m1 := Int.emod_lt_of_pos v (show (0 : Int) < 2147483629 by decide)
  have c := set_is (i := 2) (call_f2 (sg := sg_law_cell) (S := S_law_cell) (f := eV 0) (g := eV 1) (env := [some (.scr ns), some (.int k), none, none]) rfl (v_ev rfl) (v_ev rfl) hv)
  have pw : ∀ {env : Ev.Env}, e2 powD (qE (eC (.int 10))) (qE (eC (.int 18))) env = some (.int 1000000000000000000, env) := fun {env} => e2_ev c_ev c_ev (by rfl)
  have last : ∀ a : Int, sRt (eLst (lC (eV 3) (lC (eC (.int 0)) (lC (e2 addD (qE (e2 modD (qE (eV 2)) (qE (eC (.int 2147483629))))) (qE (e2 mulD (qE (eC (.int 40692))) (qE (eV 1))))) (lN))))) [some (.scr ns), some (.int k), some (.int v), some (.int a)] = some (.rt (fl a 0 (v % 2147483629 + 40692 * k)), [some (.scr ns), some (.int k), some (.int v), some (.int a)]) := fun a =>
    rt_is (lst_ev (lc_ev (v_ev rfl) (lc_ev c_ev (lc_ev (e2_ev (e2_ev (v_ev rfl) c_ev (modD_ok (by decide))) (e2_ev c_ev (v_ev rfl) (mulD_ok (by decide) (by decide) h0 (by omega))) addD_ok) ln_ev))) (by simp))
  by_cases hc : 1000000000000000000 ≤ v
  · refine ⟨_, _, sem_rt rfl ((seq_nx c).trans ((seq_nx (set_is c_ev)).trans ((seq_nx (env1 := [some (.scr ns), some (.int k), some (.int v), some (.int v)]) ?_).trans (last v)))), v, 0, _, rfl, by omega, by decide, by decide, by omega, by omega⟩
    refine (if_is (tb_is (e2_ev (v_ev (d := .int v) rfl) pw ge_is))).trans ?_
    rw [if_pos (decide_eq_true hc)]
    exact set_is (v_ev rfl)
  · refine ⟨_, _, sem_rt rfl ((seq_nx c).trans ((seq_nx (set_is c_ev)).trans ((seq_nx (env1 := [some (.scr ns), some (.int k), some (.int v), some (.int 0)]) ?_).trans (last 0)))), 0, 0, _, rfl, by omega, by decide, by decide, by omega, by omega⟩
    refine (if_is (tb_is (e2_ev (v_ev (d := .int v) rfl) pw ge_is))).trans ?_
    rw [if_neg (by rw [decide_eq_true_eq]; omega)]
    rfl
end Lw

end

section
set_option Elab.async false
set_option linter.all false
set_option maxRecDepth 100000
namespace Lw
open PySem PySem.Spec PyProof.Rows L2 Ev
def bas : D → Bool
  | .dic _ _ => false
  | .exc _ _ _ => false
  | .scr _ => false
  | _ => true
theorem isi_ev {T : String} {i : Nat} {env : Ev.Env} {x : D} (h : env[i]? = some (some x)) (hb : bas x = true) : eIsi T (qE (eV i)) env = some (.bl (isiD T x), env) := by
  have h1 := v_ev h
  unfold eIsi qE
  rw [h1, map1, bind1]
  dsimp only
  rw [bind1]
  cases x <;> first | rfl | cases hb
structure Sm (x : D) : Prop where
  b : bas x = true
  t : isiD "tuple" x = false
  n : neD x x = some (.bl false)
theorem ne_bl {a : Bool} : neD (.bl a) (.bl a) = some (.bl false) := by cases a <;> rfl
theorem ne_int {a : Int} : neD (.int a) (.int a) = some (.bl false) := by
  show some (D.bl (!decide (a = a))) = _
  rw [decide_eq_true rfl] <;> rfl
theorem ty_tup {x : D} {n : String} (h : tyN x = n) (e : (n == "tuple") = false) : isiD "tuple" x = false := by
  unfold isiD
  rw [if_neg (by decide), h]
  exact e
theorem ty_is {x : D} (h : tyN x = "tuple") : isiD "tuple" x = true := by
  unfold isiD
  rw [if_neg (by decide), h]
  rfl
theorem sm_int (i : Int) : Sm (.int i) := ⟨rfl, ty_tup (n := "int") rfl (by decide), ne_int⟩
theorem sm_str (s : Str) : Sm (.str s) := ⟨rfl, ty_tup (n := "str") rfl (by decide), by
  show some (D.bl (!decide (s = s))) = _
  rw [decide_eq_true rfl] <;> rfl⟩
theorem gd_cases {x : D} (h : Gd x) : Sm x ∨ ∃ i s, x = .tup [.int i, .str s] := by
  cases h with
  | int i => exact .inl (sm_int i)
  | str s => exact .inl (sm_str s)
  | tup i s => exact .inr ⟨i, s, rfl⟩
  | non => exact .inl ⟨rfl, ty_tup (n := "NoneType") rfl (by decide), by rfl⟩
  | bl => exact .inl ⟨rfl, ty_tup (n := "bool") rfl (by decide), by rfl⟩
  | lst i => exact .inl ⟨rfl, ty_tup (n := "list") rfl (by decide), by
      have e : eqD (.lst [.int i, .non]) (.lst [.int i, .non]) = some (.bl true) := by
        show (if okD (.lst [.int i, .non]) = true ∧ okD (.lst [.int i, .non]) = true then some (D.bl (PyData.eqv (py (.lst [.int i, .non])) (py (.lst [.int i, .non])))) else none) = _
        have ok : okD (.lst [.int i, .non]) = true := by rfl
        rw [if_pos ⟨ok, ok⟩]
        have q : PyData.eqv (py (.lst [.int i, .non])) (py (.lst [.int i, .non])) = true := by
          simp [py, pyL, PyData.eqv, PyData.eqvAll]
        rw [q]
      unfold neD
      rw [e] <;> rfl⟩
abbrev aTest : TF := tB1 (e2 gtI (qE (eA lenD (aC (qV 2) (aN)))) (qE (eC (.int 0))))
abbrev aBody : SF := sSeq (sAsg (gT (gsC (gN 3) (gsC (gN 4) (gsN)))) (mPop 2))
 (sSeq (sIf (tB1 (e2 neD (qE (eIsi "tuple" (qE (eV 3)))) (qE (eIsi "tuple" (qE (eV 4)))))) (sRt (eC (.bl false))) (sNx))
 (sSeq (sIf (tB1 (e2 neD (qE (eIsi "bool" (qE (eV 3)))) (qE (eIsi "bool" (qE (eV 4)))))) (sRt (eC (.bl false))) (sNx))
 (sIf (tB1 (eIsi "tuple" (qE (eV 4)))) (sSeq (sIf (tB1 (e2 neD (qE (eA lenD (aC (qE (eV 3)) (aN)))) (qE (eA lenD (aC (qE (eV 4)) (aN)))))) (sRt (eC (.bl false))) (sNx))
 (sEx (mExt 2 (eZip (qE (eV 3)) (qE (eV 4)))))) (sIf (tOr1 (tB1 (e2 neD (qE (eIsi "str" (qE (eV 3)))) (qE (eIsi "str" (qE (eV 4)))))) (tB1 (e2 neD (qE (eV 3)) (qE (eV 4))))) (sRt (eC (.bl false))) (sNx)))))
def two (x : D) : D := .tup [x, x]
abbrev aE (f d : D) (l : List D) (u v : Option D) : Ev.Env := [some f, some d, some (.lst l), u, v]
def aT (f d : D) (l : List D) : Prop := ∀ u v, ∃ n a b, whileL n aTest aBody (aE f d l u v) = some (.nx, aE f d [] a b)
theorem at_nil {f d : D} : aT f d [] := fun u v => ⟨1, u, v, rfl⟩
theorem test_ev {f d : D} {l : List D} {x : D} {u v : Option D} : aTest (aE f d (l ++ [x]) u v) = some (true, aE f d (l ++ [x]) u v) := by
  refine (tb_is (e2_ev (a1v_ev (a := .lst (l ++ [x])) rfl rfl) c_ev gt_is)).trans ?_
  rw [decide_eq_true (by rw [List.length_append, List.length_singleton]; omega)]
theorem pop_ev {f d : D} {l : List D} {x : D} {u v : Option D} : sAsg (gT (gsC (gN 3) (gsC (gN 4) (gsN)))) (mPop 2) (aE f d (l ++ [two x]) u v) = some (.nx, aE f d l (some x) (some x)) := by
  have h : mPop 2 (aE f d (l ++ [two x]) u v) = some (two x, aE f d l u v) := by
    show ((l ++ [two x])[(l ++ [two x]).length - 1]?).map (fun e => (e, aE f d (l ++ [two x]).dropLast u v)) = _
    rw [List.dropLast_concat, List.length_append, List.length_singleton, Nat.add_sub_cancel, List.getElem?_concat_length] <;> rfl
  unfold sAsg
  rw [h, bind1]
  rfl
theorem no_ev {g : D → D → Option D} {f h a : EF} {env : Ev.Env} {x y : D} {b : SF} (h1 : f env = some (x, env)) (h2 : h env = some (y, env)) (e : g x y = some (.bl false)) : sIf (tB1 (e2 g (qE f) (qE h))) b sNx env = some (.nx, env) := by
  refine (if_is (tb_is (e2_ev h1 h2 e))).trans ?_
  rw [if_neg (by decide)]
  rfl
theorem at_sm {f d : D} {l : List D} {x : D} (s : Sm x) (t : aT f d l) : aT f d (l ++ [two x]) := fun u v => by
  obtain ⟨n, a, b, h⟩ := t (some x) (some x)
  refine ⟨n + 1, a, b, ?_⟩
  have i3 : ∀ T, eIsi T (qE (eV 3)) (aE f d l (some x) (some x)) = some (.bl (isiD T x), aE f d l (some x) (some x)) := fun T => isi_ev rfl s.b
  have i4 : ∀ T, eIsi T (qE (eV 4)) (aE f d l (some x) (some x)) = some (.bl (isiD T x), aE f d l (some x) (some x)) := fun T => isi_ev rfl s.b
  have hb : aBody (aE f d (l ++ [two x]) u v) = some (.nx, aE f d l (some x) (some x)) := by
    refine (seq_nx pop_ev).trans ((seq_nx (no_ev (a := eC .non) (i3 _) (i4 _) ne_bl)).trans ((seq_nx (no_ev (a := eC .non) (i3 _) (i4 _) ne_bl)).trans ?_))
    refine (if_is (tb_is (i4 _))).trans ?_
    rw [s.t, if_neg (by decide)]
    have o : tOr1 (tB1 (e2 neD (qE (eIsi "str" (qE (eV 3)))) (qE (eIsi "str" (qE (eV 4)))))) (tB1 (e2 neD (qE (eV 3)) (qE (eV 4)))) (aE f d l (some x) (some x)) = some (false, aE f d l (some x) (some x)) := by
      unfold tOr1
      rw [tb_is (e2_ev (i3 _) (i4 _) ne_bl), bind1, if_neg (fun q => by cases q)]
      exact tb_is (e2_ev (v_ev rfl) (v_ev rfl) s.n)
    refine (if_is o).trans ?_
    rw [if_neg (by decide)]
    rfl
  unfold whileL
  rw [test_ev, bind1, if_pos rfl, hb, bind1]
  exact h
theorem at_tup {f d : D} {l xs : List D} (hl : l.length + xs.length ≤ 16777216) (t : aT f d (l ++ xs.map two)) : aT f d (l ++ [two (.tup xs)]) := fun u v => by
  obtain ⟨n, a, b, h⟩ := t (some (.tup xs)) (some (.tup xs))
  refine ⟨n + 1, a, b, ?_⟩
  have i3 : ∀ T, eIsi T (qE (eV 3)) (aE f d l (some (.tup xs)) (some (.tup xs))) = some (.bl (isiD T (.tup xs)), aE f d l (some (.tup xs)) (some (.tup xs))) := fun T => isi_ev rfl rfl
  have i4 : ∀ T, eIsi T (qE (eV 4)) (aE f d l (some (.tup xs)) (some (.tup xs))) = some (.bl (isiD T (.tup xs)), aE f d l (some (.tup xs)) (some (.tup xs))) := fun T => isi_ev rfl rfl
  have hz : zipD xs xs = xs.map two := by
    unfold zipD
    have q : ∀ ys : List D, ys.zip ys = ys.map fun y => (y, y) := fun ys => by
      induction ys with
      | nil => rfl
      | cons y ys ih => rw [List.zip_cons_cons, ih, List.map_cons]
    rw [q, List.map_map] <;> rfl
  have hb : aBody (aE f d (l ++ [two (.tup xs)]) u v) = some (.nx, aE f d (l ++ xs.map two) (some (.tup xs)) (some (.tup xs))) := by
    refine (seq_nx pop_ev).trans ((seq_nx (no_ev (a := eC .non) (i3 _) (i4 _) ne_bl)).trans ((seq_nx (no_ev (a := eC .non) (i3 _) (i4 _) ne_bl)).trans ?_))
    refine (if_is (tb_is (i4 _))).trans ?_
    rw [if_pos (ty_is rfl)]
    refine (seq_nx (no_ev (a := eC .non) (a1_ev (v_ev rfl) rfl) (a1_ev (v_ev rfl) rfl) ne_int)).trans ?_
    have e : mExt 2 (eZip (qE (eV 3)) (qE (eV 4))) (aE f d l (some (.tup xs)) (some (.tup xs))) = some (.non, aE f d (l ++ xs.map two) (some (.tup xs)) (some (.tup xs))) := by
      show (if l.length + (zipD xs xs).length ≤ 16777216 then some (D.non, aE f d (l ++ zipD xs xs) (some (.tup xs)) (some (.tup xs))) else none) = _
      rw [hz, if_pos (by rw [List.length_map]; exact hl)]
    unfold sEx
    rw [e] <;> rfl
  unfold whileL
  rw [test_ev, bind1, if_pos rfl, hb, bind1]
  exact h
theorem at_gd {f d : D} : ∀ (l : List D), l.length ≤ 1000 → (∀ x ∈ l.reverse, Gd x) → aT f d (l.reverse.map two)
  | [], _, _ => at_nil
  | x :: l, hl, h => by
    have ih := at_gd (f := f) (d := d) l (by rw [List.length_cons] at hl; omega) fun y hy => h y (by rw [List.reverse_cons]; exact List.mem_append_left _ hy)
    rw [List.reverse_cons, List.map_append]
    rcases gd_cases (h x (by rw [List.reverse_cons]; simp)) with s | ⟨i, s, rfl⟩
    · exact at_sm s ih
    · refine at_tup (by rw [List.length_map, List.length_reverse]; rw [List.length_cons] at hl; simp; omega) ?_
      have := at_sm (sm_str s) (at_sm (sm_int i) ih)
      rw [List.append_assoc] at this
      exact this
theorem alike_val (xs : List D) (hl : xs.length ≤ 1000) (h : ∀ x ∈ xs, Gd x) : ∃ fin, S_law_alike [.tup xs, .tup xs] = some (.bl true, fin) := by
  have t : aT (.tup xs) (.tup xs) [two (.tup xs)] := by
    refine at_tup (l := []) (by simp; omega) ?_
    have := at_gd (f := .tup xs) (d := .tup xs) xs.reverse (by rw [List.length_reverse]; exact hl) (by rw [List.reverse_reverse]; exact h)
    rw [List.reverse_reverse] at this
    exact this
  obtain ⟨n, a, b, hw⟩ := t none none
  have s1 : sSet 2 (eLst (lC (eTup (lC (eV 0) (lC (eV 1) (lN)))) (lN))) (padE 5 [.tup xs, .tup xs]) = some (.nx, aE (.tup xs) (.tup xs) [two (.tup xs)] none none) := by rfl
  exact ⟨_, sem_rt rfl ((seq_nx s1).trans ((seq_nx (sWhile_of hw)).trans (rt_is c_ev)))⟩
end Lw

end

section
set_option Elab.async false
set_option linter.all false
set_option maxRecDepth 100000
namespace Lw
open PySem PySem.Spec PyProof.Rows L2 Ev
def kc (k : Nat) : Str := (["NoHead", "NoProgram", "NoText", "NoStock", "NoAnswer", "NoInputs", "Clash", "NoRow", "NoQuestion", "NoDoer", "NotKept", "NoName"] : List Str).getD k ""
def tg (K : PySem.W.Frag) (j : Nat) : Value := if j < 12 then .ref (He.ga K (kc j)) else if j = 12 then .ref (He.ga K "MakeError") else if j = 13 then .type "ValueError" else if j = 14 then .type "LookupError" else if j = 15 then .type "IndexError" else .type "KeyError"
def du (k j : Nat) : Bool := if j < 12 then j == k else if j < 14 then decide (k < 8) else if j = 14 then decide (8 ≤ k) else if j = 15 then k == 10 else k == 11
def Kq (K : PySem.W.Frag) : Prop := ∀ k, k < 12 → ∀ j, j < 17 → PySem.W.kitOne K (.ref (He.ga K (kc k))) (tg K j) = some (du k j)
theorem k_in {K : PySem.W.Frag} {k : Nat} (h : k < 12) : He.ga K (kc k) ∈ Ks K := by
  have e : Ks K = (List.range 12).map fun k => He.ga K (kc k) := rfl
  rw [e]
  exact List.mem_map.mpr ⟨k, List.mem_range.mpr h, rfl⟩
theorem isx_ev {K : PySem.W.Frag} {i k : Nat} {env : Ev.Env} {ns : List Str} {ds : List D} (j : Nat) (q : Kq K) (hk : k < 12) (hj : j < 17) (h : env[i]? = some (some (.exc (He.ga K (kc k)) ns ds))) : eIsX K (Ks K) (tg K j) (eV i) env = some (.bl (du k j), env) := by
  unfold eIsX
  rw [v_ev h, bind1]
  dsimp only
  rw [if_pos (k_in hk), q k hk j hj, map1]
theorem add_lst {x y : List D} (h : x.length + y.length ≤ 16777216) : addD (.lst x) (.lst y) = some (.lst (x ++ y)) := by
  show (if x.length + y.length ≤ 16777216 then some (D.lst (x ++ y)) else none) = _
  rw [if_pos h]
def du12 (k : Nat) : List D := [.bl (du k 0), .bl (du k 1), .bl (du k 2), .bl (du k 3), .bl (du k 4), .bl (du k 5), .bl (du k 6), .bl (du k 7), .bl (du k 8), .bl (du k 9), .bl (du k 10), .bl (du k 11)]
def du5 (k : Nat) : List D := [.bl (du k 12), .bl (du k 13), .bl (du k 14), .bl (du k 15), .bl (du k 16)]
theorem sorts_val {K : PySem.W.Frag} {k : Nat} {ns : List Str} {ds : List D} (q : Kq K) (hk : k < 12) : ∃ fin, S_law_sorts K [.exc (He.ga K (kc k)) ns ds] = some (.lst (du12 k), fin) := by
  have i : ∀ (j : Nat), j < 17 → ∀ z : Option D, eIsX K (Ks K) (tg K j) (eV 0) [some (.exc (He.ga K (kc k)) ns ds), z] = some (.bl (du k j), [some (.exc (He.ga K (kc k)) ns ds), z]) := fun j hj z => isx_ev j q hk hj rfl
  have a := fun z => lst_ev (lc_ev (i 0 (by decide) z) (lc_ev (i 1 (by decide) z) (lc_ev (i 2 (by decide) z) (lc_ev (i 3 (by decide) z) ln_ev)))) (by simp)
  have b := fun z => lst_ev (lc_ev (i 4 (by decide) z) (lc_ev (i 5 (by decide) z) (lc_ev (i 6 (by decide) z) (lc_ev (i 7 (by decide) z) ln_ev)))) (by simp)
  have c := fun z => lst_ev (lc_ev (i 8 (by decide) z) (lc_ev (i 9 (by decide) z) (lc_ev (i 10 (by decide) z) (lc_ev (i 11 (by decide) z) ln_ev)))) (by simp)
  exact ⟨_, sem_rt rfl ((seq_nx (set_is (i := 1) (a none))).trans ((seq_nx (set_is (i := 1) (e2_ev (v_ev rfl) (b _) (add_lst (by simp))))).trans (rt_is (e2_ev (v_ev rfl) (c _) (add_lst (by simp))))))⟩
theorem bases_val {K : PySem.W.Frag} {k : Nat} {ns : List Str} {ds : List D} (q : Kq K) (hk : k < 12) : ∃ fin, S_law_bases K [.exc (He.ga K (kc k)) ns ds] = some (.lst (du5 k), fin) := by
  have i : ∀ (j : Nat), j < 17 → ∀ z : Option D, eIsX K (Ks K) (tg K j) (eV 0) [some (.exc (He.ga K (kc k)) ns ds), z] = some (.bl (du k j), [some (.exc (He.ga K (kc k)) ns ds), z]) := fun j hj z => isx_ev j q hk hj rfl
  have a := fun z => lst_ev (lc_ev (i 12 (by decide) z) (lc_ev (i 13 (by decide) z) (lc_ev (i 14 (by decide) z) ln_ev))) (by simp)
  have b := fun z => lst_ev (lc_ev (i 15 (by decide) z) (lc_ev (i 16 (by decide) z) ln_ev)) (by simp)
  exact ⟨_, sem_rt rfl ((seq_nx (set_is (i := 1) (a none))).trans (rt_is (e2_ev (v_ev rfl) (b _) (add_lst (by simp)))))⟩
def du5' (k : Nat) : List D := if k < 8 then [.bl true, .bl true, .bl false, .bl false, .bl false] else [.bl false, .bl false, .bl true, .bl (decide ((k : Int) = 10)), .bl (decide ((k : Int) = 11))]
theorem due_val : ∀ k : Nat, k < 12 → ∃ fin, S_law_bases_due [.int (k : Int)] = some (.lst (du5' k), fin)
  | 0, _ | 1, _ | 2, _ | 3, _ | 4, _ | 5, _ | 6, _ | 7, _ | 8, _ | 9, _ | 10, _ | 11, _ => ⟨_, rfl⟩
  | n + 12, h => absurd h (by omega)
def res (k : Nat) : List D := (List.range 12).map fun j : Nat => .bl (decide ((0 + (j : Int)) = (k : Int)))
theorem ne12 : ∀ k : Nat, k < 12 → neD (.lst (du12 k)) (.lst (res k)) = some (.bl false)
  | 0, _ | 1, _ | 2, _ | 3, _ | 4, _ | 5, _ | 6, _ | 7, _ | 8, _ | 9, _ | 10, _ | 11, _ => rfl
  | n + 12, h => absurd h (by omega)
theorem ne5 : ∀ k : Nat, k < 12 → neD (.lst (du5 k)) (.lst (du5' k)) = some (.bl false)
  | 0, _ | 1, _ | 2, _ | 3, _ | 4, _ | 5, _ | 6, _ | 7, _ | 8, _ | 9, _ | 10, _ | 11, _ => rfl
  | n + 12, h => absurd h (by omega)
theorem for_step {g : GF} {b : SF} {d : D} {ds : List D} {env e e2 : Ev.Env} (h1 : g d env = some e) (h2 : b e = some (.nx, e2)) : forL g b (d :: ds) env = forL g b ds e2 := by
  show (g d env).bind _ = _
  rw [h1, bind1, h2, bind1]
theorem lc_step {own : List Nat} {g : GF} {f : EF} {d x : D} {ds acc : List D} {env e e2 : Ev.Env} (h1 : g d (wipeE env own) = some e) (h2 : f e = some (x, e2)) (hl : acc.length < 16777216) : lcL own g tYes1 f (d :: ds) env acc = lcL own g tYes1 f ds e2 (acc ++ [x]) := by
  show (g d (wipeE env own)).bind _ = _
  rw [h1, bind1]
  show (tYes1 e).bind _ = _
  unfold tYes1
  rw [bind1, if_pos rfl, h2, bind1, if_pos hl]
theorem xa_ev {K : PySem.W.Frag} {k : Nat} {f : Str} {a : EF} {env : Ev.Env} {ns : List Str} {ds : List D} {d : D} (hk : k < 12) (h : a env = some (.exc (He.ga K (kc k)) ns ds, env)) (e : (ns.zip ds).lookup f = some d) : eXa (Ks K) f a env = some (d, env) := by
  unfold eXa
  rw [h, bind1]
  dsimp only
  rw [if_pos (k_in hk), e, map1]
abbrev rBody (K : PySem.W.Frag) : SF := sIf (tOr1 (tB1 (e2 neD (qE (eCallS sg_law_sorts (S_law_sorts K) (uF (eV 7) (uN)))) (qE (eLc (wRg1 (eC (.int 12))) [10] (gN 10) (tYes1) (e2 eqD (qE (eV 10)) (qE (eV 6))))))) (tB1 (e2 neD (qE (eCallS sg_law_bases (S_law_bases K) (uF (eV 7) (uN)))) (qE (eCallS sg_law_bases_due S_law_bases_due (uF (eV 6) (uN))))))) (sRt (eC (.bl false))) (sNx)
abbrev rE (d x1 x2 x3 x4 l : D) (k : Option D) (e : Option D) : Ev.Env := [some d, some x1, some x2, some x3, some x4, some l, k, e, none, none, none]
theorem lcI {own : List Nat} {g : GF} {f : EF} {k : Int} {B : Option D → Ev.Env} (hg : ∀ (j : Int) z, g (.int j) (wipeE (B z) own) = some (B (some (.int j)))) (hf : ∀ j : Int, f (B (some (.int j))) = some (.bl (decide (j = k)), B (some (.int j)))) :
    ∀ (L : List Int) (z : Option D) (acc : List D), acc.length + L.length < 16777216 → ∃ z', lcL own g tYes1 f (L.map .int) (B z) acc = some (acc ++ L.map (fun j => .bl (decide (j = k))), B z')
  | [], z, acc, _ => ⟨z, by rw [List.map_nil, List.map_nil, List.append_nil] <;> rfl⟩
  | j :: L, z, acc, h => by
    rw [List.length_cons] at h
    obtain ⟨z', ih⟩ := lcI hg hf L (some (.int j)) (acc ++ [.bl (decide (j = k))]) (by rw [List.length_append, List.length_singleton]; omega)
    refine ⟨z', ?_⟩
    rw [List.map_cons, List.map_cons, lc_step (hg j z) (hf j) (by omega), ih, List.append_assoc] <;> rfl
theorem rg_ev {n : Nat} {f : EF} {env : Ev.Env} (hn : n < 1000) (h : f env = some (.int (n : Int), env)) : wRg1 f env = some (rgD 0 n, env) := by
  unfold wRg1
  rw [h, bind1]
  dsimp only
  rw [if_pos (by omega), Int.toNat_natCast]
theorem elc_ev {wf : WF} {own : List Nat} {g : GF} {t : TF} {f : EF} {env env1 env2 : Ev.Env} {ds acc : List D} (h : wf env = some (ds, env1)) (h2 : lcL own g t f ds env1 [] = some (acc, env2)) : eLc wf own g t f env = some (.lst acc, restE env1 env2 own) := by
  unfold eLc
  rw [h, bind1, h2, map1]
theorem lc12 {d x1 x2 x3 x4 l : D} {e : Option D} (k : Nat) : eLc (wRg1 (eC (.int 12))) [10] (gN 10) (tYes1) (e2 eqD (qE (eV 10)) (qE (eV 6))) (rE d x1 x2 x3 x4 l (some (.int (k : Int))) e) = some (.lst (res k), rE d x1 x2 x3 x4 l (some (.int (k : Int))) e) := by
  have hL : rgD 0 12 = ((List.range 12).map fun j : Nat => (0 + (j : Int))).map D.int := by unfold rgD; rw [List.map_map] <;> rfl
  obtain ⟨z', h⟩ := lcI (own := [10]) (g := gN 10) (f := e2 eqD (qE (eV 10)) (qE (eV 6))) (k := (k : Int)) (B := fun z => [some d, some x1, some x2, some x3, some x4, some l, some (.int (k : Int)), e, none, none, z]) (fun j z => rfl) (fun j => e2_ev (v_ev rfl) (v_ev rfl) rfl) ((List.range 12).map fun j : Nat => (0 + (j : Int))) none [] (by simp)
  rw [← hL] at h
  refine (elc_ev (rg_ev (n := 12) (by decide) (c_ev (d := .int 12))) h).trans ?_
  rw [List.nil_append]
  have e2 : res k = ((List.range 12).map fun j : Nat => (0 + (j : Int))).map fun j => D.bl (decide (j = (k : Int))) := by unfold res; rw [List.map_map] <;> rfl
  rw [e2] <;> rfl
theorem for_ev {wf : WF} {g : GF} {b : SF} {env env1 : Ev.Env} {ds : List D} (h : wf env = some (ds, env1)) : sFor wf g b env = forL g b ds env1 := by
  unfold sFor
  rw [h, bind1]
theorem en_ev {f : EF} {env env1 : Ev.Env} {ds : List D} (h : f env = some (.lst ds, env1)) : wEn f env = some (enD 0 ds, env1) := by
  unfold wEn
  rw [h, bind1]
theorem body_ev {K : PySem.W.Frag} (q : Kq K) {d x1 x2 x3 x4 l : D} {k : Nat} {ns : List Str} {ds : List D} (hk : k < 12) : rBody K (rE d x1 x2 x3 x4 l (some (.int (k : Int))) (some (.exc (He.ga K (kc k)) ns ds))) = some (.nx, rE d x1 x2 x3 x4 l (some (.int (k : Int))) (some (.exc (He.ga K (kc k)) ns ds))) := by
  obtain ⟨f1, h1⟩ := sorts_val (ns := ns) (ds := ds) q hk
  obtain ⟨f2, h2⟩ := bases_val (ns := ns) (ds := ds) q hk
  obtain ⟨f3, h3⟩ := due_val k hk
  have o : tOr1 (tB1 (e2 neD (qE (eCallS sg_law_sorts (S_law_sorts K) (uF (eV 7) (uN)))) (qE (eLc (wRg1 (eC (.int 12))) [10] (gN 10) (tYes1) (e2 eqD (qE (eV 10)) (qE (eV 6))))))) (tB1 (e2 neD (qE (eCallS sg_law_bases (S_law_bases K) (uF (eV 7) (uN)))) (qE (eCallS sg_law_bases_due S_law_bases_due (uF (eV 6) (uN)))))) (rE d x1 x2 x3 x4 l (some (.int (k : Int))) (some (.exc (He.ga K (kc k)) ns ds))) = some (false, rE d x1 x2 x3 x4 l (some (.int (k : Int))) (some (.exc (He.ga K (kc k)) ns ds))) := by
    unfold tOr1
    rw [tb_is (e2_ev (call_f1 rfl (v_ev rfl) h1) (lc12 k) (ne12 k hk)), bind1, if_neg (fun q => by cases q)]
    exact tb_is (e2_ev (call_f1 rfl (v_ev rfl) h2) (call_f1 rfl (v_ev rfl) h3) (ne5 k hk))
  refine (if_is o).trans ?_
  rw [if_neg (by decide)]
  rfl
def exl (K : PySem.W.Frag) (x1 x2 x3 x4 : D) : List D := [.exc (He.ga K (kc 0)) ["at", "word"] [x2, x1], .exc (He.ga K (kc 1)) ["at", "word"] [x4, x3], .exc (He.ga K (kc 2)) ["at"] [x1], .exc (He.ga K (kc 3)) ["at", "word"] [x3, x2], .exc (He.ga K (kc 4)) ["answer"] [x4], .exc (He.ga K (kc 5)) ["at"] [x1], .exc (He.ga K (kc 6)) ["number", "at"] [x4, x2], .exc (He.ga K (kc 7)) [] [], .exc (He.ga K (kc 8)) [] [], .exc (He.ga K (kc 9)) ["inputs"] [x3], .exc (He.ga K (kc 10)) ["number"] [x2], .exc (He.ga K (kc 11)) ["name"] [x4]]
theorem loop_ev {K : PySem.W.Frag} (q : Kq K) {d x1 x2 x3 x4 : D} : ∃ k e, sFor (wEn (eV 5)) (gT (gsC (gN 6) (gsC (gN 7) (gsN)))) (rBody K) (rE d x1 x2 x3 x4 (.lst (exl K x1 x2 x3 x4)) none none) = some (.nx, rE d x1 x2 x3 x4 (.lst (exl K x1 x2 x3 x4)) k e) := by
  refine ⟨some (.int ((11 : Nat) : Int)), some (.exc (He.ga K (kc 11)) ["name"] [x4]), ?_⟩
  refine (for_ev (en_ev (v_ev rfl))).trans ?_
  refine (for_step (e := rE d x1 x2 x3 x4 (.lst (exl K x1 x2 x3 x4)) (some (.int ((0 : Nat) : Int))) _) rfl (body_ev q (k := 0) (by decide))).trans ?_
  refine (for_step (e := rE d x1 x2 x3 x4 (.lst (exl K x1 x2 x3 x4)) (some (.int ((1 : Nat) : Int))) _) rfl (body_ev q (k := 1) (by decide))).trans ?_
  refine (for_step (e := rE d x1 x2 x3 x4 (.lst (exl K x1 x2 x3 x4)) (some (.int ((2 : Nat) : Int))) _) rfl (body_ev q (k := 2) (by decide))).trans ?_
  refine (for_step (e := rE d x1 x2 x3 x4 (.lst (exl K x1 x2 x3 x4)) (some (.int ((3 : Nat) : Int))) _) rfl (body_ev q (k := 3) (by decide))).trans ?_
  refine (for_step (e := rE d x1 x2 x3 x4 (.lst (exl K x1 x2 x3 x4)) (some (.int ((4 : Nat) : Int))) _) rfl (body_ev q (k := 4) (by decide))).trans ?_
  refine (for_step (e := rE d x1 x2 x3 x4 (.lst (exl K x1 x2 x3 x4)) (some (.int ((5 : Nat) : Int))) _) rfl (body_ev q (k := 5) (by decide))).trans ?_
  refine (for_step (e := rE d x1 x2 x3 x4 (.lst (exl K x1 x2 x3 x4)) (some (.int ((6 : Nat) : Int))) _) rfl (body_ev q (k := 6) (by decide))).trans ?_
  refine (for_step (e := rE d x1 x2 x3 x4 (.lst (exl K x1 x2 x3 x4)) (some (.int ((7 : Nat) : Int))) _) rfl (body_ev q (k := 7) (by decide))).trans ?_
  refine (for_step (e := rE d x1 x2 x3 x4 (.lst (exl K x1 x2 x3 x4)) (some (.int ((8 : Nat) : Int))) _) rfl (body_ev q (k := 8) (by decide))).trans ?_
  refine (for_step (e := rE d x1 x2 x3 x4 (.lst (exl K x1 x2 x3 x4)) (some (.int ((9 : Nat) : Int))) _) rfl (body_ev q (k := 9) (by decide))).trans ?_
  refine (for_step (e := rE d x1 x2 x3 x4 (.lst (exl K x1 x2 x3 x4)) (some (.int ((10 : Nat) : Int))) _) rfl (body_ev q (k := 10) (by decide))).trans ?_
  exact (for_step (e := rE d x1 x2 x3 x4 (.lst (exl K x1 x2 x3 x4)) (some (.int ((11 : Nat) : Int))) _) rfl (body_ev q (k := 11) (by decide)))
end Lw

end

section
set_option Elab.async false
set_option linter.all false
set_option maxRecDepth 100000
namespace Lw
open PySem PySem.Spec PyProof.Rows L2 Ev
theorem asg_ev {g : GF} {f : EF} {env env1 env2 : Ev.Env} {d : D} (h : f env = some (d, env1)) (e : g d env1 = some env2) : sAsg g f env = some (.nx, env2) := by
  unfold sAsg
  rw [h, bind1]
  dsimp only
  rw [e, map1]
theorem mk0_ev {C : Addr} {env : Ev.Env} : eMk0 C env = some (.exc C [] [], env) := rfl
theorem mk1_ev {C : Addr} {f : Str} {a : LF} {env env1 : Ev.Env} {d : D} (h : a env = some ([d], env1)) : eMk1 C f a env = some (.exc C [f] [d], env1) := by
  unfold eMk1
  rw [h, bind1]
theorem mk2_ev {C : Addr} {f g : Str} {a : LF} {env env1 : Ev.Env} {d c : D} (h : a env = some ([d, c], env1)) : eMk2 C f g a env = some (.exc C [g, f] [c, d], env1) := by
  unfold eMk2
  rw [h, bind1]
theorem mk2r_ev {C : Addr} {f g : Str} {a : LF} {env env1 : Ev.Env} {d c : D} (h : a env = some ([c, d], env1)) : eMk2r C f g a env = some (.exc C [g, f] [c, d], env1) := by
  unfold eMk2r
  rw [h, bind1]
theorem call_thing {n : Nat} {d : D} {rest : Ev.Env} (hn : n + 10 < 100000) (hd : Fw n d) : ∃ x d', eCallS sg_law_thing S_law_thing (uO 0 (uN)) (some d :: rest) = some (x, some d' :: rest) ∧ Fw (n + 7) d' ∧ Gd x := by
  obtain ⟨x, d', e1, e2, h, f, g⟩ := thing_val hn hd
  exact ⟨x, d', call_o1 rfl rfl h, f, g⟩
abbrev rN (d : D) (z : Option D) : Ev.Env := [some d, none, none, none, none, none, z, none, none, none, none]
theorem right_val {K : PySem.W.Frag} (q : Kq K) {d : D} (hd : Fw 0 d) : ∃ fin, S_law_right K [d] = some (.bl true, fin) := by
  obtain ⟨x1, d1, c1, f1, g1⟩ := call_thing (rest := [none, none, none, none, none, some (.int 0), none, none, none, none]) (by decide) hd
  obtain ⟨x2, d2, c2, f2, g2⟩ := call_thing (rest := [none, none, none, none, none, some (.int 1), none, none, none, none]) (by decide) f1
  obtain ⟨x3, d3, c3, f3, g3⟩ := call_thing (rest := [none, none, none, none, none, some (.int 2), none, none, none, none]) (by decide) f2
  obtain ⟨x4, d4, c4, f4, g4⟩ := call_thing (rest := [none, none, none, none, none, some (.int 3), none, none, none, none]) (by decide) f3
  have l4 : lcL [6] (gN 6) tYes1 (eCallS sg_law_thing S_law_thing (uO 0 (uN))) (rgD 0 4) (rN d none) [] = some ([x1, x2, x3, x4], rN d4 (some (.int 3))) := by
    show lcL [6] (gN 6) tYes1 (eCallS sg_law_thing S_law_thing (uO 0 (uN))) [.int 0, .int 1, .int 2, .int 3] (rN d none) [] = _
    refine (lc_step (e2 := rN d1 (some (.int 0))) rfl c1 (by decide)).trans ?_
    refine (lc_step (e2 := rN d2 (some (.int 1))) rfl c2 (by simp)).trans ?_
    refine (lc_step (e2 := rN d3 (some (.int 2))) rfl c3 (by simp)).trans ?_
    exact (lc_step (e2 := rN d4 (some (.int 3))) rfl c4 (by simp)).trans rfl
  have s1 : sAsg (gU (gsC (gN 1) (gsC (gN 2) (gsC (gN 3) (gsC (gN 4) (gsN)))))) (eLc (wRg1 (eC (.int 4))) [6] (gN 6) (tYes1) (eCallS sg_law_thing S_law_thing (uO 0 (uN)))) (rN d none) = some (.nx, [some d4, some x1, some x2, some x3, some x4, none, none, none, none, none, none]) :=
    asg_ev (elc_ev (rg_ev (n := 4) (by decide) (c_ev (d := .int 4))) l4) rfl
  have v1 : ∀ {r : Ev.Env}, eV 1 (some d4 :: some x1 :: r) = some (x1, some d4 :: some x1 :: r) := v_ev rfl
  have v2 : ∀ {r : Ev.Env}, eV 2 (some d4 :: some x1 :: some x2 :: r) = some (x2, some d4 :: some x1 :: some x2 :: r) := v_ev rfl
  have v3 : ∀ {r : Ev.Env}, eV 3 (some d4 :: some x1 :: some x2 :: some x3 :: r) = some (x3, some d4 :: some x1 :: some x2 :: some x3 :: r) := v_ev rfl
  have v4 : ∀ {r : Ev.Env}, eV 4 (some d4 :: some x1 :: some x2 :: some x3 :: some x4 :: r) = some (x4, some d4 :: some x1 :: some x2 :: some x3 :: some x4 :: r) := v_ev rfl
  have s2 := set_is (i := 5) (lst_ev (lc_ev (mk2_ev (C := He.ga K "NoHead") (f := "word") (g := "at") (lc_ev (v1 (r := [some x2, some x3, some x4, none, none, none, none, none, none])) (lc_ev v2 ln_ev))) (lc_ev (mk2_ev (C := He.ga K "NoProgram") (f := "word") (g := "at") (lc_ev v3 (lc_ev v4 ln_ev))) (lc_ev (mk1_ev (C := He.ga K "NoText") (f := "at") (lc_ev v1 ln_ev)) (lc_ev (mk2_ev (C := He.ga K "NoStock") (f := "word") (g := "at") (lc_ev v2 (lc_ev v3 ln_ev))) (lc_ev (mk1_ev (C := He.ga K "NoAnswer") (f := "answer") (lc_ev v4 ln_ev)) (lc_ev (mk1_ev (C := He.ga K "NoInputs") (f := "at") (lc_ev v1 ln_ev)) (lc_ev (mk2_ev (C := He.ga K "Clash") (f := "at") (g := "number") (lc_ev v2 (lc_ev v4 ln_ev))) (lc_ev (mk0_ev (C := He.ga K "NoRow")) ln_ev)))))))) (by simp))
  have s3 := set_is (i := 5) (e2_ev (env := [some d4, some x1, some x2, some x3, some x4, some (.lst ((exl K x1 x2 x3 x4).take 8)), none, none, none, none, none]) (v_ev (i := 5) rfl) (lst_ev (lc_ev (mk0_ev (C := He.ga K "NoQuestion")) (lc_ev (mk1_ev (C := He.ga K "NoDoer") (f := "inputs") (lc_ev v3 ln_ev)) (lc_ev (mk1_ev (C := He.ga K "NotKept") (f := "number") (lc_ev v2 ln_ev)) (lc_ev (mk1_ev (C := He.ga K "NoName") (f := "name") (lc_ev v4 ln_ev)) ln_ev)))) (by simp)) (add_lst (by simp [exl])))
  obtain ⟨k, e, s4⟩ := loop_ev q (d := d4) (x1 := x1) (x2 := x2) (x3 := x3) (x4 := x4)
  have X : ∀ (j : Nat) (hj : j < 12) (f : Str) (ns : List Str) (ds : List D) (x : D) (o9 o8 o10 : Option D), (exl K x1 x2 x3 x4)[j]? = some (.exc (He.ga K (kc j)) ns ds) → (ns.zip ds).lookup f = some x →
      eXa (Ks K) f (e2 ixD (qE (eV 5)) (qE (eC (.int (j : Int))))) [some d4, some x1, some x2, some x3, some x4, some (.lst (exl K x1 x2 x3 x4)), k, e, o8, o9, o10] = some (x, [some d4, some x1, some x2, some x3, some x4, some (.lst (exl K x1 x2 x3 x4)), k, e, o8, o9, o10]) :=
    fun j hj f ns ds x o9 o8 o10 h1 h2 => xa_ev hj (e2_ev (v_ev rfl) c_ev (ix3 h1)) h2
  have s5 := set_is (i := 8) (lst_ev (lc_ev (X 0 (by decide) "word" _ _ _ none none none rfl rfl) (lc_ev (X 0 (by decide) "at" _ _ _ none none none rfl rfl) (lc_ev (X 1 (by decide) "word" _ _ _ none none none rfl rfl) (lc_ev (X 1 (by decide) "at" _ _ _ none none none rfl rfl) (lc_ev (X 2 (by decide) "at" _ _ _ none none none rfl rfl) (lc_ev (X 3 (by decide) "word" _ _ _ none none none rfl rfl) (lc_ev (X 3 (by decide) "at" _ _ _ none none none rfl rfl) ln_ev))))))) (by simp))
  have s6 := set_is (i := 8) (e2_ev (v_ev (i := 8) (d := .lst [x1, x2, x3, x4, x1, x2, x3]) rfl) (lst_ev (lc_ev (X 4 (by decide) "answer" _ _ _ none (some (.lst [x1, x2, x3, x4, x1, x2, x3])) none rfl rfl) (lc_ev (X 5 (by decide) "at" _ _ _ _ _ _ rfl rfl) (lc_ev (X 6 (by decide) "at" _ _ _ _ _ _ rfl rfl) (lc_ev (X 6 (by decide) "number" _ _ _ _ _ _ rfl rfl) (lc_ev (X 9 (by decide) "inputs" _ _ _ _ _ _ rfl rfl) (lc_ev (X 10 (by decide) "number" _ _ _ _ _ _ rfl rfl) ln_ev)))))) (by simp)) (add_lst (by simp)))
  have G : ∀ x ∈ [x1, x2, x3, x4, x1, x2, x3, x4, x1, x2, x4, x3, x2, x4], Gd x := by
    intro x hx
    simp only [List.mem_cons, List.not_mem_nil, or_false] at hx
    rcases hx with rfl | rfl | rfl | rfl | rfl | rfl | rfl | rfl | rfl | rfl | rfl | rfl | rfl | rfl <;> assumption
  obtain ⟨fa1, ha1⟩ := alike_val _ (by simp) G
  have G2 : ∀ x ∈ [x3, x1, x4, x1, x3, x1, x2], Gd x := by
    intro x hx
    simp only [List.mem_cons, List.not_mem_nil, or_false] at hx
    rcases hx with rfl | rfl | rfl | rfl | rfl | rfl | rfl <;> assumption
  obtain ⟨fa2, ha2⟩ := alike_val _ (by simp) G2
  have t7 := call_f2 (sg := sg_law_alike) (S := S_law_alike) rfl (a1_ev (g := tupleD) (e2_ev (v_ev (i := 8) (d := .lst [x1, x2, x3, x4, x1, x2, x3, x4, x1, x2, x4, x3, x2]) rfl) (lst_ev (lc_ev (X 11 (by decide) "name" _ _ _ none (some (.lst [x1, x2, x3, x4, x1, x2, x3, x4, x1, x2, x4, x3, x2])) none rfl rfl) ln_ev) (by simp)) (add_lst (by simp))) rfl)
    (tup_ev (lc_ev v1 (lc_ev v2 (lc_ev v3 (lc_ev v4 (lc_ev v1 (lc_ev v2 (lc_ev v3 (lc_ev v4 (lc_ev v1 (lc_ev v2 (lc_ev v4 (lc_ev v3 (lc_ev v2 (lc_ev v4 ln_ev)))))))))))))) (by simp)) ha1
  have s7 := fun b : SF => (if_is (f := b) (g := sNx) (t := tNot1 (tB1 _)) (b := false) (by unfold tNot1; rw [tb_is t7, map1] <;> rfl)).trans (if_neg (by decide))
  have B : Ev.Env := [some d4, some x1, some x2, some x3, some x4, some (.lst (exl K x1 x2 x3 x4)), k, e, some (.lst [x1, x2, x3, x4, x1, x2, x3, x4, x1, x2, x4, x3, x2]), none, none]
  have s8 := set_is (i := 9) (lst_ev (lc_ev (mk2_ev (C := He.ga K "NoHead") (f := "word") (g := "at") (lc_ev (v3 (r := [some x4, some (.lst (exl K x1 x2 x3 x4)), k, e, some (.lst [x1, x2, x3, x4, x1, x2, x3, x4, x1, x2, x4, x3, x2]), none, none])) (lc_ev v1 ln_ev))) (lc_ev (mk2r_ev (C := He.ga K "NoStock") (f := "word") (g := "at") (lc_ev v1 (lc_ev v4 ln_ev))) (lc_ev (mk2r_ev (C := He.ga K "Clash") (f := "at") (g := "number") (lc_ev v1 (lc_ev v3 ln_ev))) (lc_ev (mk1_ev (C := He.ga K "NoDoer") (f := "inputs") (lc_ev v2 ln_ev)) ln_ev)))) (by simp))
  have Y : ∀ (m j : Nat) (hj : j < 12) (f : Str) (ns : List Str) (ds : List D) (x : D) (o8 o10 : Option D), ([.exc (He.ga K (kc 0)) ["at", "word"] [x1, x3], .exc (He.ga K (kc 3)) ["at", "word"] [x1, x4], .exc (He.ga K (kc 6)) ["number", "at"] [x1, x3], .exc (He.ga K (kc 9)) ["inputs"] [x2]] : List D)[m]? = some (.exc (He.ga K (kc j)) ns ds) → (ns.zip ds).lookup f = some x →
      eXa (Ks K) f (e2 ixD (qE (eV 9)) (qE (eC (.int (m : Int))))) [some d4, some x1, some x2, some x3, some x4, some (.lst (exl K x1 x2 x3 x4)), k, e, o8, some (.lst [.exc (He.ga K (kc 0)) ["at", "word"] [x1, x3], .exc (He.ga K (kc 3)) ["at", "word"] [x1, x4], .exc (He.ga K (kc 6)) ["number", "at"] [x1, x3], .exc (He.ga K (kc 9)) ["inputs"] [x2]]), o10] = some (x, [some d4, some x1, some x2, some x3, some x4, some (.lst (exl K x1 x2 x3 x4)), k, e, o8, some (.lst [.exc (He.ga K (kc 0)) ["at", "word"] [x1, x3], .exc (He.ga K (kc 3)) ["at", "word"] [x1, x4], .exc (He.ga K (kc 6)) ["number", "at"] [x1, x3], .exc (He.ga K (kc 9)) ["inputs"] [x2]]), o10]) :=
    fun m j hj f ns ds x o8 o10 h1 h2 => xa_ev hj (e2_ev (v_ev rfl) c_ev (ix3 h1)) h2
  have s9 := set_is (i := 8) (lst_ev (lc_ev (Y 0 0 (by decide) "word" _ _ _ (some (.lst [x1, x2, x3, x4, x1, x2, x3, x4, x1, x2, x4, x3, x2])) none rfl rfl) (lc_ev (Y 0 0 (by decide) "at" _ _ _ _ _ rfl rfl) (lc_ev (Y 1 3 (by decide) "word" _ _ _ _ _ rfl rfl) (lc_ev (Y 1 3 (by decide) "at" _ _ _ _ _ rfl rfl) (lc_ev (Y 2 6 (by decide) "at" _ _ _ _ _ rfl rfl) (lc_ev (Y 2 6 (by decide) "number" _ _ _ _ _ rfl rfl) (lc_ev (Y 3 9 (by decide) "inputs" _ _ _ _ _ rfl rfl) ln_ev))))))) (by simp))
  have t10 := rt_is (call_f2 (sg := sg_law_alike) (S := S_law_alike) (f := eA tupleD (aC (qE (eV 8)) (aN))) (env := [some d4, some x1, some x2, some x3, some x4, some (.lst (exl K x1 x2 x3 x4)), k, e, some (.lst [x3, x1, x4, x1, x3, x1, x2]), some (.lst [.exc (He.ga K (kc 0)) ["at", "word"] [x1, x3], .exc (He.ga K (kc 3)) ["at", "word"] [x1, x4], .exc (He.ga K (kc 6)) ["number", "at"] [x1, x3], .exc (He.ga K (kc 9)) ["inputs"] [x2]]), none]) rfl (a1_ev (v_ev (i := 8) rfl) rfl)
    (tup_ev (lc_ev v3 (lc_ev v1 (lc_ev v4 (lc_ev v1 (lc_ev v3 (lc_ev v1 (lc_ev v2 ln_ev))))))) (by simp)) ha2)
  exact ⟨_, sem_rt rfl ((seq_nx s1).trans ((seq_nx s2).trans ((seq_nx s3).trans ((seq_nx s4).trans ((seq_nx s5).trans ((seq_nx s6).trans ((seq_nx (s7 _)).trans ((seq_nx s8).trans ((seq_nx s9).trans t10)))))))))⟩
theorem call_right {K : PySem.W.Frag} (q : Kq K) {ns : List Int} {k : Int} (h0 : 0 ≤ k) (h6 : k < 6) : eCallS sg_law_right (S_law_right K) (uT (eCallS sg_law_flow S_law_flow (uF (eV 0) (uF (eV 1) (uN)))) (uN)) [some (.scr ns), some (.int k)] = some (.bl true, [some (.scr ns), some (.int k)]) := by
  obtain ⟨d, f1, hf, fw⟩ := flow_val ns k h0 h6
  obtain ⟨f2, hr⟩ := right_val q fw
  exact call_t1 rfl (call_f2 rfl (v_ev rfl) (v_ev rfl) hf) hr
theorem lc_right {K : PySem.W.Frag} (q : Kq K) {ns : List Int} : ∀ (L : List Int), (∀ k ∈ L, 0 ≤ k ∧ k < 6) → ∀ (z : Option D) (acc : List D), acc.length + L.length < 16777216 →
    ∃ z', lcL [1] (gN 1) tYes1 (eCallS sg_law_right (S_law_right K) (uT (eCallS sg_law_flow S_law_flow (uF (eV 0) (uF (eV 1) (uN)))) (uN))) (L.map .int) [some (.scr ns), z] acc = some (acc ++ L.map (fun _ => .bl true), [some (.scr ns), z'])
  | [], _, z, acc, _ => ⟨z, by rw [List.map_nil, List.map_nil, List.append_nil] <;> rfl⟩
  | k :: L, hk, z, acc, h => by
    rw [List.length_cons] at h
    obtain ⟨z', ih⟩ := lc_right q L (fun j hj => hk j (List.mem_cons_of_mem _ hj)) (some (.int k)) (acc ++ [.bl true]) (by rw [List.length_append, List.length_singleton]; omega)
    refine ⟨z', ?_⟩
    have h1 := hk k List.mem_cons_self
    refine (lc_step (e := [some (.scr ns), some (.int k)]) rfl (call_right q h1.1 h1.2) (by omega)).trans ?_
    rw [ih, List.append_assoc] <;> rfl
theorem all_true (L : List Int) : allD [.lst (L.map fun _ => .bl true)] = some (.bl true) := by
  have h : ∀ L : List Int, asBools (L.map fun _ => D.bl true) = some (L.map fun _ => true) := fun L => by
    induction L with
    | nil => rfl
    | cons k L ih =>
      show (asBools (L.map fun _ => D.bl true)).map _ = _
      rw [ih] <;> rfl
  show (asBools (L.map fun _ => D.bl true)).map _ = _
  rw [h, map1]
  have h2 : (L.map fun _ => true).all id = true := by simp
  rw [h2]
theorem sl6 (ns : List Int) : ∃ m : Nat, m ≤ 6 ∧ ((Ev.cutD ns none (some 6)).map D.int).length = m := by
  refine ⟨_, ?_, rfl⟩
  rw [List.length_map]
  unfold Ev.cutD
  rw [List.length_take]
  have h : HT.sIx ns.length ns.length (some 6) ≤ 6 := by
    show (_ : Nat) ≤ 6
    unfold HT.sIx
    simp
    omega
  omega
theorem law_val {K : PySem.W.Frag} (q : Kq K) (ns : List Int) : ∃ fin, S_law K [.scr ns] = some (.bl true, fin) := by
  obtain ⟨m, hm, hl⟩ := sl6 ns
  have sl : eSl slD (qE (eV 0)) (pN) (pS (eC (.int 6))) [some (.scr ns), none] = some (.lst ((Ev.cutD ns none (some 6)).map D.int), [some (.scr ns), none]) := sl_ev (v_ev rfl) pn_ev (ps_ev c_ev) rfl
  obtain ⟨n, hn, hx⟩ : ∃ n : Nat, n ≤ 6 ∧ max2D [.int 2, .int (m : Int)] = some (.int (n : Int)) := by
    by_cases h : (m : Int) > 2
    · exact ⟨m, hm, by show some (D.int (if (m : Int) > 2 then (m : Int) else 2)) = _; rw [if_pos h]⟩
    · exact ⟨2, by decide, by show some (D.int (if (m : Int) > 2 then (m : Int) else 2)) = _; rw [if_neg h] <;> rfl⟩
  have le : eA lenD (aC (qE (eSl slD (qE (eV 0)) (pN) (pS (eC (.int 6))))) (aN)) [some (.scr ns), none] = some (.int (m : Int), [some (.scr ns), none]) := a1_ev sl (by show some (D.int _) = _; rw [hl])
  have wr := rg_ev (n := n) (by omega) (a2_ev (c_ev (d := .int 2)) le hx)
  have hL : rgD 0 n = ((List.range n).map fun j : Nat => (0 + (j : Int))).map D.int := by unfold rgD; rw [List.map_map] <;> rfl
  obtain ⟨z', h⟩ := lc_right q (ns := ns) ((List.range n).map fun j : Nat => (0 + (j : Int))) (fun k hk => by
    obtain ⟨j, hj, rfl⟩ := List.mem_map.mp hk
    have := List.mem_range.mp hj
    omega) none [] (by simp; omega)
  rw [← hL] at h
  exact ⟨_, sem_rt rfl (rt_is (a1_ev (elc_ev wr h) (all_true _)))⟩
end Lw

end

section
set_option Elab.async false
set_option linter.all false
set_option maxRecDepth 100000
set_option maxHeartbeats 0
namespace Lw
open PySem PySem.Spec PyProof.Rows L2 Ev
theorem xbf {K : PySem.W.Frag} (c : xb K = List.replicate nX true) (i : Nat) {b : Bool} (h : (xb K)[i]? = some b := by rfl) : b = true := by
  rw [c] at h
  exact List.eq_of_mem_replicate (List.mem_of_getElem? h)
theorem kq {K : PySem.W.Frag} (c : xb K = List.replicate nX true) : Kq K := by
  intro k hk j hj
  have e : (xb K).drop 101 = (List.range 204).map fun n => kitB1 K (kc (n / 17)) (tg K (n % 17)) (du (n / 17) (n % 17)) := by rfl
  have m : kitB1 K (kc k) (tg K j) (du k j) ∈ (xb K).drop 101 := by
    rw [e]
    refine List.mem_map.mpr ⟨17 * k + j, List.mem_range.mpr (by omega), ?_⟩
    rw [show (17 * k + j) / 17 = k by omega, show (17 * k + j) % 17 = j by omega]
  have m2 := List.mem_of_mem_drop m
  rw [c] at m2
  exact of_decide_eq_true (List.eq_of_mem_replicate m2)
theorem bx_ValueError : XcV.BaseX "ValueError" "ValueError" "ValueError.__new__" "ValueError.__init__" (bmOf ["ValueError", "Exception", "BaseException", "object"]) :=
  ⟨⟨_, _, PySem.F.excBase_ValueError⟩, PySem.F.store_ValueError, XcF.iniOf PySem.F.excBase_ValueError.toExcCallFacts, by decide +kernel, by decide +kernel, by decide +kernel, by decide +kernel⟩
theorem bx_LookupError : XcV.BaseX "LookupError" "LookupError" "LookupError.__new__" "LookupError.__init__" (bmOf ["LookupError", "Exception", "BaseException", "object"]) :=
  ⟨⟨_, _, PySem.F.excBase_LookupError⟩, PySem.F.store_LookupError, XcF.iniOf PySem.F.excBase_LookupError.toExcCallFacts, by decide +kernel, by decide +kernel, by decide +kernel, by decide +kernel⟩
theorem bx_IndexError : XcV.BaseX "IndexError" "IndexError" "IndexError.__new__" "IndexError.__init__" (bmOf ["IndexError", "LookupError", "Exception", "BaseException", "object"]) :=
  ⟨⟨_, _, PySem.F.excBase_IndexError⟩, PySem.F.store_IndexError, XcF.iniOf PySem.F.excBase_IndexError.toExcCallFacts, by decide +kernel, by decide +kernel, by decide +kernel, by decide +kernel⟩
theorem bx_KeyError : XcV.BaseX "LookupError" "KeyError" "LookupError.__new__" "KeyError.__init__" (bmOf ["KeyError", "LookupError", "Exception", "BaseException", "object"]) :=
  ⟨⟨_, _, PySem.F.excBase_LookupError⟩, XcF.keyStore, XcF.keyIni, by decide +kernel, by decide +kernel, by decide +kernel, by decide +kernel⟩
theorem all12 {K : PySem.W.Frag} {p : Addr → Prop} (h0 : p (He.ga K "NoHead")) (h1 : p (He.ga K "NoProgram")) (h2 : p (He.ga K "NoText")) (h3 : p (He.ga K "NoStock")) (h4 : p (He.ga K "NoAnswer")) (h5 : p (He.ga K "NoInputs")) (h6 : p (He.ga K "Clash")) (h7 : p (He.ga K "NoRow")) (h8 : p (He.ga K "NoQuestion")) (h9 : p (He.ga K "NoDoer")) (h10 : p (He.ga K "NotKept")) (h11 : p (He.ga K "NoName")) : ∀ C ∈ Ks K, p C := by
  intro C hC
  unfold Ks at hC
  simp only [List.mem_cons, List.not_mem_nil, or_false] at hC
  rcases hC with rfl | rfl | rfl | rfl | rfl | rfl | rfl | rfl | rfl | rfl | rfl | rfl <;> assumption
section
variable {K : PySem.W.Frag} {h : Heap} {mg : Str → Option Value}
theorem gf (KX : K.In h) (G : h.Ns mainGlobals mg) (c1 : He.SaysD fa fn K) (c2 : xb K = List.replicate nX true) : Gf K mg where
  nothing := trivial
  f_IndexError := He.free_ok KX G (c1.fact 23 (f := .free "IndexError") rfl)
  f_KeyError := He.free_ok KX G (c1.fact 24 (f := .free "KeyError") rfl)
  f_LookupError := He.free_ok KX G (c1.fact 25 (f := .free "LookupError") rfl)
  f_ValueError := He.free_ok KX G (c1.fact 26 (f := .free "ValueError") rfl)
  f_all := He.free_ok KX G (c1.fact 27 (f := .free "all") rfl)
  f_bool := He.free_ok KX G (c1.fact 28 (f := .free "bool") rfl)
  f_enumerate := He.free_ok KX G (c1.fact 29 (f := .free "enumerate") rfl)
  f_isinstance := He.free_ok KX G (c1.fact 30 (f := .free "isinstance") rfl)
  f_len := He.free_ok KX G (c1.fact 31 (f := .free "len") rfl)
  f_list := He.free_ok KX G (c1.fact 32 (f := .free "list") rfl)
  f_max := He.free_ok KX G (c1.fact 33 (f := .free "max") rfl)
  f_range := He.free_ok KX G (c1.fact 34 (f := .free "range") rfl)
  f_str := He.free_ok KX G (c1.fact 35 (f := .free "str") rfl)
  f_tuple := He.free_ok KX G (c1.fact 36 (f := .free "tuple") rfl)
  f_zip := He.free_ok KX G (c1.fact 37 (f := .free "zip") rfl)
  g_MakeError := He.glo_ok KX G (c1.fact 0 (f := .glo "MakeError") rfl)
  g_NoHead := He.glo_ok KX G (c1.fact 1 (f := .glo "NoHead") rfl)
  g_NoProgram := He.glo_ok KX G (c1.fact 2 (f := .glo "NoProgram") rfl)
  g_NoText := He.glo_ok KX G (c1.fact 3 (f := .glo "NoText") rfl)
  g_NoStock := He.glo_ok KX G (c1.fact 4 (f := .glo "NoStock") rfl)
  g_NoAnswer := He.glo_ok KX G (c1.fact 5 (f := .glo "NoAnswer") rfl)
  g_NoInputs := He.glo_ok KX G (c1.fact 6 (f := .glo "NoInputs") rfl)
  g_Clash := He.glo_ok KX G (c1.fact 7 (f := .glo "Clash") rfl)
  g_NoRow := He.glo_ok KX G (c1.fact 8 (f := .glo "NoRow") rfl)
  g_NoQuestion := He.glo_ok KX G (c1.fact 9 (f := .glo "NoQuestion") rfl)
  g_NoDoer := He.glo_ok KX G (c1.fact 10 (f := .glo "NoDoer") rfl)
  g_NotKept := He.glo_ok KX G (c1.fact 11 (f := .glo "NotKept") rfl)
  g_NoName := He.glo_ok KX G (c1.fact 12 (f := .glo "NoName") rfl)
  x_ok := all12 ⟨_, _, clsB1_ok (xbf c2 0)⟩ ⟨_, _, clsB1_ok (xbf c2 8)⟩ ⟨_, _, clsB1_ok (xbf c2 16)⟩ ⟨_, _, clsB1_ok (xbf c2 24)⟩ ⟨_, _, clsB1_ok (xbf c2 32)⟩ ⟨_, _, clsB1_ok (xbf c2 40)⟩ ⟨_, _, clsB1_ok (xbf c2 48)⟩ ⟨_, _, clsB1_ok (xbf c2 56)⟩ ⟨_, _, clsB1_ok (xbf c2 64)⟩ ⟨_, _, clsB1_ok (xbf c2 72)⟩ ⟨_, _, clsB1_ok (xbf c2 80)⟩ ⟨_, _, clsB1_ok (xbf c2 88)⟩
  xa_answer := all12 ⟨_, _, clsB1_ok (xbf c2 0), He.eqO_ok (xbf c2 2)⟩ ⟨_, _, clsB1_ok (xbf c2 8), He.eqO_ok (xbf c2 10)⟩ ⟨_, _, clsB1_ok (xbf c2 16), He.eqO_ok (xbf c2 18)⟩ ⟨_, _, clsB1_ok (xbf c2 24), He.eqO_ok (xbf c2 26)⟩ ⟨_, _, clsB1_ok (xbf c2 32), He.eqO_ok (xbf c2 34)⟩ ⟨_, _, clsB1_ok (xbf c2 40), He.eqO_ok (xbf c2 42)⟩ ⟨_, _, clsB1_ok (xbf c2 48), He.eqO_ok (xbf c2 50)⟩ ⟨_, _, clsB1_ok (xbf c2 56), He.eqO_ok (xbf c2 58)⟩ ⟨_, _, clsB1_ok (xbf c2 64), He.eqO_ok (xbf c2 66)⟩ ⟨_, _, clsB1_ok (xbf c2 72), He.eqO_ok (xbf c2 74)⟩ ⟨_, _, clsB1_ok (xbf c2 80), He.eqO_ok (xbf c2 82)⟩ ⟨_, _, clsB1_ok (xbf c2 88), He.eqO_ok (xbf c2 90)⟩
  xa_at := all12 ⟨_, _, clsB1_ok (xbf c2 0), He.eqO_ok (xbf c2 3)⟩ ⟨_, _, clsB1_ok (xbf c2 8), He.eqO_ok (xbf c2 11)⟩ ⟨_, _, clsB1_ok (xbf c2 16), He.eqO_ok (xbf c2 19)⟩ ⟨_, _, clsB1_ok (xbf c2 24), He.eqO_ok (xbf c2 27)⟩ ⟨_, _, clsB1_ok (xbf c2 32), He.eqO_ok (xbf c2 35)⟩ ⟨_, _, clsB1_ok (xbf c2 40), He.eqO_ok (xbf c2 43)⟩ ⟨_, _, clsB1_ok (xbf c2 48), He.eqO_ok (xbf c2 51)⟩ ⟨_, _, clsB1_ok (xbf c2 56), He.eqO_ok (xbf c2 59)⟩ ⟨_, _, clsB1_ok (xbf c2 64), He.eqO_ok (xbf c2 67)⟩ ⟨_, _, clsB1_ok (xbf c2 72), He.eqO_ok (xbf c2 75)⟩ ⟨_, _, clsB1_ok (xbf c2 80), He.eqO_ok (xbf c2 83)⟩ ⟨_, _, clsB1_ok (xbf c2 88), He.eqO_ok (xbf c2 91)⟩
  xa_inputs := all12 ⟨_, _, clsB1_ok (xbf c2 0), He.eqO_ok (xbf c2 4)⟩ ⟨_, _, clsB1_ok (xbf c2 8), He.eqO_ok (xbf c2 12)⟩ ⟨_, _, clsB1_ok (xbf c2 16), He.eqO_ok (xbf c2 20)⟩ ⟨_, _, clsB1_ok (xbf c2 24), He.eqO_ok (xbf c2 28)⟩ ⟨_, _, clsB1_ok (xbf c2 32), He.eqO_ok (xbf c2 36)⟩ ⟨_, _, clsB1_ok (xbf c2 40), He.eqO_ok (xbf c2 44)⟩ ⟨_, _, clsB1_ok (xbf c2 48), He.eqO_ok (xbf c2 52)⟩ ⟨_, _, clsB1_ok (xbf c2 56), He.eqO_ok (xbf c2 60)⟩ ⟨_, _, clsB1_ok (xbf c2 64), He.eqO_ok (xbf c2 68)⟩ ⟨_, _, clsB1_ok (xbf c2 72), He.eqO_ok (xbf c2 76)⟩ ⟨_, _, clsB1_ok (xbf c2 80), He.eqO_ok (xbf c2 84)⟩ ⟨_, _, clsB1_ok (xbf c2 88), He.eqO_ok (xbf c2 92)⟩
  xa_name := all12 ⟨_, _, clsB1_ok (xbf c2 0), He.eqO_ok (xbf c2 5)⟩ ⟨_, _, clsB1_ok (xbf c2 8), He.eqO_ok (xbf c2 13)⟩ ⟨_, _, clsB1_ok (xbf c2 16), He.eqO_ok (xbf c2 21)⟩ ⟨_, _, clsB1_ok (xbf c2 24), He.eqO_ok (xbf c2 29)⟩ ⟨_, _, clsB1_ok (xbf c2 32), He.eqO_ok (xbf c2 37)⟩ ⟨_, _, clsB1_ok (xbf c2 40), He.eqO_ok (xbf c2 45)⟩ ⟨_, _, clsB1_ok (xbf c2 48), He.eqO_ok (xbf c2 53)⟩ ⟨_, _, clsB1_ok (xbf c2 56), He.eqO_ok (xbf c2 61)⟩ ⟨_, _, clsB1_ok (xbf c2 64), He.eqO_ok (xbf c2 69)⟩ ⟨_, _, clsB1_ok (xbf c2 72), He.eqO_ok (xbf c2 77)⟩ ⟨_, _, clsB1_ok (xbf c2 80), He.eqO_ok (xbf c2 85)⟩ ⟨_, _, clsB1_ok (xbf c2 88), He.eqO_ok (xbf c2 93)⟩
  xa_number := all12 ⟨_, _, clsB1_ok (xbf c2 0), He.eqO_ok (xbf c2 6)⟩ ⟨_, _, clsB1_ok (xbf c2 8), He.eqO_ok (xbf c2 14)⟩ ⟨_, _, clsB1_ok (xbf c2 16), He.eqO_ok (xbf c2 22)⟩ ⟨_, _, clsB1_ok (xbf c2 24), He.eqO_ok (xbf c2 30)⟩ ⟨_, _, clsB1_ok (xbf c2 32), He.eqO_ok (xbf c2 38)⟩ ⟨_, _, clsB1_ok (xbf c2 40), He.eqO_ok (xbf c2 46)⟩ ⟨_, _, clsB1_ok (xbf c2 48), He.eqO_ok (xbf c2 54)⟩ ⟨_, _, clsB1_ok (xbf c2 56), He.eqO_ok (xbf c2 62)⟩ ⟨_, _, clsB1_ok (xbf c2 64), He.eqO_ok (xbf c2 70)⟩ ⟨_, _, clsB1_ok (xbf c2 72), He.eqO_ok (xbf c2 78)⟩ ⟨_, _, clsB1_ok (xbf c2 80), He.eqO_ok (xbf c2 86)⟩ ⟨_, _, clsB1_ok (xbf c2 88), He.eqO_ok (xbf c2 94)⟩
  xa_word := all12 ⟨_, _, clsB1_ok (xbf c2 0), He.eqO_ok (xbf c2 7)⟩ ⟨_, _, clsB1_ok (xbf c2 8), He.eqO_ok (xbf c2 15)⟩ ⟨_, _, clsB1_ok (xbf c2 16), He.eqO_ok (xbf c2 23)⟩ ⟨_, _, clsB1_ok (xbf c2 24), He.eqO_ok (xbf c2 31)⟩ ⟨_, _, clsB1_ok (xbf c2 32), He.eqO_ok (xbf c2 39)⟩ ⟨_, _, clsB1_ok (xbf c2 40), He.eqO_ok (xbf c2 47)⟩ ⟨_, _, clsB1_ok (xbf c2 48), He.eqO_ok (xbf c2 55)⟩ ⟨_, _, clsB1_ok (xbf c2 56), He.eqO_ok (xbf c2 63)⟩ ⟨_, _, clsB1_ok (xbf c2 64), He.eqO_ok (xbf c2 71)⟩ ⟨_, _, clsB1_ok (xbf c2 72), He.eqO_ok (xbf c2 79)⟩ ⟨_, _, clsB1_ok (xbf c2 80), He.eqO_ok (xbf c2 87)⟩ ⟨_, _, clsB1_ok (xbf c2 88), He.eqO_ok (xbf c2 95)⟩
  n_NoHead_word := He.eqO_ok (xbf c2 7)
  n_NoHead_at := He.eqO_ok (xbf c2 3)
  n_NoProgram_word := He.eqO_ok (xbf c2 15)
  n_NoProgram_at := He.eqO_ok (xbf c2 11)
  n_NoText_at := He.eqO_ok (xbf c2 19)
  n_NoStock_word := He.eqO_ok (xbf c2 31)
  n_NoStock_at := He.eqO_ok (xbf c2 27)
  n_NoAnswer_answer := He.eqO_ok (xbf c2 34)
  n_NoInputs_at := He.eqO_ok (xbf c2 43)
  n_Clash_at := He.eqO_ok (xbf c2 51)
  n_Clash_number := He.eqO_ok (xbf c2 54)
  n_NoDoer_inputs := He.eqO_ok (xbf c2 76)
  n_NotKept_number := He.eqO_ok (xbf c2 86)
  n_NoName_name := He.eqO_ok (xbf c2 93)
theorem gi (KX : K.In h) (G : h.Ns mainGlobals mg) (c1 : He.SaysD fa fn K) (c2 : xb K = List.replicate nX true) : Gi K mg where
  toGf := gf KX G c1 c2
  k_NoHead := ⟨_, _, _, bx_ValueError, clsB1_ok (xbf c2 0)⟩
  i_NoHead := (initB_ok (xbf c2 1)).1
  t_NoHead := (initB_ok (xbf c2 1)).2
  k_NoProgram := ⟨_, _, _, bx_ValueError, clsB1_ok (xbf c2 8)⟩
  i_NoProgram := (initB_ok (xbf c2 9)).1
  t_NoProgram := (initB_ok (xbf c2 9)).2
  k_NoText := ⟨_, _, _, bx_ValueError, clsB1_ok (xbf c2 16)⟩
  i_NoText := (initB_ok (xbf c2 17)).1
  t_NoText := (initB_ok (xbf c2 17)).2
  k_NoStock := ⟨_, _, _, bx_ValueError, clsB1_ok (xbf c2 24)⟩
  i_NoStock := (initB_ok (xbf c2 25)).1
  t_NoStock := (initB_ok (xbf c2 25)).2
  k_NoAnswer := ⟨_, _, _, bx_ValueError, clsB1_ok (xbf c2 32)⟩
  i_NoAnswer := (initB_ok (xbf c2 33)).1
  t_NoAnswer := (initB_ok (xbf c2 33)).2
  k_NoInputs := ⟨_, _, _, bx_ValueError, clsB1_ok (xbf c2 40)⟩
  i_NoInputs := (initB_ok (xbf c2 41)).1
  t_NoInputs := (initB_ok (xbf c2 41)).2
  k_Clash := ⟨_, _, _, bx_ValueError, clsB1_ok (xbf c2 48)⟩
  i_Clash := (initB_ok (xbf c2 49)).1
  t_Clash := (initB_ok (xbf c2 49)).2
  k_NoRow := ⟨_, _, _, bx_ValueError, clsB1_ok (xbf c2 56)⟩
  i_NoRow := (initB_ok (xbf c2 57)).1
  t_NoRow := (initB_ok (xbf c2 57)).2
  k_NoQuestion := ⟨_, _, _, bx_LookupError, clsB1_ok (xbf c2 64)⟩
  i_NoQuestion := (initB_ok (xbf c2 65)).1
  t_NoQuestion := (initB_ok (xbf c2 65)).2
  k_NoDoer := ⟨_, _, _, bx_LookupError, clsB1_ok (xbf c2 72)⟩
  i_NoDoer := (initB_ok (xbf c2 73)).1
  t_NoDoer := (initB_ok (xbf c2 73)).2
  k_NotKept := ⟨_, _, _, bx_IndexError, clsB1_ok (xbf c2 80)⟩
  i_NotKept := (initB_ok (xbf c2 81)).1
  t_NotKept := (initB_ok (xbf c2 81)).2
  k_NoName := ⟨_, _, _, bx_KeyError, clsB1_ok (xbf c2 88)⟩
  i_NoName := (initB_ok (xbf c2 89)).1
  t_NoName := (initB_ok (xbf c2 89)).2
  b_IndexError := He.free_ok KX G (c1.fact 23 (f := .free "IndexError") rfl)
  v_IndexError := isVal_ok (xbf c2 96)
  b_KeyError := He.free_ok KX G (c1.fact 24 (f := .free "KeyError") rfl)
  v_KeyError := isVal_ok (xbf c2 97)
  b_LookupError := He.free_ok KX G (c1.fact 25 (f := .free "LookupError") rfl)
  v_LookupError := isVal_ok (xbf c2 98)
  r_MakeError := readB_ok (xbf c2 99)
  v_MakeError := isVal_ok (xbf c2 100)
end
theorem law_ok {P : Program} {w : World} {K : PySem.W.Frag} {h : Heap} {mg : Str → Option Value} {f : Addr} (KX : K.In h) (G0 : h.Ns mainGlobals mg) (hfa : mg ("law" : Str) = some (.ref f)) (c : obsX K = valX) :
    ∃ fd : FuncData, (∀ (s : Shared) (v : Value), BindsTo s fd ⟨[v], []⟩ [("_law_script", v)]) ∧ ∀ base : Heap, K.In base → base.Ns mainGlobals mg → FnOk P w K mg base CX0 5 f fd ["_law_script"] (spOf K w sg_law (S_law K)) := by
  have c1 : He.SaysD fa fn K := congrArg Prod.fst c
  have c2 : xb K = List.replicate nX true := congrArg Prod.snd c
  have G := gf KX G0 c1 c2
  have I := gi KX G0 c1 c2
  obtain ⟨fd0, F0⟩ := c1.def_ 0 (d := d0) rfl
  obtain ⟨fd1, F1⟩ := c1.def_ 1 (d := d1) rfl
  obtain ⟨fd2, F2⟩ := c1.def_ 2 (d := d2) rfl
  obtain ⟨fd3, F3⟩ := c1.def_ 3 (d := d3) rfl
  obtain ⟨fd4, F4⟩ := c1.def_ 4 (d := d4) rfl
  obtain ⟨fd5, F5⟩ := c1.def_ 5 (d := d5) rfl
  obtain ⟨fd6, F6⟩ := c1.def_ 6 (d := d6) rfl
  obtain ⟨fd7, F7⟩ := c1.def_ 7 (d := d7) rfl
  obtain ⟨fd8, F8⟩ := c1.def_ 8 (d := d8) rfl
  obtain ⟨fd9, F9⟩ := c1.def_ 9 (d := d9) rfl
  obtain ⟨fd10, F10⟩ := c1.def_ 10 (d := d10) rfl
  obtain ⟨fd11, F11⟩ := c1.def_ 11 (d := d11) rfl
  obtain ⟨fd12, F12⟩ := c1.def_ 12 (d := d12) rfl
  obtain ⟨fd13, F13⟩ := c1.def_ 13 (d := d13) rfl
  obtain ⟨fd14, F14⟩ := c1.def_ 14 (d := d14) rfl
  obtain ⟨fd15, F15⟩ := c1.def_ 15 (d := d15) rfl
  obtain ⟨fd16, F16⟩ := c1.def_ 16 (d := d16) rfl
  obtain ⟨fd17, F17⟩ := c1.def_ 17 (d := d17) rfl
  obtain ⟨fd18, F18⟩ := c1.def_ 18 (d := d18) rfl
  obtain ⟨fd19, F19⟩ := c1.def_ 19 (d := d19) rfl
  obtain ⟨fd20, F20⟩ := c1.def_ 20 (d := d20) rfl
  obtain ⟨fd21, F21⟩ := c1.def_ 21 (d := d21) rfl
  have e := hfa.symm.trans (He.glo_ok KX G0 (c1.fact 22 (f := .glo "law") rfl))
  cases e
  have b := FunD.bindsA (ps := ["_law_script"]) F21 fun _ _ _ _ _ _ us hl => match us, hl with | [_], _ => rfl
  refine ⟨fd21, fun s v => b s [v] rfl, fun base _ _ => ?_⟩
  have C_law_cell : Cal P w K mg base "_law_cell" 1 sg_law_cell S_law_cell := ⟨_, _, ["_law_script", "_law_k"], ok_law_cell (P := P) (w := w) (mg := mg) (base := base) F12 G , He.glo_ok KX G0 (c1.fact 13 (f := .glo "_law_cell") rfl), F12.kp, F12.bindsN fun _ _ _ _ _ _ us hl => match us, hl with | [_, _], _ => rfl⟩
  have C_law_flow : Cal P w K mg base "_law_flow" 2 sg_law_flow S_law_flow := ⟨_, _, ["_law_script", "_law_k"], ok_law_flow (P := P) (w := w) (mg := mg) (base := base) F13 G C_law_cell, He.glo_ok KX G0 (c1.fact 14 (f := .glo "_law_flow") rfl), F13.kp, F13.bindsN fun _ _ _ _ _ _ us hl => match us, hl with | [_, _], _ => rfl⟩
  have C_law_draw : Cal P w K mg base "_law_draw" 1 sg_law_draw S_law_draw := ⟨_, _, ["_law_flow_here", "_law_many"], ok_law_draw (P := P) (w := w) (mg := mg) (base := base) F14 G , He.glo_ok KX G0 (c1.fact 15 (f := .glo "_law_draw") rfl), F14.kp, F14.bindsN fun _ _ _ _ _ _ us hl => match us, hl with | [_, _], _ => rfl⟩
  have C_law_alike : Cal P w K mg base "_law_alike" 1 sg_law_alike S_law_alike := ⟨_, _, ["_law_found", "_law_due"], ok_law_alike (P := P) (w := w) (mg := mg) (base := base) F15 G , He.glo_ok KX G0 (c1.fact 16 (f := .glo "_law_alike") rfl), F15.kp, F15.bindsN fun _ _ _ _ _ _ us hl => match us, hl with | [_, _], _ => rfl⟩
  have C_law_sorts : Cal P w K mg base "_law_sorts" 1 sg_law_sorts (S_law_sorts K) := ⟨_, _, ["_law_e"], ok_law_sorts (P := P) (w := w) (mg := mg) (base := base) F16 G , He.glo_ok KX G0 (c1.fact 17 (f := .glo "_law_sorts") rfl), F16.kp, F16.bindsN fun _ _ _ _ _ _ us hl => match us, hl with | [_], _ => rfl⟩
  have C_law_thing : Cal P w K mg base "_law_thing" 2 sg_law_thing S_law_thing := ⟨_, _, ["_law_flow_here"], ok_law_thing (P := P) (w := w) (mg := mg) (base := base) F17 G C_law_draw, He.glo_ok KX G0 (c1.fact 18 (f := .glo "_law_thing") rfl), F17.kp, F17.bindsN fun _ _ _ _ _ _ us hl => match us, hl with | [_], _ => rfl⟩
  have C_law_bases : Cal P w K mg base "_law_bases" 1 sg_law_bases (S_law_bases K) := ⟨_, _, ["_law_e"], ok_law_bases (P := P) (w := w) (mg := mg) (base := base) F18 G , He.glo_ok KX G0 (c1.fact 19 (f := .glo "_law_bases") rfl), F18.kp, F18.bindsN fun _ _ _ _ _ _ us hl => match us, hl with | [_], _ => rfl⟩
  have C_law_bases_due : Cal P w K mg base "_law_bases_due" 1 sg_law_bases_due S_law_bases_due := ⟨_, _, ["_law_spot"], ok_law_bases_due (P := P) (w := w) (mg := mg) (base := base) F19 G , He.glo_ok KX G0 (c1.fact 20 (f := .glo "_law_bases_due") rfl), F19.kp, F19.bindsN fun _ _ _ _ _ _ us hl => match us, hl with | [_], _ => rfl⟩
  have C_law_right : Cal P w K mg base "_law_right" 4 sg_law_right (S_law_right K) := ⟨_, _, ["_law_flow_here"], ok_law_right (P := P) (w := w) (mg := mg) (base := base) F20 G C_law_alike C_law_bases C_law_bases_due C_law_sorts C_law_thing (cx_Clash F6 I) (ck_Clash F6 I) (cx_NoAnswer F4 I) (cx_NoDoer F9 I) (ck_NoDoer F9 I) (cx_NoHead F0 I) (ck_NoHead F0 I) (cx_NoInputs F5 I) (cx_NoName F11 I) (cx_NoProgram F1 I) (cx_NoQuestion F8 I) (cx_NoRow F7 I) (cx_NoStock F3 I) (ck_NoStock F3 I) (cx_NoText F2 I) (cx_NotKept F10 I), He.glo_ok KX G0 (c1.fact 21 (f := .glo "_law_right") rfl), F20.kp, F20.bindsN fun _ _ _ _ _ _ us hl => match us, hl with | [_], _ => rfl⟩
  exact ok_law (P := P) (w := w) (mg := mg) (base := base) F21 G C_law_flow C_law_right
theorem sp_ok {K : PySem.W.Frag} {w : World} (q : Kq K) {H : Hp} {a : Addr} {ns : List Int} {E : XK} (hS : SqL K H a (ns.map V.int)) : spOf K w sg_law (S_law K) [.ref a] H (fun v _ => v = .bl true) E := by
  obtain ⟨fin, hv⟩ := law_val q ns
  obtain ⟨Z, hz, hs⟩ : ∃ Z : Addr → Prop, (∀ b, Z b → H b ≠ none) ∧ ((Rd H a (.lst (ns.map V.int)) ∧ Z a) ∨ ScrK K a (ns.map V.int)) := by
    rcases hS with hr | hk
    · refine ⟨fun b => b = a, fun b e => ?_, .inl ⟨hr, rfl⟩⟩
      rw [e]
      rcases hr with r | ⟨o, r⟩ <;> (rw [r]; intro q; cases q)
    · exact ⟨fun _ => False, fun _ z => z.elim, .inr hk⟩
  refine ⟨rfl, Z, fun _ => [], [.scr ns], .bl true, fin, rfl, ⟨rfl, fun i d e _ => ?_, fun i d _ o => (by cases o), fun i j b hb => (by cases hb), fun i b hb => (by cases hb), hz⟩, hv, fun v σ1 Z1 F1 H1 _ _ _ r => ?_⟩
  · match i, e with
    | 0, e =>
      cases e
      exact ⟨_, rfl, .scr hs⟩
    | 1, e => cases e
    | n + 2, e => cases e
  · unfold RtOk at r
    rw [if_neg (by decide)] at r
    exact r.blv
theorem noRaise (H : Hp) (s : Shared) (e : Value) (s' : Shared) (z : CX0 [] H s (fun _ _ _ => False) e s') : False := z
end Lw
end
open PySem PySem.W PySem.Calls PyProof.Rows
theorem PySem.Challenge.cw_leastmaker_k01_refusals_holds : PySem.Challenge.rw_leastmaker_k01_refusals.Holds := by
  w_on; o_law
  refine HandSHeadRun.head_any (r := OpenLaw.row PySem.Challenge.rw_leastmaker_k01_refusals) (q := view (OpenLaw.row PySem.Challenge.rw_leastmaker_k01_refusals).prog [24]) (H := Lw.hk) (ob := Lw.ob) (M := 6000) (loose := Lw.names) (d := HandSHeadRun.topDef (OpenLaw.row PySem.Challenge.rw_leastmaker_k01_refusals).prog 24) (kwd := [])
    Lw.ob_eq (by kernel_rfl) (fun s => by kernel_rfl) Lw.run (by kernel_rfl) (by kernel_rfl) (by kernel_rfl) (by rfl) (by first | assumption | decide +kernel) (by decide +kernel) ⟨rfl, rfl, rfl, rfl, rfl, by decide +kernel⟩ ?hw ?hc
  case hw => w_witness2
  case hc =>
    refine L2.walk_ofE (l := PySem.Challenge.rw_leastmaker_k01_refusals) (n := 63) (k := 5) (x := "_law_script") (CX := L2.CX0) rfl (by decide) (by kernel_rfl) ⟨rfl, by decide, by decide⟩ ?F Lw.noRaise
    intro w mg fa h Y G hmg0
    obtain ⟨K, KX, c⟩ := Y
    have hmg : mg ("law" : PySem.Str) = some (.ref fa) := by
      have e : (HandSHeadRun.topDef (OpenLaw.row PySem.Challenge.rw_leastmaker_k01_refusals).prog 24).name = ("law" : PySem.Str) := by kernel_rfl
      rw [← e]
      exact hmg0
    obtain ⟨fd, hb, hF⟩ := Lw.law_ok (P := (PySem.Challenge.rw_leastmaker_k01_refusals).prog) (w := w) KX G hmg c
    exact ⟨K, fd, Ev.spOf K w Lw.sg_law (Lw.S_law K), KX, hb, fun H a ns hl _ hS => Lw.sp_ok (Lw.kq (congrArg Prod.snd c)) hS, hF⟩
