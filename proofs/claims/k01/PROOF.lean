import PyProof.Rows.All
import Wide.All
import OpenK.AllK
import Wide.FinOn
import HandS.ForMost
import HandS.ForExc
import HandS.CallSlots
import HandS.WideBits
import HandS.SortInts
import HandS.IsInst
import HandS.Style
import HandS.Flow
import HandS.Deep
import HandS.TupAny
import HandS.Gcd
import HandS.Zip
import HandS.Rev
import HandS.Defaults
import HandS.ExcInit
import HandS.ClsMeth
import HandS.TryOnly
import HandS.ExcOwn
import HandS.Head0
import HandS.Head1
import HandS.Head2
import HandS.HeadEnd
import HandS.HeadHook1
import HandS.HeadHook2
import HandS.Head3
import HandS.Head4
import HandS.HeadHook3
import HandS.HeadHook4
import PySem.Challenge.RW_usualdays_k01_ratios_and_day_sets
set_option linter.all false
set_option Elab.async false
set_option maxRecDepth 100000
set_option maxHeartbeats 4000000
/-! Plain data over the hand layer: values as trees, names as slots, an abstract heap whose part P never changes. -/
namespace Ue
open PySem L2

/-- plain data -/
inductive D where
  | non | bl (b : Bool) | int (i : Int) | str (s : Str)
  | tup (xs : List D) | lst (xs : List D)
  | obj (c : Nat) (fs : List D)
  | scr (ns : List Int)

/-- what a slot holds: data that stays; a list of its own that may be changed; an instance that is being made; a caught error -/
inductive EV where
  | v (d : D) | own (xs : List D) | new (c : Nat) (fs : List D) | ex (c : Nat) (fs : List D)
def EV.isOwn : EV → Bool
  | .own _ => true | .new _ _ => true | _ => false
abbrev Env := List (Option EV)

/-- classes by number: where they stand, their fields in order -/
structure Tab where
  K : PySem.W.Frag
  clsA : Nat → Addr
  clsF : Nat → List Str
  excA : Nat → Addr
  excF : Nat → List Str

section
variable (T : Tab) (P : Hp)
mutual
def Rep : D → V → Prop
  | .non, x => x = .non
  | .bl b, x => x = .bl b
  | .int i, x => x = .int i
  | .str s, x => x = .str s
  | .tup ds, x => ∃ a vs, x = .ref a ∧ SqT T.K P a vs ∧ Reps ds vs
  | .lst ds, x => ∃ a vs, x = .ref a ∧ Rd P a (.lst vs) ∧ Reps ds vs
  | .scr ns, x => ∃ a, x = .ref a ∧ SqL T.K P a (ns.map V.int)
  | .obj c ds, x => ∃ a dx vs, x = .ref a ∧ P a = some (.ins (T.clsA c) dx ((T.clsF c).zip vs)) ∧ vs.length = (T.clsF c).length ∧ Reps ds vs
def Reps : List D → List V → Prop
  | [], vs => vs = []
  | d :: ds, vs => ∃ v r, vs = v :: r ∧ Rep d v ∧ Reps ds r
end
end

def PSub (P H : Hp) : Prop := ∀ b o, P b = some o → H b = some o
theorem PSub.refl (P : Hp) : PSub P P := fun _ _ h => h
theorem PSub.trans {P H J : Hp} (h : PSub P H) (k : PSub H J) : PSub P J := fun b o e => k b o (h b o e)

section
variable {T : Tab} {P P' H : Hp}
theorem Rd.sub {a : Addr} {u : HO} (s : PSub P P') (h : Rd P a u) : Rd P' a u := by
  rcases h with h | ⟨o, h⟩
  · exact .inl (s _ _ h)
  · exact .inr ⟨o, s _ _ h⟩
theorem sqL_sub {K : PySem.W.Frag} {a : Addr} {xs : List V} (s : PSub P P') (h : SqL K P a xs) : SqL K P' a xs := by
  rcases h with h | h
  · exact .inl (Rd.sub s h)
  · exact .inr h
theorem sqT_sub {K : PySem.W.Frag} {a : Addr} {xs : List V} (s : PSub P P') (h : SqT K P a xs) : SqT K P' a xs := by
  rcases h with h | h
  · exact .inl (Rd.sub s h)
  · exact .inr h
mutual
theorem Rep.sub (s : PSub P P') : ∀ (d : D) (v : V), Rep T P d v → Rep T P' d v
  | .non, _, h => h
  | .bl _, _, h => h
  | .int _, _, h => h
  | .str _, _, h => h
  | .tup ds, _, h => by
    rw [Rep] at h ⊢
    obtain ⟨a, vs, e, h1, h2⟩ := h
    exact ⟨a, vs, e, sqT_sub s h1, Reps.sub s ds vs h2⟩
  | .lst ds, _, h => by
    rw [Rep] at h ⊢
    obtain ⟨a, vs, e, h1, h2⟩ := h
    exact ⟨a, vs, e, Rd.sub s h1, Reps.sub s ds vs h2⟩
  | .scr ns, _, h => by
    rw [Rep] at h ⊢
    obtain ⟨a, e, h1⟩ := h
    exact ⟨a, e, sqL_sub s h1⟩
  | .obj c ds, _, h => by
    rw [Rep] at h ⊢
    obtain ⟨a, dx, vs, e, h1, hl, h2⟩ := h
    exact ⟨a, dx, vs, e, s _ _ h1, hl, Reps.sub s ds vs h2⟩
theorem Reps.sub (s : PSub P P') : ∀ (ds : List D) (vs : List V), Reps T P ds vs → Reps T P' ds vs
  | [], _, h => h
  | d :: ds, _, h => by
    rw [Reps] at h ⊢
    obtain ⟨v, r, e, h1, h2⟩ := h
    exact ⟨v, r, e, Rep.sub s d v h1, Reps.sub s ds r h2⟩
end
theorem Reps.nil : Reps T P [] [] := by rw [Reps]
theorem Reps.cons {d : D} {ds : List D} {v : V} {vs : List V} (h : Rep T P d v) (k : Reps T P ds vs) : Reps T P (d :: ds) (v :: vs) := by
  rw [Reps]; exact ⟨v, vs, rfl, h, k⟩
theorem Reps.length : ∀ {ds : List D} {vs : List V}, Reps T P ds vs → vs.length = ds.length
  | [], _, h => by rw [Reps] at h; subst h; rfl
  | _ :: _, _, h => by
    rw [Reps] at h
    obtain ⟨v, r, rfl, _, h2⟩ := h
    simp [Reps.length h2]
theorem Reps.get : ∀ {ds : List D} {vs : List V} {i : Nat} {d : D}, Reps T P ds vs → ds[i]? = some d → ∃ v, vs[i]? = some v ∧ Rep T P d v
  | [], _, _, _, _, e => by simp at e
  | _ :: _, _, 0, _, h, e => by
    rw [Reps] at h
    obtain ⟨v, r, rfl, h1, _⟩ := h
    simp at e; subst e
    exact ⟨v, rfl, h1⟩
  | _ :: _, _, i + 1, _, h, e => by
    rw [Reps] at h
    obtain ⟨v, r, rfl, _, h2⟩ := h
    have e' := e
    simp only [List.getElem?_cons_succ] at e' ⊢
    exact Reps.get h2 e'
theorem Reps.getV : ∀ {ds : List D} {vs : List V} {i : Nat} {v : V}, Reps T P ds vs → vs[i]? = some v → ∃ d, ds[i]? = some d ∧ Rep T P d v := by
  intro ds vs i v h e
  have hl := h.length
  have hi : i < ds.length := by
    have : i < vs.length := by
      rcases Nat.lt_or_ge i vs.length with h | h
      · exact h
      · rw [List.getElem?_eq_none h] at e; cases e
    omega
  obtain ⟨v', e', r⟩ := h.get (List.getElem?_eq_getElem hi)
  rw [e] at e'; cases e'
  exact ⟨_, List.getElem?_eq_getElem hi, r⟩
theorem Reps.append : ∀ {ds es : List D} {vs ws : List V}, Reps T P ds vs → Reps T P es ws → Reps T P (ds ++ es) (vs ++ ws)
  | [], _, _, _, h, k => by rw [Reps] at h; subst h; exact k
  | _ :: _, _, _, _, h, k => by
    rw [Reps] at h
    obtain ⟨v, r, rfl, h1, h2⟩ := h
    exact Reps.cons h1 (Reps.append h2 k)
theorem Reps.take : ∀ {ds : List D} {vs : List V} (n : Nat), Reps T P ds vs → Reps T P (ds.take n) (vs.take n)
  | _, _, 0, _ => by simp; exact Reps.nil
  | [], _, n + 1, h => by rw [Reps] at h; subst h; simp; exact Reps.nil
  | _ :: _, _, n + 1, h => by
    rw [Reps] at h
    obtain ⟨v, r, rfl, h1, h2⟩ := h
    exact Reps.cons h1 (Reps.take n h2)
theorem Reps.drop : ∀ {ds : List D} {vs : List V} (n : Nat), Reps T P ds vs → Reps T P (ds.drop n) (vs.drop n)
  | _, _, 0, h => by simpa using h
  | [], _, n + 1, h => by rw [Reps] at h; subst h; simp; exact Reps.nil
  | _ :: _, _, n + 1, h => by
    rw [Reps] at h
    obtain ⟨v, r, rfl, h1, h2⟩ := h
    exact Reps.drop n h2
theorem Reps.set : ∀ {ds : List D} {vs : List V} {d : D} {v : V} (i : Nat), Reps T P ds vs → Rep T P d v → Reps T P (ds.set i d) (vs.set i v)
  | [], _, _, _, i, h, _ => by rw [Reps] at h; subst h; simp; exact Reps.nil
  | _ :: _, _, _, _, 0, h, k => by
    rw [Reps] at h
    obtain ⟨v, r, rfl, h1, h2⟩ := h
    exact Reps.cons k h2
  | _ :: _, _, _, _, i + 1, h, k => by
    rw [Reps] at h
    obtain ⟨v, r, rfl, h1, h2⟩ := h
    exact Reps.cons h1 (Reps.set i h2 k)
theorem Reps.reverse : ∀ {ds : List D} {vs : List V}, Reps T P ds vs → Reps T P ds.reverse vs.reverse
  | [], _, h => by rw [Reps] at h; subst h; exact Reps.nil
  | _ :: _, _, h => by
    rw [Reps] at h
    obtain ⟨v, r, rfl, h1, h2⟩ := h
    rw [List.reverse_cons, List.reverse_cons]
    exact Reps.append (Reps.reverse h2) (Reps.cons h1 Reps.nil)
theorem Reps.ints : ∀ (ns : List Int) {vs : List V}, Reps T P (ns.map D.int) vs → vs = ns.map V.int
  | [], _, h => by rw [List.map_nil, Reps] at h; exact h
  | n :: ns, _, h => by
    rw [List.map_cons, Reps] at h
    obtain ⟨v, r, rfl, h1, h2⟩ := h
    rw [Rep] at h1
    rw [Reps.ints ns h2, h1, List.map_cons]
theorem Reps.ofInts : ∀ (ns : List Int), Reps T P (ns.map D.int) (ns.map V.int)
  | [] => Reps.nil
  | n :: ns => Reps.cons (by rw [Rep]) (Reps.ofInts ns)
theorem Reps.bls : ∀ (ns : List Bool) {vs : List V}, Reps T P (ns.map D.bl) vs → vs = ns.map V.bl
  | [], _, h => by rw [List.map_nil, Reps] at h; exact h
  | n :: ns, _, h => by
    rw [List.map_cons, Reps] at h
    obtain ⟨v, r, rfl, h1, h2⟩ := h
    rw [Rep] at h1
    rw [Reps.bls ns h2, h1, List.map_cons]
end

/-! ### the state behind a step -/
section
variable (T : Tab) (P H : Hp)
def EnvRep : EV → V → Prop
  | .v d, x => Rep T P d x
  | .own ds, x => ∃ a vs, x = .ref a ∧ H a = some (.lst vs) ∧ P a = none ∧ Reps T P ds vs
  | .new c fs, x => ∃ a dx vs, x = .ref a ∧ H a = some (.ins (T.clsA c) dx ((T.clsF c).zip vs)) ∧ P a = none ∧ vs.length ≤ (T.clsF c).length ∧ Reps T P fs vs
  | .ex _ _, _ => True
end
def Own (env : Env) (σ : St) (b : Addr) : Prop := ∃ (i : Nat) (e : EV), env[i]? = some (some e) ∧ EV.isOwn e = true ∧ σ[i]? = some (some (V.ref b))
structure Rel (T : Tab) (env : Env) (σ : St) (P H : Hp) : Prop where
  sub : PSub P H
  ent : ∀ (i : Nat) (e : EV), env[i]? = some (some e) → ∃ v, σ[i]? = some (some v) ∧ EnvRep T P H e v
  dis : ∀ (i j : Nat) (e f : EV) (a : Addr), i ≠ j → env[i]? = some (some e) → env[j]? = some (some f) → e.isOwn = true → f.isOwn = true → σ[i]? = some (some (V.ref a)) → σ[j]? = some (some (V.ref a)) → False
  len : env.length = σ.length
structure Fr (env : Env) (σ : St) (P H : Hp) (env' : Env) (σ' : St) (P' H' : Hp) : Prop where
  keep : ∀ b o, H b = some o → ¬ Own env σ b → H' b = some o
  own : ∀ b, H b ≠ none → ¬ Own env σ b → ¬ Own env' σ' b
  mono : PSub P P'
  new : ∀ b, P' b ≠ none → P b ≠ none ∨ H b = none ∨ Own env σ b
  there : ∀ b, H b ≠ none → H' b ≠ none
theorem Fr.refl (env : Env) (σ : St) (P H : Hp) : Fr env σ P H env σ P H :=
  ⟨fun _ _ h _ => h, fun _ _ h => h, PSub.refl _, fun _ h => .inl h, fun _ h => h⟩
theorem Fr.trans {env env' env'' : Env} {σ σ' σ'' : St} {P H P' H' P'' H'' : Hp} (f : Fr env σ P H env' σ' P' H') (g : Fr env' σ' P' H' env'' σ'' P'' H'') : Fr env σ P H env'' σ'' P'' H'' where
  keep := fun b o h n => g.keep b o (f.keep b o h n) (f.own b (by rw [h]; exact fun z => nomatch z) n)
  own := fun b h n => g.own b (f.there b h) (f.own b h n)
  mono := f.mono.trans g.mono
  new := fun b h => by
    rcases g.new b h with h1 | h1 | h1
    · exact f.new b h1
    · exact .inr (.inl (Classical.byContradiction fun z => f.there b z h1))
    · rcases Classical.em (Own env σ b) with o | o
      · exact .inr (.inr o)
      · exact .inr (.inl (Classical.byContradiction fun z => f.own b z o h1))
  there := fun b h => g.there b (f.there b h)

/-- how a step ends -/
inductive R (α : Type) where
  | ok (a : α) (e : Env) | exc (c : Nat) (fs : List D) (e : Env) | stk
def R.bind {α β : Type} (r : R α) (f : α → Env → R β) : R β :=
  match r with
  | .ok a e => f a e
  | .exc c fs e => .exc c fs e
  | .stk => .stk
abbrev M := Env → R D

/-- an error as it flies: its class, its own dict -/
def ExRep (T : Tab) (P H : Hp) (c : Nat) (fs : List D) (cls : Value) (dd : Option Addr) : Prop :=
  cls = .ref (T.excA c) ∧ (fs = [] ∨ ∃ dx xfs vs, dd = some dx ∧ H dx = some (.xd xfs) ∧ (∀ (j : Nat) (f : Str) (v : V), (T.excF c)[j]? = some f → vs[j]? = some v → xfs.lookup f = some v) ∧ Reps T P fs vs)

section
variable (T : Tab) (W : WX) (σ : St)
def After {α : Type} (env : Env) (P H : Hp) (r : R α) (Q : α → Env → Hp → Hp → Prop) : Prop :=
  match r with
  | .ok a env' => ∀ P' H', Rel T env' σ P' H' → Fr env σ P H env' σ P' H' → Q a env' P' H'
  | .exc c fs env' => ∀ P' H' cls dd, Rel T env' σ P' H' → Fr env σ P H env' σ P' H' → ExRep T P' H' c fs cls dd → W cls dd σ H'
  | .stk => False
end
section
variable {T : Tab} {W : WX} {σ : St} {α β : Type} {env : Env} {P H : Hp}
theorem After.bind {r : R α} {f : α → Env → R β} {Q : β → Env → Hp → Hp → Prop} (h : After T W σ env P H (r.bind f) Q) :
    After T W σ env P H r (fun a env1 P1 H1 => After T W σ env1 P1 H1 (f a env1) Q) := by
  cases r with
  | ok a env1 =>
    intro P1 H1 R1 F1
    have h' : After T W σ env P H (f a env1) Q := h
    show After T W σ env1 P1 H1 (f a env1) Q
    cases e : f a env1 with
    | ok b env2 => rw [e] at h'; intro P2 H2 R2 F2; exact h' P2 H2 R2 (F1.trans F2)
    | exc c fs env2 => rw [e] at h'; intro P2 H2 cls dd R2 F2 x; exact h' P2 H2 cls dd R2 (F1.trans F2) x
    | stk => rw [e] at h'; exact h'
  | exc c fs env1 => exact h
  | stk => exact h
theorem After.mono {r : R α} {Q Q' : α → Env → Hp → Hp → Prop} (h : After T W σ env P H r Q) (k : ∀ a env' P' H', Rel T env' σ P' H' → Fr env σ P H env' σ P' H' → Q a env' P' H' → Q' a env' P' H') : After T W σ env P H r Q' := by
  cases r with
  | ok a env1 => exact fun P1 H1 R1 F1 => k _ _ _ _ R1 F1 (h P1 H1 R1 F1)
  | exc c fs env1 => exact h
  | stk => exact h
theorem After.here {a : α} {env' : Env} {Q : α → Env → Hp → Hp → Prop} (h : After T W σ env P H (.ok a env') Q) {P' H' : Hp} (R1 : Rel T env' σ P' H') (F1 : Fr env σ P H env' σ P' H') : Q a env' P' H' := h P' H' R1 F1
end

/-- how a value is held: it stays; a new list that nobody else has; the own list of a slot -/
inductive Kd where
  | pure | fresh | own (i : Nat)
def KRep (T : Tab) (k : Kd) (env : Env) (σ : St) (P H : Hp) (d : D) (x : V) : Prop :=
  match k with
  | .pure => Rep T P d x
  | .fresh => ∃ a vs ds, x = .ref a ∧ H a = some (.lst vs) ∧ P a = none ∧ ¬ Own env σ a ∧ Reps T P ds vs ∧ d = .lst ds
  | .own i => ∃ ds, env[i]? = some (some (.own ds)) ∧ d = .lst ds ∧ σ[i]? = some (some x)
/-- a new list was not there ahead of the step -/
def NewV (k : Kd) (H : Hp) (x : V) : Prop :=
  match k with
  | .fresh => ∃ a, x = .ref a ∧ H a = none
  | _ => True
/-- an expression's reading -/
def rdE (T : Tab) (W : WX) (k : Kd) (m : M) : TE := fun σ H Q => ∃ env P, Rel T env σ P H ∧ After T W σ env P H (m env) (fun d env' P' H' => ∀ x, KRep T k env' σ P' H' d x → NewV k H x → Q x H')
def DE (T : Tab) (W : WX) (X : Cx) (e : Expr) (k : Kd) (m : M) : Prop := PE X e (rdE T W k m)
theorem pe_imp {X : Cx} {e : Expr} {t t' : TE} (h : PE X e t) (k : ∀ σ H Q, t' σ H Q → t σ H Q) : PE X e t' := ⟨fun pins s σ H Q I q => h.run pins s σ H Q I (k σ H Q q)⟩
theorem pt_imp {X : Cx} {e : Expr} {t t' : TT} (h : PT X e t) (k : ∀ σ H Q, t' σ H Q → t σ H Q) : PT X e t' := ⟨fun pins s σ H Q I q => h.run pins s σ H Q I (k σ H Q q)⟩
theorem pw_imp {X : Cx} {e : Expr} {t t' : TT} (h : PW X e t) (k : ∀ σ H Q, t' σ H Q → t σ H Q) : PW X e t' := ⟨fun whole pins s σ H Q I q => h.run whole pins s σ H Q I (k σ H Q q)⟩
theorem pa_imp {X : Cx} {e : List Expr} {t t' : TA} (h : PA X e t) (k : ∀ σ H Q, t' σ H Q → t σ H Q) : PA X e t' := ⟨fun pos pins s σ H Q I q => h.run pos pins s σ H Q I (k σ H Q q)⟩
theorem ps_imp {X : Cx} {e : Stmt} {t t' : TS} (h : PS X e t) (k : ∀ D σ H, t' D σ H → t D σ H) : PS X e t' := ⟨fun pins s σ H D I q => h.run pins s σ H D I (k D σ H q)⟩
theorem pss_imp {X : Cx} {e : List Stmt} {t t' : TS} (h : PSs X e t) (k : ∀ D σ H, t' D σ H → t D σ H) : PSs X e t' := ⟨fun pins s σ H D I q => h.run pins s σ H D I (k D σ H q)⟩
/-- a test's -/
abbrev MT := Env → R Bool
def rdT (T : Tab) (W : WX) (m : MT) : TT := fun σ H Q => ∃ env P, Rel T env σ P H ∧ After T W σ env P H (m env) (fun b _ _ H' => Q b H')
def DT (T : Tab) (W : WX) (X : Cx) (e : Expr) (m : MT) : Prop := PT X e (rdT T W m)
end Ue

set_option linter.all false
set_option Elab.async false
set_option maxRecDepth 100000
set_option maxHeartbeats 4000000
namespace Ue
open PySem L2

/-! ### new things -/
section
variable {T : Tab} {W : WX} {env env' : Env} {σ : St} {P H P' H' : Hp} {p : Addr} {o : HO}
theorem Rel.ownAt (R : Rel T env σ P H) {b : Addr} (h : Own env σ b) : ∃ o, H b = some o ∧ P b = none := by
  obtain ⟨i, e, h1, h2, h3⟩ := h
  obtain ⟨v, hv, r⟩ := R.ent i e h1
  rw [h3] at hv; cases hv
  cases e with
  | v d => cases h2
  | ex c fs => cases h2
  | own ds => obtain ⟨a, vs, q, q1, q2, _⟩ := r; cases q; exact ⟨_, q1, q2⟩
  | new c fs => obtain ⟨a, dx, vs, q, q1, q2, _⟩ := r; cases q; exact ⟨_, q1, q2⟩
theorem Rel.notOwn (R : Rel T env σ P H) {b : Addr} (h : H b = none) : ¬ Own env σ b := fun z => by
  obtain ⟨o, q, _⟩ := R.ownAt z
  rw [h] at q; cases q
theorem Rel.pNone (R : Rel T env σ P H) {b : Addr} (h : H b = none) : P b = none := by
  cases e : P b with
  | none => rfl
  | some o => have := R.sub b o e; rw [h] at this; cases this
theorem psub_upd {P : Hp} (h : P p = none) : PSub P (upd P p o) := fun b u e => by
  rw [upd_ne (ne_of_none e h)]; exact e
theorem EnvRep.grow {e : EV} {x : V} (h : EnvRep T P H e x) (hs : PSub P P') (hk : ∀ b o, H b = some o → P b = none → e.isOwn = true → x = .ref b → H' b = some o ∧ P' b = none) : EnvRep T P' H' e x := by
  cases e with
  | v d => exact Rep.sub hs d x h
  | ex c fs => exact h
  | own ds =>
    obtain ⟨a, vs, rfl, q1, q2, q3⟩ := h
    obtain ⟨k1, k2⟩ := hk a _ q1 q2 rfl rfl
    exact ⟨a, vs, rfl, k1, k2, Reps.sub hs _ _ q3⟩
  | new c fs =>
    obtain ⟨a, dx, vs, rfl, q1, q2, q4, q3⟩ := h
    obtain ⟨k1, k2⟩ := hk a _ q1 q2 rfl rfl
    exact ⟨a, dx, vs, rfl, k1, k2, q4, Reps.sub hs _ _ q3⟩
/-- a new thing that stays -/
theorem Rel.newP (R : Rel T env σ P H) (hp : H p = none) : Rel T env σ (upd P p o) (upd H p o) ∧ Fr env σ P H env σ (upd P p o) (upd H p o) := by
  have pp := R.pNone hp
  have no := R.notOwn hp
  refine ⟨⟨fun b u e => ?_, fun i e h => ?_, R.dis, R.len⟩, ⟨fun b u e _ => ?_, fun b _ n => n, psub_upd pp, fun b h => ?_, fun b h => ?_⟩⟩
  · by_cases hb : b = p
    · subst hb; rw [upd_same] at e ⊢; exact e
    · rw [upd_ne hb] at e ⊢; exact R.sub b u e
  · obtain ⟨v, hv, r⟩ := R.ent i e h
    refine ⟨v, hv, r.grow (psub_upd pp) fun b u h1 h2 _ _ => ?_⟩
    have hb : b ≠ p := ne_of_none h1 hp
    rw [upd_ne hb, upd_ne hb]; exact ⟨h1, h2⟩
  · rw [upd_ne (ne_of_none e hp)]; exact e
  · by_cases hb : b = p
    · subst hb; exact .inr (.inl hp)
    · rw [upd_ne hb] at h; exact .inl h
  · by_cases hb : b = p
    · subst hb; rw [upd_same]; exact fun z => nomatch z
    · rw [upd_ne hb]; exact h
/-- a new thing that may still change -/
theorem Rel.newF (R : Rel T env σ P H) (hp : H p = none) : Rel T env σ P (upd H p o) ∧ Fr env σ P H env σ P (upd H p o) ∧ ¬ Own env σ p ∧ P p = none := by
  have pp := R.pNone hp
  have no := R.notOwn hp
  refine ⟨⟨fun b u e => ?_, fun i e h => ?_, R.dis, R.len⟩, ⟨fun b u e _ => ?_, fun b _ n => n, PSub.refl _, fun b h => .inl h, fun b h => ?_⟩, no, pp⟩
  · rw [upd_ne (ne_of_none e pp)]; exact R.sub b u e
  · obtain ⟨v, hv, r⟩ := R.ent i e h
    refine ⟨v, hv, r.grow (PSub.refl _) fun b u h1 h2 _ _ => ?_⟩
    have hb : b ≠ p := ne_of_none h1 hp
    rw [upd_ne hb]; exact ⟨h1, h2⟩
  · rw [upd_ne (ne_of_none e hp)]; exact e
  · by_cases hb : b = p
    · subst hb; rw [upd_same]; exact fun z => nomatch z
    · rw [upd_ne hb]; exact h
/-- a new list of nobody's comes to stay -/
theorem Rel.freeze {a : Addr} {vs : List V} (R : Rel T env σ P H) (ha : H a = some (.lst vs)) (hp : P a = none) (no : ¬ Own env σ a) : Rel T env σ (upd P a (.lst vs)) H := by
  refine ⟨fun b u e => ?_, fun i e h => ?_, R.dis, R.len⟩
  · by_cases hb : b = a
    · subst hb; rw [upd_same] at e; cases e; exact ha
    · rw [upd_ne hb] at e; exact R.sub b u e
  · obtain ⟨v, hv, r⟩ := R.ent i e h
    refine ⟨v, hv, r.grow (psub_upd hp) fun b u h1 h2 h3 h4 => ⟨h1, ?_⟩⟩
    have hb : b ≠ a := by rintro rfl; exact no ⟨i, e, h, h3, by rw [hv, h4]⟩
    rw [upd_ne hb]; exact h2
end

/-! ### what may be read -/
def Rdb (T : Tab) (P H : Hp) (d : D) (x : V) : Prop := Rep T P d x ∨ ∃ a vs ds, x = .ref a ∧ H a = some (.lst vs) ∧ Reps T P ds vs ∧ d = .lst ds
def Rdbs (T : Tab) (P H : Hp) : List D → List V → Prop := Paired (Rdb T P H)
section
variable {T : Tab} {W : WX} {env env' : Env} {σ : St} {P H P' H' : Hp} {x : V}
theorem KRep.rdb {k : Kd} {d : D} (R : Rel T env σ P H) (h : KRep T k env σ P H d x) : Rdb T P H d x := by
  cases k with
  | pure => exact .inl h
  | fresh => obtain ⟨a, vs, ds, e, h1, _, _, h2, h3⟩ := h; exact .inr ⟨a, vs, ds, e, h1, h2, h3⟩
  | own i =>
    obtain ⟨ds, e, h3, hx⟩ := h
    obtain ⟨v, hv, r⟩ := R.ent i _ e
    rw [hx] at hv; cases hv
    obtain ⟨a, vs, q, q1, q2, q3⟩ := r
    exact .inr ⟨a, vs, ds, q, q1, q3, h3⟩
theorem Rdb.nonE (h : Rdb T P H .non x) : x = .non := by
  rcases h with h | ⟨_, _, _, _, _, _, h⟩
  · rwa [Rep] at h
  · cases h
theorem Rdb.blE {b : Bool} (h : Rdb T P H (.bl b) x) : x = .bl b := by
  rcases h with h | ⟨_, _, _, _, _, _, h⟩
  · rwa [Rep] at h
  · cases h
theorem Rdb.intE {i : Int} (h : Rdb T P H (.int i) x) : x = .int i := by
  rcases h with h | ⟨_, _, _, _, _, _, h⟩
  · rwa [Rep] at h
  · cases h
theorem Rdb.strE {s : Str} (h : Rdb T P H (.str s) x) : x = .str s := by
  rcases h with h | ⟨_, _, _, _, _, _, h⟩
  · rwa [Rep] at h
  · cases h
theorem Rdb.tupE {ds : List D} (R : PSub P H) (h : Rdb T P H (.tup ds) x) : ∃ a vs, x = .ref a ∧ SqT T.K H a vs ∧ Reps T P ds vs := by
  rcases h with h | ⟨_, _, _, _, _, _, h⟩
  · rw [Rep] at h
    obtain ⟨a, vs, e, h1, h2⟩ := h
    exact ⟨a, vs, e, sqT_sub R h1, h2⟩
  · cases h
theorem Rdb.lstE {ds : List D} (R : PSub P H) (h : Rdb T P H (.lst ds) x) : ∃ a vs, x = .ref a ∧ Rd H a (.lst vs) ∧ Reps T P ds vs := by
  rcases h with h | ⟨a, vs, es, e, h1, h2, h3⟩
  · rw [Rep] at h
    obtain ⟨a, vs, e, h1, h2⟩ := h
    exact ⟨a, vs, e, Rd.sub R h1, h2⟩
  · cases h3; exact ⟨a, vs, e, .inl h1, h2⟩
theorem Rdb.scrE {ns : List Int} (R : PSub P H) (h : Rdb T P H (.scr ns) x) : ∃ a, x = .ref a ∧ SqL T.K H a (ns.map V.int) := by
  rcases h with h | ⟨_, _, _, _, _, _, h⟩
  · rw [Rep] at h
    obtain ⟨a, e, h1⟩ := h
    exact ⟨a, e, sqL_sub R h1⟩
  · cases h
theorem Rdb.objE {c : Nat} {ds : List D} (R : PSub P H) (h : Rdb T P H (.obj c ds) x) : ∃ a dx vs, x = .ref a ∧ H a = some (.ins (T.clsA c) dx ((T.clsF c).zip vs)) ∧ vs.length = (T.clsF c).length ∧ Reps T P ds vs := by
  rcases h with h | ⟨_, _, _, _, _, _, h⟩
  · rw [Rep] at h
    obtain ⟨a, dx, vs, e, h1, hl, h2⟩ := h
    exact ⟨a, dx, vs, e, R _ _ h1, hl, h2⟩
  · cases h
theorem Rdb.seqE {ds : List D} {d : D} (R : PSub P H) (hd : d = .lst ds ∨ d = .tup ds) (h : Rdb T P H d x) : ∃ a vs, x = .ref a ∧ (SqL T.K H a vs ∨ SqT T.K H a vs) ∧ Reps T P ds vs := by
  rcases hd with rfl | rfl
  · obtain ⟨a, vs, e, h1, h2⟩ := h.lstE R; exact ⟨a, vs, e, .inl (.inl h1), h2⟩
  · obtain ⟨a, vs, e, h1, h2⟩ := h.tupE R; exact ⟨a, vs, e, .inr h1, h2⟩
theorem rep_int {i : Int} : Rep T P (.int i) (.int i) := by rw [Rep]
theorem rep_bl {i : Bool} : Rep T P (.bl i) (.bl i) := by rw [Rep]
theorem rep_non : Rep T P .non .non := by rw [Rep]
theorem rep_str {i : Str} : Rep T P (.str i) (.str i) := by rw [Rep]
theorem rep_tup {a : Addr} {vs : List V} {ds : List D} (h : P a = some (.tup vs)) (k : Reps T P ds vs) : Rep T P (.tup ds) (.ref a) := by rw [Rep]; exact ⟨a, vs, rfl, .of h, k⟩
theorem rep_lst {a : Addr} {vs : List V} {ds : List D} (h : P a = some (.lst vs)) (k : Reps T P ds vs) : Rep T P (.lst ds) (.ref a) := by rw [Rep]; exact ⟨a, vs, rfl, .inl h, k⟩
/-- a value made ahead still holds behind a step -/
def Steady (k : Kd) {α : Type} (m : Env → R α) : Prop :=
  match k with
  | .own i => ∀ env d env', m env = .ok d env' → env'[i]? = env[i]?
  | _ => True
theorem KRep.carry {k : Kd} {d : D} (h : KRep T k env σ P H d x) (f : Fr env σ P H env' σ P' H') (hs : ∀ i, k = .own i → env'[i]? = env[i]?) : KRep T k env' σ P' H' d x := by
  cases k with
  | pure => exact Rep.sub f.mono d x h
  | fresh =>
    obtain ⟨a, vs, ds, e, h1, h2, h3, h4, h5⟩ := h
    have ha : H a ≠ none := by rw [h1]; exact fun z => nomatch z
    refine ⟨a, vs, ds, e, f.keep a _ h1 h3, ?_, f.own a ha h3, Reps.sub f.mono _ _ h4, h5⟩
    refine Classical.byContradiction fun z => ?_
    rcases f.new a z with q | q | q
    · exact q h2
    · exact ha q
    · exact h3 q
  | own i =>
    obtain ⟨ds, e, h3, hx⟩ := h
    exact ⟨ds, by rw [hs i rfl]; exact e, h3, hx⟩
theorem Steady.use {k : Kd} {α : Type} {m : Env → R α} (h : Steady k m) {e e' : Env} {d : α} (hm : m e = .ok d e') : ∀ i, k = .own i → e'[i]? = e[i]? := fun i hk => by
  subst hk; exact h e d e' hm
end

theorem NewV.back {k : Kd} {env env' : Env} {σ σ' : St} {P P' H H' : Hp} {x : V} (f : Fr env σ P H env' σ' P' H') (h : NewV k H' x) : NewV k H x := by
  cases k with
  | fresh => obtain ⟨a, e, h⟩ := h; exact ⟨a, e, Classical.byContradiction fun z => f.there a z h⟩
  | _ => trivial
/-- behind a step whose end is known -/
theorem After.at {T : Tab} {W : WX} {σ : St} {α : Type} {env : Env} {P H : Hp} {r : R α} {Q Q' : α → Env → Hp → Hp → Prop} (h : After T W σ env P H r Q)
    (k : ∀ a env' P' H', r = .ok a env' → Rel T env' σ P' H' → Fr env σ P H env' σ P' H' → Q a env' P' H' → Q' a env' P' H') : After T W σ env P H r Q' := by
  cases r with
  | ok a env1 => exact fun P1 H1 R1 F1 => k _ _ _ _ rfl R1 F1 (h P1 H1 R1 F1)
  | exc c fs env1 => exact h
  | stk => exact h

def liftO (o : Option D) (e : Env) : R D := match o with | some d => .ok d e | none => .stk
def op2M (g : D → D → Option D) (ma mb : M) : M := fun env => (ma env).bind fun x e1 => (mb e1).bind fun y e2 => liftO (g x y) e2
def op1M (g : D → Option D) (ma : M) : M := fun env => (ma env).bind fun x e1 => liftO (g x) e1
def liftB (o : Option Bool) (e : Env) : R Bool := match o with | some d => .ok d e | none => .stk
def cmpM (g : D → D → Option Bool) (ma mb : M) : MT := fun env => (ma env).bind fun x e1 => (mb e1).bind fun y e2 => liftB (g x y) e2
def bV (m : MT) : M := fun env => (m env).bind fun b e => .ok (.bl b) e

theorem bV_cmp (g : D → D → Option Bool) (ma mb : M) (env : Env) : bV (cmpM g ma mb) env = (ma env).bind fun x e1 => (mb e1).bind fun y e2 => (liftB (g x y) e2).bind fun b e => .ok (.bl b) e := by
  unfold bV cmpM
  cases ma env with
  | ok d e1 =>
    show ((mb e1).bind fun y e2 => liftB (g d y) e2).bind _ = (mb e1).bind _
    cases mb e1 <;> rfl
  | _ => rfl
/-- what an operator gives -/
def OpD (T : Tab) (r : R2) (k : Kd) (g : D → D → Option D) : Prop :=
  ∀ (env : Env) (σ : St) (P H : Hp) (dx dy : D) (x y : V) (d : D) (Q : VK), Rel T env σ P H → Rdb T P H dx x → Rdb T P H dy y → g dx dy = some d →
    (∀ v P' H', Rel T env σ P' H' → Fr env σ P H env σ P' H' → KRep T k env σ P' H' d v → NewV k H v → Q v H') → r x y H Q
def UnD (T : Tab) (r : V → Hp → VK → Prop) (k : Kd) (g : D → Option D) : Prop :=
  ∀ (env : Env) (σ : St) (P H : Hp) (dx : D) (x : V) (d : D) (Q : VK), Rel T env σ P H → Rdb T P H dx x → g dx = some d →
    (∀ v P' H', Rel T env σ P' H' → Fr env σ P H env σ P' H' → KRep T k env σ P' H' d v → NewV k H v → Q v H') → r x H Q
def CmpD (T : Tab) (r : R2) (g : D → D → Option Bool) : Prop :=
  ∀ (P H : Hp) (dx dy : D) (x y : V) (b : Bool) (Q : VK), PSub P H → Rdb T P H dx x → Rdb T P H dy y → g dx dy = some b → Q (.bl b) H → r x y H Q
section
variable {T : Tab} {W : WX} {X : Cx} {a b : Expr} {ka kb k : Kd} {ma mb : M} {pos : Pos}
theorem rd_op2 {r : R2} {g : D → D → Option D} (hD : OpD T r k g) (hs : Steady ka mb) {σ : St} {H : Hp} {Q : VK} (h : rdE T W k (op2M g ma mb) σ H Q) : tOp r (rdE T W ka ma) (rdE T W kb mb) σ H Q := by
  obtain ⟨env, P, R, h⟩ := h
  refine ⟨env, P, R, After.at h.bind fun d1 env1 P1 H1 _ R1 F1 h1 x kx nx => ?_⟩
  refine ⟨env1, P1, R1, After.at h1.bind fun d2 env2 P2 H2 e2 R2 F2 h2 y ky ny => ?_⟩
  have kx' := kx.carry F2 (hs.use e2)
  cases e : g d1 d2 with
  | none => rw [e] at h2; exact False.elim h2
  | some d =>
    rw [e] at h2
    exact hD env2 σ P2 H2 d1 d2 x y d Q R2 (kx'.rdb R2) (ky.rdb R2) e fun v P' H' R' F' kv nv => h2 P' H' R' F' v kv (nv.back (F1.trans F2))
theorem de_op2 {op : Operator} {r : R2} {g : D → D → Option D} (ho : OpR X (binaryOp op) r) (hD : OpD T r k g) (ha : DE T W X a ka ma) (hb : DE T W X b kb mb) (hs : Steady ka mb := by trivial) :
    DE T W X (.BinOp a op b pos) k (op2M g ma mb) := pe_imp (pe_op ho ha hb) fun _ _ _ h => rd_op2 hD hs h
theorem rd_cmp {r : R2} {g : D → D → Option Bool} (hD : CmpD T r g) (hs : Steady ka mb) {σ : St} {H : Hp} {Q : Bool → Hp → Prop} (h : rdT T W (cmpM g ma mb) σ H Q) : tOp r (rdE T W ka ma) (rdE T W kb mb) σ H (fun x H' => ∃ k, x = .bl k ∧ Q k H') := by
  obtain ⟨env, P, R, h⟩ := h
  refine ⟨env, P, R, After.at h.bind fun d1 env1 P1 H1 _ R1 F1 h1 x kx nx => ?_⟩
  refine ⟨env1, P1, R1, After.at h1.bind fun d2 env2 P2 H2 e2 R2 F2 h2 y ky ny => ?_⟩
  have kx' := kx.carry F2 (hs.use e2)
  cases e : g d1 d2 with
  | none => rw [e] at h2; exact False.elim h2
  | some d =>
    rw [e] at h2
    exact hD P2 H2 d1 d2 x y d _ R2.sub (kx'.rdb R2) (ky.rdb R2) e ⟨d, rfl, h2.here R2 (Fr.refl _ _ _ _)⟩
theorem dt_cmp {op : CmpOp} {r : R2} {g : D → D → Option Bool} (ho : OpR X (compareOp op) r) (hD : CmpD T r g) (ha : DE T W X a ka ma) (hb : DE T W X b kb mb) (hm : behindInMarks op b = false := by rfl) (hs : Steady ka mb := by trivial) :
    DT T W X (.Compare a [op] [b] pos) (cmpM g ma mb) := pt_imp (pt_cmpR ho ha hb hm) fun _ _ _ h => rd_cmp hD hs h
/-- a test as a value: from the reading of the test -/
theorem rd_bV {m : MT} {t : TE} {σ : St} {H : Hp} {Q : VK} (h : rdE T W .pure (bV m) σ H Q) (k : ∀ Q' : Bool → Hp → Prop, rdT T W m σ H Q' → t σ H (fun x H' => ∃ k, x = .bl k ∧ Q' k H')) (mono : ∀ Q Q' : VK, (∀ x H, Q x H → Q' x H) → t σ H Q → t σ H Q') : t σ H Q := by
  obtain ⟨env, P, R, h⟩ := h
  refine mono _ _ ?_ (k (fun b H' => Q (.bl b) H') ⟨env, P, R, After.mono h.bind fun b env1 P1 H1 R1 F1 h1 => h1.here R1 (Fr.refl _ _ _ _) _ (show Rep T P1 (.bl b) (.bl b) from rep_bl) trivial⟩)
  rintro x H' ⟨c, rfl, q⟩
  exact q
theorem de_cmp {op : CmpOp} {r : R2} {g : D → D → Option Bool} (ho : OpR X (compareOp op) r) (hD : CmpD T r g) (ha : DE T W X a ka ma) (hb : DE T W X b kb mb) (hm : behindInMarks op b = false := by rfl) (hs : Steady ka mb := by trivial) :
    DE T W X (.Compare a [op] [b] pos) .pure (bV (cmpM g ma mb)) := by
  refine pe_imp (pe_cmpR ho ha hb hm) fun σ H Q h => ?_
  obtain ⟨env, P, RR, h⟩ := h
  rw [bV_cmp] at h
  refine ⟨env, P, RR, After.at h.bind fun d1 env1 P1 H1 _ R1 F1 h1 x kx nx => ?_⟩
  refine ⟨env1, P1, R1, After.at h1.bind fun d2 env2 P2 H2 e2 R2 F2 h2 y ky ny => ?_⟩
  have kx' := kx.carry F2 (hs.use e2)
  cases e : g d1 d2 with
  | none => rw [e] at h2; exact False.elim h2
  | some d =>
    rw [e] at h2
    exact hD P2 H2 d1 d2 x y d _ R2.sub (kx'.rdb R2) (ky.rdb R2) e (h2 P2 H2 R2 (Fr.refl _ _ _ _) _ (show Rep T P2 (.bl d) (.bl d) from rep_bl) trivial)
theorem de_un {op : UnaryOp} {r : V → Hp → VK → Prop} {g : D → Option D} (ho : UnR X (unaryOp op) r) (hD : UnD T r k g) (ha : DE T W X a ka ma) : DE T W X (.UnaryOp op a pos) k (op1M g ma) := by
  refine pe_imp (pe_un ho ha) fun σ H Q h => ?_
  obtain ⟨env, P, R, h⟩ := h
  refine ⟨env, P, R, After.at h.bind fun d1 env1 P1 H1 _ R1 F1 h1 x kx nx => ?_⟩
  cases e : g d1 with
  | none => rw [e] at h1; exact False.elim h1
  | some d =>
    rw [e] at h1
    exact hD env1 σ P1 H1 d1 x d Q R1 (kx.rdb R1) e fun v P' H' R' F' kv nv => h1 P' H' R' F' v kv (nv.back F1)
end

/-! ### names, constants -/
def varM (i : Nat) : M := fun env => match env[i]? with | some (some (.v d)) => .ok d env | _ => .stk
def ovarM (i : Nat) : M := fun env => match env[i]? with | some (some (.own ds)) => .ok (.lst ds) env | _ => .stk
def cM (d : D) : M := fun env => .ok d env
section
variable {T : Tab} {W : WX} {X : Cx} {pos : Pos}
theorem de_var {i : Nat} {x : Str} (h : PE X (.Name x pos) (tVar i)) : DE T W X (.Name x pos) .pure (varM i) := by
  refine pe_imp h fun σ H Q h => ?_
  obtain ⟨env, P, R, h⟩ := h
  unfold varM at h
  cases e : env[i]? with
  | none => rw [e] at h; exact False.elim h
  | some o =>
    cases o with
    | none => rw [e] at h; exact False.elim h
    | some v =>
      cases v with
      | v d =>
        rw [e] at h
        obtain ⟨u, hu, r⟩ := R.ent i _ e
        exact ⟨u, hu, h.here R (Fr.refl _ _ _ _) u r trivial⟩
      | own ds => rw [e] at h; exact False.elim h
      | new c fs => rw [e] at h; exact False.elim h
      | ex c fs => rw [e] at h; exact False.elim h
theorem de_ovar {i : Nat} {x : Str} (h : PE X (.Name x pos) (tVar i)) : DE T W X (.Name x pos) (.own i) (ovarM i) := by
  refine pe_imp h fun σ H Q h => ?_
  obtain ⟨env, P, R, h⟩ := h
  unfold ovarM at h
  cases e : env[i]? with
  | none => rw [e] at h; exact False.elim h
  | some o =>
    cases o with
    | none => rw [e] at h; exact False.elim h
    | some v =>
      cases v with
      | own ds =>
        rw [e] at h
        obtain ⟨u, hu, r⟩ := R.ent i _ e
        exact ⟨u, hu, h.here R (Fr.refl _ _ _ _) u ⟨ds, e, rfl, hu⟩ trivial⟩
      | v d => rw [e] at h; exact False.elim h
      | new c fs => rw [e] at h; exact False.elim h
      | ex c fs => rw [e] at h; exact False.elim h
theorem de_c {e : Expr} {v : V} {d : D} (h : PE X e (tC v)) (hd : ∀ P, Rep T P d v) : DE T W X e .pure (cM d) := by
  refine pe_imp h fun σ H Q h => ?_
  obtain ⟨env, P, R, h⟩ := h
  exact h.here R (Fr.refl _ _ _ _) v (hd P) trivial
theorem de_int {i : Int} {j : Nat} : DE T W X (.Constant (.int i) j pos) .pure (cM (.int i)) := de_c pe_int fun _ => rep_int
theorem de_bl {i : Bool} {j : Nat} : DE T W X (.Constant (.bool i) j pos) .pure (cM (.bl i)) := de_c pe_bl fun _ => rep_bl
theorem de_non {j : Nat} : DE T W X (.Constant .none j pos) .pure (cM .non) := de_c pe_non fun _ => rep_non
theorem de_str {i : Str} {j : Nat} : DE T W X (.Constant (.str i) j pos) .pure (cM (.str i)) := de_c pe_str fun _ => rep_str
/-- a new list comes to stay -/
theorem rd_frz {m : M} {σ : St} {H : Hp} {Q : VK} (h : rdE T W .pure m σ H Q) : rdE T W .fresh m σ H Q := by
  obtain ⟨env, P, R, h⟩ := h
  refine ⟨env, P, R, ?_⟩
  cases e : m env with
  | ok d env1 =>
    rw [e] at h
    intro P1 H1 R1 F1 x kx nx
    obtain ⟨a, vs, ds, rfl, h1, h2, h3, h4, rfl⟩ := kx
    obtain ⟨a', e', ha⟩ := nx
    cases e'
    refine h (upd P1 a (.lst vs)) H1 (R1.freeze h1 h2 h3) ?_ _ (rep_lst upd_same (Reps.sub (psub_upd h2) _ _ h4)) trivial
    refine ⟨F1.keep, F1.own, F1.mono.trans (psub_upd h2), fun b hb => ?_, F1.there⟩
    by_cases q : b = a
    · subst q; exact .inr (.inl ha)
    · rw [upd_ne q] at hb; exact F1.new b hb
  | exc c fs env1 => rw [e] at h; exact h
  | stk => rw [e] at h; exact h
theorem de_frz {e : Expr} {m : M} (h : DE T W X e .fresh m) : DE T W X e .pure m := pe_imp h fun _ _ _ h => rd_frz h
/-- the own list of a slot comes to stay -/
def frzM (i : Nat) : M := fun env => match env[i]? with | some (some (.own ds)) => .ok (.lst ds) (env.set i (some (.v (.lst ds)))) | _ => .stk
theorem set_get {α : Type} {l : List α} {i : Nat} {a b : α} (h : l[i]? = some b) : (l.set i a)[i]? = some a := by
  have hi : i < l.length := by
    rcases Nat.lt_or_ge i l.length with q | q
    · exact q
    · rw [List.getElem?_eq_none q] at h; cases h
  simp [hi]
theorem Own.of_set {env : Env} {σ : St} {i : Nat} {d : D} {b : Addr} (h : Own (env.set i (some (.v d))) σ b) : Own env σ b ∧ ∃ j e, j ≠ i ∧ env[j]? = some (some e) ∧ EV.isOwn e = true ∧ σ[j]? = some (some (V.ref b)) := by
  obtain ⟨j, e, h1, h2, h3⟩ := h
  by_cases q : j = i
  · subst q
    by_cases hi : j < env.length
    · rw [List.getElem?_set_self hi] at h1; cases h1; cases h2
    · rw [List.getElem?_eq_none (by simpa using hi)] at h1; cases h1
  · rw [List.getElem?_set_ne (fun z => q z.symm)] at h1
    exact ⟨⟨j, e, h1, h2, h3⟩, j, e, q, h1, h2, h3⟩
theorem Rel.freezeO {env : Env} {σ : St} {P H : Hp} {i : Nat} {ds : List D} (R : Rel T env σ P H) (e : env[i]? = some (some (.own ds))) :
    ∃ a vs P', σ[i]? = some (some (V.ref a)) ∧ P' a = some (.lst vs) ∧ Reps T P' ds vs ∧ Rel T (env.set i (some (.v (.lst ds)))) σ P' H ∧ Fr env σ P H (env.set i (some (.v (.lst ds)))) σ P' H := by
  obtain ⟨u, hu, r⟩ := R.ent i _ e
  obtain ⟨a, vs, rfl, h1, h2, h3⟩ := r
  have own_a : Own env σ a := ⟨i, _, e, rfl, hu⟩
  have h3' := Reps.sub (psub_upd (o := .lst vs) h2) _ _ h3
  refine ⟨a, vs, upd P a (.lst vs), hu, upd_same, h3', ⟨fun b o q => ?_, fun j f q => ?_, fun j l f g c n q1 q2 o1 o2 s1 s2 => ?_, by rw [List.length_set]; exact R.len⟩, fun b o q _ => q, fun b _ n z => n z.of_set.1, psub_upd h2, fun b hb => ?_, fun b h => h⟩
  · by_cases hb : b = a
    · subst hb; rw [upd_same] at q; cases q; exact h1
    · rw [upd_ne hb] at q; exact R.sub b o q
  · by_cases hj : j = i
    · subst hj
      rw [set_get e] at q; cases q
      exact ⟨_, hu, rep_lst upd_same h3'⟩
    · rw [List.getElem?_set_ne (fun z => hj z.symm)] at q
      obtain ⟨v, hv, r⟩ := R.ent j f q
      refine ⟨v, hv, r.grow (psub_upd h2) fun b o k1 k2 k3 k4 => ⟨k1, ?_⟩⟩
      have hb : b ≠ a := by
        rintro rfl
        subst k4
        exact R.dis j i f _ b hj q e k3 rfl hv hu
      rw [upd_ne hb]; exact k2
  · have w : ∀ l (f : EV), (env.set i (some (.v (.lst ds))))[l]? = some (some f) → f.isOwn = true → env[l]? = some (some f) := fun l f q o => by
      by_cases hl : l = i
      · subst hl; rw [set_get e] at q; cases q; cases o
      · rwa [List.getElem?_set_ne (fun z => hl z.symm)] at q
    exact R.dis j l f g c n (w j f q1 o1) (w l g q2 o2) o1 o2 s1 s2
  · by_cases q : b = a
    · subst q; exact .inr (.inr own_a)
    · rw [upd_ne q] at hb; exact .inl hb
theorem de_ofrz {i : Nat} {x : Str} (h : PE X (.Name x pos) (tVar i)) : DE T W X (.Name x pos) .pure (frzM i) := by
  refine pe_imp h fun σ H Q h => ?_
  obtain ⟨env, P, R, h⟩ := h
  unfold frzM at h
  cases e : env[i]? with
  | none => rw [e] at h; exact False.elim h
  | some o =>
    cases o with
    | none => rw [e] at h; exact False.elim h
    | some v =>
      cases v with
      | own ds =>
        rw [e] at h
        obtain ⟨a, vs, P', hu, hp, hr, R', F'⟩ := R.freezeO e
        exact ⟨_, hu, h.here R' F' _ (rep_lst hp hr) trivial⟩
      | v d => rw [e] at h; exact False.elim h
      | new c fs => rw [e] at h; exact False.elim h
      | ex c fs => rw [e] at h; exact False.elim h
end
end Ue

set_option linter.all false
set_option Elab.async false
set_option maxRecDepth 100000
set_option maxHeartbeats 4000000
namespace Ue
open PySem L2

/-! ### tests -/
def truth : D → Option Bool
  | .non => some false
  | .bl b => some b
  | .int i => some (i != 0)
  | .str s => if s.length ≤ sizeLine then some ((s.length : Int) != 0) else none
  | .lst ds => some (!ds.isEmpty)
  | .tup ds => some (!ds.isEmpty)
  | .obj _ _ => none
  | .scr ns => some (!ns.isEmpty)
def trM (m : M) : MT := fun env => (m env).bind fun d e => liftB (truth d) e
def andT (a b : MT) : MT := fun env => (a env).bind fun x e => if x then b e else .ok false e
def orT (a b : MT) : MT := fun env => (a env).bind fun x e => if x then .ok true e else b e
def notT (a : MT) : MT := fun env => (a env).bind fun x e => .ok (!x) e
def ifM {α : Type} (t : MT) (a b : Env → R α) : Env → R α := fun env => (t env).bind fun x e => if x then a e else b e
/-- a value that must be a truth value -/
def asB (m : M) : MT := fun env => (m env).bind fun d e => match d with | .bl b => .ok b e | _ => .stk
section
variable {T : Tab} {W : WX} {X : Cx} {a b c e : Expr} {rest : List Expr} {ka kb k : Kd} {m ma mb : M} {ta tb tc : MT} {pos : Pos} {env env' : Env} {σ : St} {P H P' H' : Hp} {x : V}
theorem truV {d : D} {t : Bool} (hK : X.K = T.K) (R1 : PSub P H) (h : Rdb T P H d x) (ht : truth d = some t) : TruV X.K x H t := by
  rw [hK]
  cases d with
  | non => rw [h.nonE]; cases ht; rfl
  | bl b => rw [h.blE]; cases ht; rfl
  | int i => rw [h.intE]; cases ht; rfl
  | str s =>
    rw [h.strE]
    have ht : (if s.length ≤ sizeLine then some ((s.length : Int) != 0) else none) = some t := ht
    by_cases hl : s.length ≤ sizeLine
    · rw [if_pos hl] at ht; cases ht; exact ⟨hl, rfl⟩
    · rw [if_neg hl] at ht; cases ht
  | lst ds =>
    obtain ⟨a, vs, rfl, h1, h2⟩ := h.lstE R1
    cases ht
    refine .inl ⟨vs, .inl h1, ?_⟩
    have := h2.length
    cases ds <;> cases vs <;> simp at this ⊢
  | tup ds =>
    obtain ⟨a, vs, rfl, h1, h2⟩ := h.tupE R1
    cases ht
    refine .inr (.inl ⟨vs, h1, ?_⟩)
    have := h2.length
    cases ds <;> cases vs <;> simp at this ⊢
  | obj _ _ => cases ht
  | scr ns =>
    obtain ⟨a, rfl, h1⟩ := h.scrE R1
    cases ht
    exact .inl ⟨_, h1, by cases ns <;> rfl⟩
theorem dt_tr (hK : X.K = T.K) (ha : DE T W X a k m) (he : ∀ whole, isTrue a X.env whole = (do let v ← whole; standAt a.pos; holding [v] (truthy v))) : DT T W X a (trM m) := by
  refine pt_imp (pt_truth ha he) fun σ H Q h => ?_
  obtain ⟨env, P, RR, h⟩ := h
  refine ⟨env, P, RR, After.mono h.bind fun d env1 P1 H1 R1 F1 h1 x kx nx => ?_⟩
  cases e : truth d with
  | none => rw [e] at h1; exact False.elim h1
  | some t =>
    rw [e] at h1
    exact ⟨t, truV hK R1.sub (kx.rdb R1) e, h1.here R1 (Fr.refl _ _ _ _)⟩
def DW (T : Tab) (W : WX) (X : Cx) (e : Expr) (m : MT) : Prop := PW X e (rdT T W m)
theorem dw_and1 (h : DT T W X a ta) : DW T W X (.BoolOp .And [a] pos) ta := pw_and1 h
theorem dw_or1 (h : DT T W X a ta) : DW T W X (.BoolOp .Or [a] pos) ta := pw_or1 h
theorem dw_and (h : DT T W X a ta) (h' : DW T W X (.BoolOp .And (b :: rest) pos) tb) : DW T W X (.BoolOp .And (a :: b :: rest) pos) (andT ta tb) := by
  refine pw_imp (pw_and h h') fun σ H Q h => ?_
  obtain ⟨env, P, RR, h⟩ := h
  refine ⟨env, P, RR, After.mono h.bind fun d env1 P1 H1 R1 F1 h1 => ?_⟩
  cases d with
  | true => exact iteT ⟨env1, P1, R1, h1⟩
  | false => exact iteF (h1.here R1 (Fr.refl _ _ _ _))
theorem dw_or (h : DT T W X a ta) (h' : DW T W X (.BoolOp .Or (b :: rest) pos) tb) : DW T W X (.BoolOp .Or (a :: b :: rest) pos) (orT ta tb) := by
  refine pw_imp (pw_or h h') fun σ H Q h => ?_
  obtain ⟨env, P, RR, h⟩ := h
  refine ⟨env, P, RR, After.mono h.bind fun d env1 P1 H1 R1 F1 h1 => ?_⟩
  cases d with
  | true => exact iteT (h1.here R1 (Fr.refl _ _ _ _))
  | false => exact iteF ⟨env1, P1, R1, h1⟩
theorem dt_w (h : DW T W X a ta) : DT T W X a ta := PW.pt h
theorem dt_not (h : DT T W X a ta) : DT T W X (.UnaryOp .Not a pos) (notT ta) := by
  refine pt_imp (pt_not h) fun σ H Q h => ?_
  obtain ⟨env, P, RR, h⟩ := h
  exact ⟨env, P, RR, After.mono h.bind fun d env1 P1 H1 R1 F1 h1 => h1.here R1 (Fr.refl _ _ _ _)⟩
theorem de_ifExp (hc : DT T W X c tc) (ha : DE T W X a k ma) (hb : DE T W X b k mb) : DE T W X (.IfExp c a b pos) k (ifM tc ma mb) := by
  refine pe_imp (pe_ifExp hc ha hb) fun σ H Q h => ?_
  obtain ⟨env, P, RR, h⟩ := h
  refine ⟨env, P, RR, After.mono h.bind fun d env1 P1 H1 R1 F1 h1 => ?_⟩
  have nb : ∀ {m : M}, After T W σ env1 P1 H1 (m env1) (fun d env' P' H' => ∀ x, KRep T k env' σ P' H' d x → NewV k H x → Q x H') → rdE T W k m σ H1 Q :=
    fun z => ⟨env1, P1, R1, After.mono z fun _ _ _ _ _ _ q x kx nx => q x kx (nx.back F1)⟩
  cases d with
  | true => exact iteT (nb h1)
  | false => exact iteF (nb h1)
/-! as values: all but the last must be truth values -/
def andV (ma mb : M) : M := fun env => (ma env).bind fun d e => match d with | .bl true => mb e | .bl false => .ok (.bl false) e | _ => .stk
def orV (ma mb : M) : M := fun env => (ma env).bind fun d e => match d with | .bl true => .ok (.bl true) e | .bl false => mb e | _ => .stk
def notV (ma : M) : M := fun env => (ma env).bind fun d e => match d with | .bl b => .ok (.bl (!b)) e | _ => .stk
theorem Rdb.bool {d : D} {c : Bool} (h : Rdb T P H d (.bl c)) : d = .bl c := by
  cases d with
  | bl b => have := h.blE; cases this; rfl
  | non => have := h.nonE; cases this
  | int i => have := h.intE; cases this
  | str i => have := h.strE; cases this
  | tup ds =>
    rcases h with h | ⟨_, _, _, h, _⟩
    · rw [Rep] at h; obtain ⟨a, vs, h, _⟩ := h; cases h
    · cases h
  | lst ds =>
    rcases h with h | ⟨_, _, _, h, _⟩
    · rw [Rep] at h; obtain ⟨a, vs, h, _⟩ := h; cases h
    · cases h
  | obj c ds =>
    rcases h with h | ⟨_, _, _, h, _⟩
    · rw [Rep] at h; obtain ⟨a, dx, vs, h, _⟩ := h; cases h
    · cases h
  | scr ns =>
    rcases h with h | ⟨_, _, _, h, _⟩
    · rw [Rep] at h; obtain ⟨a, h, _⟩ := h; cases h
    · cases h
theorem de_and (h : DE T W X a ka ma) (h' : DE T W X (.BoolOp .And (b :: rest) pos) .pure mb) : DE T W X (.BoolOp .And (a :: b :: rest) pos) .pure (andV ma mb) := by
  refine pe_imp (pe_and h h') fun σ H Q h => ?_
  obtain ⟨env, P, RR, h⟩ := h
  refine ⟨env, P, RR, After.mono h.bind fun d env1 P1 H1 R1 F1 h1 x kx nx => ?_⟩
  cases d with
  | bl c =>
    refine ⟨c, (kx.rdb R1).blE, ?_⟩
    cases c with
    | true => exact iteT ⟨env1, P1, R1, After.mono h1 fun _ _ _ _ _ _ q x kx nx => q x kx trivial⟩
    | false => exact iteF (h1.here R1 (Fr.refl _ _ _ _) _ (show Rep T P1 _ _ from rep_bl) trivial)
  | _ => exact False.elim h1
theorem de_or (h : DE T W X a ka ma) (h' : DE T W X (.BoolOp .Or (b :: rest) pos) .pure mb) : DE T W X (.BoolOp .Or (a :: b :: rest) pos) .pure (orV ma mb) := by
  refine pe_imp (pe_or h h') fun σ H Q h => ?_
  obtain ⟨env, P, RR, h⟩ := h
  refine ⟨env, P, RR, After.mono h.bind fun d env1 P1 H1 R1 F1 h1 x kx nx => ?_⟩
  cases d with
  | bl c =>
    refine ⟨c, (kx.rdb R1).blE, ?_⟩
    cases c with
    | false => exact iteF ⟨env1, P1, R1, After.mono h1 fun _ _ _ _ _ _ q x kx nx => q x kx trivial⟩
    | true => exact iteT (h1.here R1 (Fr.refl _ _ _ _) _ (show Rep T P1 _ _ from rep_bl) trivial)
  | _ => exact False.elim h1
theorem de_one {op : BoolOp} (h : DE T W X a k m) : DE T W X (.BoolOp op [a] pos) k m := pe_one h
theorem de_notV (h : DE T W X a ka ma) : DE T W X (.UnaryOp .Not a pos) .pure (notV ma) := by
  refine pe_imp (pe_not h) fun σ H Q h => ?_
  obtain ⟨env, P, RR, h⟩ := h
  refine ⟨env, P, RR, After.mono h.bind fun d env1 P1 H1 R1 F1 h1 x kx nx => ?_⟩
  cases d with
  | bl c => exact ⟨c, (kx.rdb R1).blE, h1.here R1 (Fr.refl _ _ _ _) _ (show Rep T P1 _ _ from rep_bl) trivial⟩
  | _ => exact False.elim h1
end

/-! ### lists of arguments -/
def argsM : List M → Env → R (List D)
  | [], env => .ok [] env
  | m :: ms, env => (m env).bind fun d e1 => (argsM ms e1).bind fun ds e2 => .ok (d :: ds) e2
inductive KReps (T : Tab) (env : Env) (σ : St) (P H : Hp) : List Kd → List D → List V → Prop where
  | nil : KReps T env σ P H [] [] []
  | cons {k : Kd} {ks : List Kd} {d : D} {ds : List D} {x : V} {xs : List V} : KRep T k env σ P H d x → KReps T env σ P H ks ds xs → KReps T env σ P H (k :: ks) (d :: ds) (x :: xs)
def rdA (T : Tab) (W : WX) (ks : List Kd) (ms : List M) : TA := fun σ H Q => ∃ env P, Rel T env σ P H ∧ After T W σ env P H (argsM ms env) (fun ds env' P' H' => ∀ xs, KReps T env' σ P' H' ks ds xs → Q xs H')
def DA (T : Tab) (W : WX) (X : Cx) (es : List Expr) (ks : List Kd) (ms : List M) : Prop := PA X es (rdA T W ks ms)
section
variable {T : Tab} {W : WX} {X : Cx} {a b c e : Expr} {es : List Expr} {k : Kd} {ks : List Kd} {m : M} {ms : List M} {pos : Pos} {env env' : Env} {σ : St} {P H P' H' : Hp} {x : V}
theorem da_nil : DA T W X [] [] [] := by
  refine pa_imp pa_nil fun σ H Q h => ?_
  obtain ⟨env, P, RR, h⟩ := h
  exact h.here RR (Fr.refl _ _ _ _) _ .nil
theorem da_cons (h : DE T W X e k m) (h' : DA T W X es ks ms) (hs : Steady k (argsM ms) := by trivial) (hst : starEach (e :: es) X.env = (false, eval e X.env) :: starEach es X.env := by rfl) : DA T W X (e :: es) (k :: ks) (m :: ms) := by
  refine pa_imp (pa_cons h h' hst) fun σ H Q h => ?_
  obtain ⟨env, P, RR, h⟩ := h
  refine ⟨env, P, RR, After.at h.bind fun d env1 P1 H1 _ R1 F1 h1 x kx nx => ?_⟩
  refine ⟨env1, P1, R1, After.at h1.bind fun ds env2 P2 H2 e2 R2 F2 h2 xs kxs => ?_⟩
  exact h2.here R2 (Fr.refl _ _ _ _) _ (.cons (kx.carry F2 (hs.use e2)) kxs)
theorem KReps.rdbs (R1 : Rel T env σ P H) : ∀ {ks : List Kd} {ds : List D} {xs : List V}, KReps T env σ P H ks ds xs → Rdbs T P H ds xs
  | _, _, _, .nil => .nil
  | _, _, _, .cons h t => .cons (h.rdb R1) (KReps.rdbs R1 t)
theorem KReps.pures : ∀ {ks : List Kd} {ds : List D} {xs : List V}, KReps T env σ P H ks ds xs → (∀ k ∈ ks, k = .pure) → Reps T P ds xs
  | _, _, _, .nil, _ => Reps.nil
  | _, _, _, .cons h t, hp => by
    have e := hp _ List.mem_cons_self
    subst e
    exact Reps.cons h (t.pures fun k hk => hp k (List.mem_cons_of_mem _ hk))
theorem pures_nil : ∀ k ∈ ([] : List Kd), k = .pure := fun _ h => nomatch h
theorem pures_cons {ks : List Kd} (h : ∀ k ∈ ks, k = .pure) : ∀ k ∈ (Kd.pure :: ks), k = .pure := fun k hk => by
  rcases List.mem_cons.mp hk with e | e
  · exact e
  · exact h k e
/-- a call of a built-in -/
def CallD (T : Tab) (r : List V → Hp → VK → Prop) (k : Kd) (g : List D → Option D) : Prop :=
  ∀ (env : Env) (σ : St) (P H : Hp) (ds : List D) (xs : List V) (d : D) (Q : VK), Rel T env σ P H → Rdbs T P H ds xs → g ds = some d →
    (∀ v P' H', Rel T env σ P' H' → Fr env σ P H env σ P' H' → KRep T k env σ P' H' d v → NewV k H v → Q v H') → r xs H Q
def callM (g : List D → Option D) (ms : List M) : M := fun env => (argsM ms env).bind fun ds e => liftO (g ds) e
theorem rd_call {r : List V → Hp → VK → Prop} {g : List D → Option D} (hD : CallD T r k g) {σ : St} {H : Hp} {Q : VK} (h : rdE T W k (callM g ms) σ H Q) : tCB r (rdA T W ks ms) σ H Q := by
  obtain ⟨env, P, RR, h⟩ := h
  refine ⟨env, P, RR, After.at h.bind fun ds env1 P1 H1 _ R1 F1 h1 xs kxs => ?_⟩
  cases e : g ds with
  | none => rw [e] at h1; exact False.elim h1
  | some d =>
    rw [e] at h1
    exact hD env1 σ P1 H1 ds xs d Q R1 (kxs.rdbs R1) e fun v P' H' R' F' kv nv => h1 P' H' R' F' v kv (nv.back F1)
theorem de_callB {x : Str} {id : String} {p : Pos} {r : List V → Hp → VK → Prop} {g : List D → Option D} (hc : CallR X (.builtin id) r) (hD : CallD T r k g) (hg : Gl X x) (hm : X.mg x = none) (hv : bootBuiltins x = some (.builtin id)) (ha : DA T W X (e :: es) ks ms)
    (hn : x ≠ "__name__" := by decide) (hdb : (x == ("__debug__" : Str)) = false := by decide) (he : starEach (e :: es) X.env = (false, eval e X.env) :: starEach es X.env := by rfl) (hpl : (backTo pos (starEach es X.env)).any (·.1) = false := by rfl) : DE T W X (.Call (.Name x p) (e :: es) [] pos) k (callM g ms) :=
  pe_imp (pe_callB hc hg hm hv ha hn hdb he hpl) fun _ _ _ h => rd_call hD h
theorem de_callTy {x : Str} {id : String} {p : Pos} {r : List V → Hp → VK → Prop} {g : List D → Option D} (hc : CallR X (.type id) r) (hD : CallD T r k g) (hg : Gl X x) (hm : X.mg x = none) (hv : bootBuiltins x = some (.type id)) (ha : DA T W X (e :: es) ks ms)
    (hn : x ≠ "__name__" := by decide) (hdb : (x == ("__debug__" : Str)) = false := by decide) (he : starEach (e :: es) X.env = (false, eval e X.env) :: starEach es X.env := by rfl) (hpl : (backTo pos (starEach es X.env)).any (·.1) = false := by rfl) : DE T W X (.Call (.Name x p) (e :: es) [] pos) k (callM g ms) :=
  pe_imp (pe_callTy hc hg hm hv ha hn hdb he hpl) fun _ _ _ h => rd_call hD h
/-- displays: the items stay -/
def tupM (ms : List M) : M := fun env => (argsM ms env).bind fun ds e => if ds.length ≤ sizeLine then .ok (.tup ds) e else .stk
def lstM (ms : List M) : M := fun env => (argsM ms env).bind fun ds e => if ds.length ≤ sizeLine then .ok (.lst ds) e else .stk
theorem de_tup {x1 : Nat} (h : DA T W X es ks ms) (hp : ∀ k ∈ ks, k = Kd.pure) : DE T W X (.Tuple es x1 pos) .pure (tupM ms) := by
  refine pe_imp (pe_tup h) fun σ H Q h => ?_
  obtain ⟨env, P, RR, h⟩ := h
  refine ⟨env, P, RR, After.at h.bind fun ds env1 P1 H1 _ R1 F1 h1 xs kxs => ?_⟩
  have rs := kxs.pures hp
  by_cases hl : ds.length ≤ sizeLine
  · rw [if_pos hl] at h1
    refine ⟨by rw [rs.length]; exact hl, fun p hp => ?_⟩
    obtain ⟨R2, F2⟩ := R1.newP (o := .tup xs) hp
    exact h1 _ _ R2 F2 _ (rep_tup upd_same (Reps.sub F2.mono _ _ rs)) trivial
  · rw [if_neg hl] at h1; exact False.elim h1
theorem de_lst (h : DA T W X es ks ms) (hp : ∀ k ∈ ks, k = Kd.pure) : DE T W X (.List es pos) .fresh (lstM ms) := by
  refine pe_imp (pe_lst h) fun σ H Q h => ?_
  obtain ⟨env, P, RR, h⟩ := h
  refine ⟨env, P, RR, After.at h.bind fun ds env1 P1 H1 _ R1 F1 h1 xs kxs => ?_⟩
  have rs := kxs.pures hp
  by_cases hl : ds.length ≤ sizeLine
  · rw [if_pos hl] at h1
    refine ⟨by rw [rs.length]; exact hl, fun p hp => ?_⟩
    obtain ⟨R2, F2, no, pn⟩ := R1.newF (o := .lst xs) hp
    exact h1 _ _ R2 F2 _ ⟨p, xs, ds, rfl, upd_same, pn, no, rs, rfl⟩ (NewV.back (k := .fresh) F1 ⟨p, rfl, hp⟩)
  · rw [if_neg hl] at h1; exact False.elim h1
end
end Ue

set_option linter.all false
set_option Elab.async false
set_option maxRecDepth 100000
set_option maxHeartbeats 4000000
namespace Ue
open PySem L2

/-! ### plain data for == -/
mutual
def toPy : D → Option PyData
  | .non => some .none
  | .bl b => some (.bool b)
  | .int i => some (.int i)
  | .str s => some (.str s)
  | .tup ds => (toPys ds).map .tuple
  | .lst ds => (toPys ds).map .list
  | .obj _ _ => none
  | .scr _ => none
def toPys : List D → Option (List PyData)
  | [] => some []
  | d :: ds => match toPy d, toPys ds with
    | some p, some ps => some (p :: ps)
    | _, _ => none
end
section
variable {T : Tab} {P H : Hp}
mutual
theorem dp_of (R1 : PSub P H) : ∀ (d : D) (x : V) (p : PyData), Rep T P d x → toPy d = some p → Dp T.K H x p
  | .non, x, p, h, e => by rw [Rep] at h; cases e; subst h; exact .non
  | .bl b, x, p, h, e => by rw [Rep] at h; cases e; subst h; exact .bl b
  | .int i, x, p, h, e => by rw [Rep] at h; cases e; subst h; exact .int i
  | .str s, x, p, h, e => by rw [Rep] at h; cases e; subst h; exact .str s
  | .tup ds, x, p, h, e => by
    rw [Rep] at h
    obtain ⟨a, vs, rfl, h1, h2⟩ := h
    rw [toPy] at e
    cases q : toPys ds with
    | none => rw [q] at e; cases e
    | some ps => rw [q] at e; cases e; exact .tup (sqT_sub R1 h1) (dps_of R1 ds vs ps h2 q)
  | .lst ds, x, p, h, e => by
    rw [Rep] at h
    obtain ⟨a, vs, rfl, h1, h2⟩ := h
    rw [toPy] at e
    cases q : toPys ds with
    | none => rw [q] at e; cases e
    | some ps => rw [q] at e; cases e; exact .lst (.inl (Rd.sub R1 h1)) (dps_of R1 ds vs ps h2 q)
  | .obj c ds, x, p, h, e => by rw [toPy] at e; cases e
  | .scr ns, x, p, h, e => by rw [toPy] at e; cases e
theorem dps_of (R1 : PSub P H) : ∀ (ds : List D) (xs : List V) (ps : List PyData), Reps T P ds xs → toPys ds = some ps → DpAll T.K H xs ps
  | [], xs, ps, h, e => by rw [Reps] at h; rw [toPys] at e; cases e; subst h; exact .nil
  | d :: ds, xs, ps, h, e => by
    rw [Reps] at h
    obtain ⟨v, r, rfl, h1, h2⟩ := h
    rw [toPys] at e
    cases q1 : toPy d with
    | none => rw [q1] at e; cases e
    | some p =>
      cases q2 : toPys ds with
      | none => rw [q1, q2] at e; cases e
      | some qs => rw [q1, q2] at e; cases e; exact .cons (dp_of R1 d v p h1 q1) (dps_of R1 ds r qs h2 q2)
end
theorem Rdb.dp {d : D} {x : V} {p : PyData} (R1 : PSub P H) (h : Rdb T P H d x) (e : toPy d = some p) : Dp T.K H x p := by
  rcases h with h | ⟨a, vs, ds, rfl, h1, h2, rfl⟩
  · exact dp_of R1 d x p h e
  · rw [toPy] at e
    cases q : toPys ds with
    | none => rw [q] at e; cases e
    | some ps => rw [q] at e; cases e; exact .lst (.of h1) (dps_of R1 ds vs ps h2 q)
end
def eqD (a b : D) : Option Bool := match toPy a, toPy b with
  | some p, some q => if SeqAt.shaped p = true ∧ SeqAt.shaped q = true then some (PyData.eqv p q) else none
  | _, _ => none
def neD (a b : D) : Option Bool := (eqD a b).map (!·)
def inD (a b : D) : Option Bool := match toPy a, toPy b with
  | some p, some (.list qs) => if SeqAt.shaped p = true ∧ SeqAt.shaped (.list qs) = true then some (qs.any fun z => PyData.eqv z p) else none
  | _, _ => none
def notInD (a b : D) : Option Bool := (inD a b).map (!·)
section
variable {T : Tab}
theorem eqD_some {a b : D} {t : Bool} (h : eqD a b = some t) : ∃ p q, toPy a = some p ∧ toPy b = some q ∧ SeqAt.shaped p = true ∧ SeqAt.shaped q = true ∧ t = PyData.eqv p q := by
  unfold eqD at h
  cases ea : toPy a with
  | none => rw [ea] at h; cases h
  | some p =>
    cases eb : toPy b with
    | none => rw [ea, eb] at h; cases h
    | some q =>
      rw [ea, eb] at h
      have h : (if SeqAt.shaped p = true ∧ SeqAt.shaped q = true then some (PyData.eqv p q) else none) = some t := h
      by_cases c : SeqAt.shaped p = true ∧ SeqAt.shaped q = true
      · rw [if_pos c] at h; cases h; exact ⟨p, q, rfl, rfl, c.1, c.2, rfl⟩
      · rw [if_neg c] at h; cases h
theorem cd_eqD : CmpD T (rEqD T.K) eqD := fun P H dx dy x y b Q R1 hx hy e q => by
  obtain ⟨p, r, e1, e2, s1, s2, rfl⟩ := eqD_some e
  exact ⟨p, r, hx.dp R1 e1, hy.dp R1 e2, s1, s2, q⟩
theorem cd_neD : CmpD T (rNeD T.K) neD := fun P H dx dy x y b Q R1 hx hy e q => by
  unfold neD at e
  cases c : eqD dx dy with
  | none => rw [c] at e; cases e
  | some t =>
    rw [c] at e
    obtain ⟨p, r, e1, e2, s1, s2, rfl⟩ := eqD_some c
    cases e
    exact ⟨p, r, hx.dp R1 e1, hy.dp R1 e2, s1, s2, q⟩
theorem inD_some {a b : D} {t : Bool} (h : inD a b = some t) : ∃ p qs, toPy a = some p ∧ toPy b = some (.list qs) ∧ SeqAt.shaped p = true ∧ SeqAt.shaped (.list qs) = true ∧ t = qs.any fun z => PyData.eqv z p := by
  unfold inD at h
  cases ea : toPy a with
  | none => rw [ea] at h; cases h
  | some p =>
    cases eb : toPy b with
    | none => rw [ea, eb] at h; cases h
    | some q =>
      rw [ea, eb] at h
      cases q with
      | list qs =>
        have h : (if SeqAt.shaped p = true ∧ SeqAt.shaped (.list qs) = true then some (qs.any fun z => PyData.eqv z p) else none) = some t := h
        by_cases c : SeqAt.shaped p = true ∧ SeqAt.shaped (.list qs) = true
        · rw [if_pos c] at h; cases h; exact ⟨p, qs, rfl, rfl, c.1, c.2, rfl⟩
        · rw [if_neg c] at h; cases h
      | _ => cases h
theorem cd_inD : CmpD T (rInD T.K) inD := fun P H dx dy x y b Q R1 hx hy e q => by
  obtain ⟨p, r, e1, e2, s1, s2, rfl⟩ := inD_some e
  exact ⟨p, r, hx.dp R1 e1, hy.dp R1 e2, s1, s2, q⟩
theorem cd_notInD : CmpD T (rNotInD T.K) notInD := fun P H dx dy x y b Q R1 hx hy e q => by
  unfold notInD at e
  cases c : inD dx dy with
  | none => rw [c] at e; cases e
  | some t =>
    rw [c] at e
    obtain ⟨p, r, e1, e2, s1, s2, rfl⟩ := inD_some c
    cases e
    exact ⟨p, r, hx.dp R1 e1, hy.dp R1 e2, s1, s2, q⟩
end

/-! ### ints -/
def i2 (f : Int → Int → D) (a b : D) : Option D := match a, b with | .int i, .int j => some (f i j) | _, _ => none
def i2c (c : Int → Int → Bool) (f : Int → Int → D) (a b : D) : Option D := match a, b with | .int i, .int j => if c i j then some (f i j) else none | _, _ => none
def c2 (f : Int → Int → Bool) (a b : D) : Option Bool := match a, b with | .int i, .int j => some (f i j) | _, _ => none
section
variable {T : Tab}
theorem od_i2 {f : Int → Int → Int} : OpD T (rI0 fun i j => .int (f i j)) .pure (i2 fun i j => .int (f i j)) := fun env σ P H dx dy x y d Q R1 hx hy e k => by
  cases dx with
  | int i =>
    cases dy with
    | int j => cases e; exact ⟨i, j, hx.intE, hy.intE, k _ P H R1 (Fr.refl _ _ _ _) (show Rep T P _ _ from rep_int) trivial⟩
    | _ => cases e
  | _ => cases e
theorem od_i2c {c : Int → Int → Bool} {C : Int → Int → Prop} {f : Int → Int → Int} (hc : ∀ i j, c i j = true → C i j) : OpD T (rI C fun i j => .int (f i j)) .pure (i2c c fun i j => .int (f i j)) := fun env σ P H dx dy x y d Q R1 hx hy e k => by
  cases dx with
  | int i =>
    cases dy with
    | int j =>
      have e : (if c i j then some (D.int (f i j)) else none) = some d := e
      by_cases z : c i j = true
      · rw [if_pos z] at e; cases e
        exact ⟨i, j, hx.intE, hy.intE, hc i j z, k _ P H R1 (Fr.refl _ _ _ _) (show Rep T P _ _ from rep_int) trivial⟩
      · rw [if_neg z] at e; cases e
    | _ => cases e
  | _ => cases e
theorem cd_c2 {f : Int → Int → Bool} : CmpD T (rI0 fun i j => .bl (f i j)) (c2 f) := fun P H dx dy x y b Q R1 hx hy e q => by
  cases dx with
  | int i =>
    cases dy with
    | int j => cases e; exact ⟨i, j, hx.intE, hy.intE, q⟩
    | _ => cases e
  | _ => cases e
/-- == of scalars -/
def eqS (a b : D) : Option Bool := match a, b with
  | .int i, .int j => some (decide (i = j))
  | .str i, .str j => some (decide (i = j))
  | .bl i, .bl j => some (decide (i = j))
  | .non, .non => some true
  | .non, .int _ => some false | .int _, .non => some false | .non, .bl _ => some false | .bl _, .non => some false | .non, .str _ => some false | .str _, .non => some false
  | .int _, .str _ => some false | .str _, .int _ => some false | .bl _, .str _ => some false | .str _, .bl _ => some false
  | _, _ => none
def neS (a b : D) : Option Bool := (eqS a b).map (!·)
theorem eqS_some {P H : Hp} {dx dy : D} {x y : V} {b : Bool} (hx : Rdb T P H dx x) (hy : Rdb T P H dy y) (e : eqS dx dy = some b) : scal x y = true ∧ decide (x = y) = b := by
  cases dx <;> cases dy <;> (try cases e) <;> (first | rw [hx.intE] | rw [hx.strE] | rw [hx.blE] | rw [hx.nonE]) <;> (first | rw [hy.intE] | rw [hy.strE] | rw [hy.blE] | rw [hy.nonE]) <;> refine ⟨rfl, ?_⟩ <;> simp
theorem cd_eqS : CmpD T rEq eqS := fun P H dx dy x y b Q R1 hx hy e q => by
  obtain ⟨h1, h2⟩ := eqS_some hx hy e
  exact ⟨h1, by rw [h2]; exact q⟩
theorem cd_neS : CmpD T rNe neS := fun P H dx dy x y b Q R1 hx hy e q => by
  unfold neS at e
  cases c : eqS dx dy with
  | none => rw [c] at e; cases e
  | some t =>
    rw [c] at e; cases e
    obtain ⟨h1, h2⟩ := eqS_some hx hy c
    exact ⟨h1, by rw [h2]; exact q⟩
def isN (a b : D) : Option Bool := match b with
  | .non => (match a with | .non => some true | .bl _ => some false | .int _ => some false | .str _ => some false | .tup _ => some false | .lst _ => some false | .obj _ _ => some false | .scr _ => some false)
  | _ => none
def notN (a b : D) : Option Bool := (isN a b).map (!·)
theorem Rdb.ref {P H : Hp} {d : D} {x : V} (h : Rdb T P H d x) (hd : (∃ ds, d = .tup ds) ∨ (∃ ds, d = .lst ds) ∨ (∃ ns, d = .scr ns) ∨ ∃ c ds, d = .obj c ds) : ∃ a, x = .ref a := by
  rcases h with h | ⟨a, _, _, h, _⟩
  · rcases hd with ⟨ds, rfl⟩ | ⟨ds, rfl⟩ | ⟨ns, rfl⟩ | ⟨c, ds, rfl⟩
    · rw [Rep] at h; obtain ⟨a, vs, h, _⟩ := h; exact ⟨a, h⟩
    · rw [Rep] at h; obtain ⟨a, vs, h, _⟩ := h; exact ⟨a, h⟩
    · rw [Rep] at h; obtain ⟨a, h, _⟩ := h; exact ⟨a, h⟩
    · rw [Rep] at h; obtain ⟨a, dx, vs, h, _⟩ := h; exact ⟨a, h⟩
  · exact ⟨a, h⟩
theorem isN_some {P H : Hp} {dx dy : D} {x y : V} {b : Bool} (hx : Rdb T P H dx x) (hy : Rdb T P H dy y) (e : isN dx dy = some b) : y = .non ∧ decide (x = .non) = b := by
  cases dy with
  | non =>
    refine ⟨hy.nonE, ?_⟩
    cases dx with
    | non => rw [hx.nonE]; cases e; rfl
    | bl i => rw [hx.blE]; cases e; rfl
    | int i => rw [hx.intE]; cases e; rfl
    | str i => rw [hx.strE]; cases e; rfl
    | tup ds => obtain ⟨a, rfl⟩ := hx.ref (.inl ⟨_, rfl⟩); cases e; rfl
    | lst ds => obtain ⟨a, rfl⟩ := hx.ref (.inr (.inl ⟨_, rfl⟩)); cases e; rfl
    | scr ns => obtain ⟨a, rfl⟩ := hx.ref (.inr (.inr (.inl ⟨_, rfl⟩))); cases e; rfl
    | obj c ds => obtain ⟨a, rfl⟩ := hx.ref (.inr (.inr (.inr ⟨_, _, rfl⟩))); cases e; rfl
  | _ => cases e
theorem cd_isN : CmpD T (fun x y H Q => y = .non ∧ Q (.bl (decide (x = .non))) H) isN := fun P H dx dy x y b Q R1 hx hy e q => by
  obtain ⟨h1, h2⟩ := isN_some hx hy e
  exact ⟨h1, by rw [h2]; exact q⟩
theorem cd_notN : CmpD T (fun x y H Q => y = .non ∧ Q (.bl (!decide (x = .non))) H) notN := fun P H dx dy x y b Q R1 hx hy e q => by
  unfold notN at e
  cases c : isN dx dy with
  | none => rw [c] at e; cases e
  | some t =>
    rw [c] at e; cases e
    obtain ⟨h1, h2⟩ := isN_some hx hy c
    exact ⟨h1, by rw [h2]; exact q⟩
def isB (a b : D) : Option Bool := match a, b with | .bl i, .bl j => some (decide (i = j)) | _, _ => none
def notB (a b : D) : Option Bool := (isB a b).map (!·)
theorem cd_isB : CmpD T rIsB isB := fun P H dx dy x y b Q R1 hx hy e q => by
  cases dx with
  | bl i =>
    cases dy with
    | bl j => cases e; exact ⟨i, j, hx.blE, hy.blE, q⟩
    | _ => cases e
  | _ => cases e
theorem cd_notB : CmpD T rNotB notB := fun P H dx dy x y b Q R1 hx hy e q => by
  cases dx with
  | bl i =>
    cases dy with
    | bl j => cases e; exact ⟨i, j, hx.blE, hy.blE, q⟩
    | _ => cases e
  | _ => cases e
/-! unary -/
def u1 (f : Int → D) (a : D) : Option D := match a with | .int i => some (f i) | _ => none
theorem ud_u1 {f : Int → Int} : UnD T (rU fun i => .int (f i)) .pure (u1 fun i => .int (f i)) := fun env σ P H dx x d Q R1 hx e k => by
  cases dx with
  | int i => cases e; exact ⟨i, hx.intE, k _ P H R1 (Fr.refl _ _ _ _) (show Rep T P _ _ from rep_int) trivial⟩
  | _ => cases e
end
/-! ### the bounds -/
def small64 (i : Int) : Bool := decide (i.natAbs < 18446744073709551616)
def mulOk (i j : Int) : Bool := small64 i || small64 j || decide (i.natAbs.log2 + j.natAbs.log2 < 100000000)
def powOk (i j : Int) : Bool := decide (0 ≤ j) && decide (j ≤ 1000000) && small64 i
theorem mulOk_ok {i j : Int} (h : mulOk i j = true) : IntMulOk i j := by
  unfold mulOk small64 at h
  rcases Bool.or_eq_true_iff.mp h with h | h
  · have hm : CMul i j := by
      rcases Bool.or_eq_true_iff.mp h with h | h
      · have := of_decide_eq_true h; exact .inl (by omega)
      · have := of_decide_eq_true h; exact .inr (by omega)
    exact hm.ok
  · have b : ∀ x : Int, Builtin.Int.intBits x ≤ x.natAbs.log2 + 1 := fun x => by
      unfold Builtin.Int.intBits
      split <;> omega
    have h1 := b i
    have h2 := b j
    have h3 := of_decide_eq_true h
    refine CMulX.ok ?_
    unfold CMulX
    omega
def divOk (i j : Int) : Bool := decide (j ≠ 0) && (small64 j || !Builtin.divisionGoesByPylong i j)
theorem log2_64 {n : Nat} (h : n < 18446744073709551616) : n.log2 < 9000 := by
  by_cases h0 : n = 0
  · rw [h0]; decide +kernel
  · rw [Nat.log2_lt h0]; exact Nat.lt_of_lt_of_le h (by rw [show (18446744073709551616 : Nat) = 2 ^ 64 by decide]; exact Nat.pow_le_pow_right (by decide) (by decide))
theorem divOk_ok {i j : Int} (h : divOk i j = true) : j ≠ 0 ∧ Builtin.divisionGoesByPylong i j = false := by
  unfold divOk at h
  obtain ⟨h1, h2⟩ := Bool.and_eq_true_iff.mp h
  refine ⟨of_decide_eq_true h1, ?_⟩
  rcases Bool.or_eq_true_iff.mp h2 with q | q
  · exact PyProof.noPylong_of_log2 (log2_64 (of_decide_eq_true q))
  · simpa using q
section
variable {X : Cx} {T : Tab}
theorem op_mulA : OpR X (binaryOp .Mult) (rI (fun i j => mulOk i j = true) fun i j => .int (i * j)) := opI fun _ _ _ _ _ _ _ hc q => PyProof.Rows.mul_int q (mulOk_ok hc)
theorem op_fdivA : OpR X (binaryOp .FloorDiv) (rI (fun i j => divOk i j = true) fun i j => .int (i.fdiv j)) := opI fun i j _ _ _ _ _ hc q => by
  obtain ⟨h1, h2⟩ := divOk_ok hc
  exact PyProof.Rows.floordiv_int h1 q (.inl h2)
/-! the operators of ints, each with its plain function -/
abbrev addI := i2 fun i j => .int (i + j)
abbrev subI := i2 fun i j => .int (i - j)
abbrev mulI := i2c mulOk fun i j => .int (i * j)
abbrev fdivI := i2c divOk fun i j => .int (i.fdiv j)
abbrev modI := i2c (fun _ j => decide (j ≠ 0)) fun i j => .int (i.fmod j)
abbrev powI := i2c powOk fun i j => .int (i ^ j.toNat)
def shlOk (i j : Int) : Bool := decide (0 ≤ j) && decide ((Builtin.Int.intBits i : Int) + j ≤ 2 ^ 27)
abbrev shlI := i2c shlOk fun i j => .int (i * 2 ^ j.toNat)
abbrev shrI := i2c (fun _ j => decide (0 ≤ j)) fun i j => .int (i / 2 ^ j.toNat)
abbrev andI := i2 fun i j => .int (Builtin.bitAnd i j)
abbrev orI := i2 fun i j => .int (Builtin.bitOr i j)
abbrev xorI := i2 fun i j => .int (Builtin.bitXor i j)
theorem od_add : OpD T (rI0 fun i j => .int (i + j)) .pure addI := od_i2
theorem od_sub : OpD T (rI0 fun i j => .int (i - j)) .pure subI := od_i2
theorem od_mul : OpD T (rI (fun i j => mulOk i j = true) fun i j => .int (i * j)) .pure mulI := od_i2c fun _ _ h => h
theorem od_fdiv : OpD T (rI (fun i j => divOk i j = true) fun i j => .int (i.fdiv j)) .pure fdivI := od_i2c fun _ _ h => h
theorem od_mod : OpD T (rI (fun _ j => j ≠ 0) fun i j => .int (i.fmod j)) .pure modI := od_i2c fun _ _ h => of_decide_eq_true h
theorem od_pow : OpD T (rI CPow fun i j => .int (i ^ j.toNat)) .pure powI := od_i2c fun i j h => by
  unfold powOk small64 at h
  obtain ⟨h1, h2⟩ := Bool.and_eq_true_iff.mp h
  obtain ⟨h3, h4⟩ := Bool.and_eq_true_iff.mp h1
  exact ⟨of_decide_eq_true h3, of_decide_eq_true h4, by simpa using of_decide_eq_true h2⟩
theorem od_shl : OpD T (rI CShl fun i j => .int (i * 2 ^ j.toNat)) .pure shlI := od_i2c fun i j h => by
  unfold shlOk at h
  obtain ⟨h1, h2⟩ := Bool.and_eq_true_iff.mp h
  exact ⟨of_decide_eq_true h1, of_decide_eq_true h2⟩
theorem od_shr : OpD T (rI (fun _ j => 0 ≤ j) fun i j => .int (i / 2 ^ j.toNat)) .pure shrI := od_i2c fun _ _ h => of_decide_eq_true h
theorem od_and : OpD T (rI0 fun i j => .int (Builtin.bitAnd i j)) .pure andI := od_i2
theorem od_or : OpD T (rI0 fun i j => .int (Builtin.bitOr i j)) .pure orI := od_i2
theorem od_xor : OpD T (rI0 fun i j => .int (Builtin.bitXor i j)) .pure xorI := od_i2
abbrev negI := u1 fun i => .int (-i)
abbrev invI := u1 fun i => .int (Builtin.bitNot i)
theorem ud_neg : UnD T (rU fun i => .int (-i)) .pure negI := ud_u1
theorem ud_inv : UnD T (rU fun i => .int (Builtin.bitNot i)) .pure invI := ud_u1
abbrev ltI := c2 fun i j => decide (i < j)
abbrev leI := c2 fun i j => decide (i ≤ j)
abbrev gtI := c2 fun i j => decide (j < i)
abbrev geI := c2 fun i j => decide (j ≤ i)
/-! texts, tuples, lists by + and * -/
def addS (a b : D) : Option D := match a, b with | .str i, .str j => if i.length + j.length ≤ sizeLine then some (.str (i ++ j)) else none | _, _ => none
theorem od_addS : OpD T (fun x y H Q => ∃ i j, x = .str i ∧ y = .str j ∧ i.length + j.length ≤ sizeLine ∧ Q (.str (i ++ j)) H) .pure addS := fun env σ P H dx dy x y d Q R1 hx hy e k => by
  cases dx with
  | str i =>
    cases dy with
    | str j =>
      have e : (if i.length + j.length ≤ sizeLine then some (D.str (i ++ j)) else none) = some d := e
      by_cases z : i.length + j.length ≤ sizeLine
      · rw [if_pos z] at e; cases e
        exact ⟨i, j, hx.strE, hy.strE, z, k _ P H R1 (Fr.refl _ _ _ _) (show Rep T P _ _ from rep_str) trivial⟩
      · rw [if_neg z] at e; cases e
    | _ => cases e
  | _ => cases e
def catT (a b : D) : Option D := match a, b with | .tup i, .tup j => if i.length + j.length ≤ sizeLine then some (.tup (i ++ j)) else none | _, _ => none
theorem od_catT : OpD T (rCatA T.K) .pure catT := fun env σ P H dx dy x y d Q R1 hx hy e k => by
  cases dx with
  | tup i =>
    cases dy with
    | tup j =>
      have e : (if i.length + j.length ≤ sizeLine then some (D.tup (i ++ j)) else none) = some d := e
      by_cases z : i.length + j.length ≤ sizeLine
      · rw [if_pos z] at e; cases e
        have repx : Rep T P (.tup i) x := hx.elim id fun ⟨_, _, _, _, _, _, q⟩ => nomatch q
        have repy : Rep T P (.tup j) y := hy.elim id fun ⟨_, _, _, _, _, _, q⟩ => nomatch q
        obtain ⟨a, vs, rfl, h1, h2⟩ := hx.tupE R1.sub
        obtain ⟨b, ws, rfl, h3, h4⟩ := hy.tupE R1.sub
        refine ⟨a, b, vs, ws, rfl, rfl, h1, h3, by rw [h2.length, h4.length]; exact z, fun q => ?_, fun q1 q2 => ?_, fun q1 q2 p hp => ?_⟩
        · have : i = [] := by have := h2.length; rw [q] at this; exact List.eq_nil_of_length_eq_zero this.symm
          subst this
          exact k _ P H R1 (Fr.refl _ _ _ _) repy trivial
        · have : j = [] := by have := h4.length; rw [q2] at this; exact List.eq_nil_of_length_eq_zero this.symm
          subst this
          rw [List.append_nil] at k
          exact k _ P H R1 (Fr.refl _ _ _ _) repx trivial
        · obtain ⟨R2, F2⟩ := R1.newP (o := .tup (vs ++ ws)) hp
          exact k _ _ _ R2 F2 (rep_tup upd_same (Reps.sub F2.mono _ _ (h2.append h4))) trivial
      · rw [if_neg z] at e; cases e
    | _ => cases e
  | _ => cases e
end
end Ue

set_option linter.all false
set_option Elab.async false
set_option maxRecDepth 100000
set_option maxHeartbeats 4000000
namespace Ue
open PySem L2
/-! ### lists by + and * -/
section
variable {X : Cx} {T : Tab}
def rCatL : R2 := fun x y H Q => ∃ (l b : Addr) (xs zs : List V), x = .ref l ∧ y = .ref b ∧ (Rd H l (.lst xs) ∧ Rd H b (.lst zs)) ∧ (xs.length + zs.length ≤ sizeLine ∧ ∀ p, H p = none → Q (.ref p) (upd H p (.lst (xs ++ zs))))
theorem op_catL : OpR X (binaryOp .Add) rCatL := fun pins s σ H x y v u Q I rx ry h => by
  obtain ⟨l, b, xs, zs, ex, ey, ⟨h1, h2⟩, hz, q⟩ := h
  subst ex ey
  obtain ⟨_, us, n1, r1, p1⟩ := h1.ok I.hok
  obtain ⟨_, ws, n2, r2, p2⟩ := h2.ok I.hok
  have l1 := r1.length
  have l2 := r2.length
  have v1 : v = .ref l := rx
  have v2 : u = .ref b := ry
  subst v1 v2
  refine P.add_list p1 p2 ?_ (by simp only [List.size_toArray]; omega)
  have w : us.toArray ++ ws.toArray = (us ++ ws).toArray := by simp only [List.append_toArray]
  rw [w]
  exact ⟨.ref _, _, I.lnew (t' := s.toks) (r1.append r2) (by simp only [List.length_append]; omega), rfl, q _ I.fresh⟩
def catL (a b : D) : Option D := match a, b with | .lst i, .lst j => if i.length + j.length ≤ sizeLine then some (.lst (i ++ j)) else none | _, _ => none
theorem od_catL : OpD T rCatL .fresh catL := fun env σ P H dx dy x y d Q R1 hx hy e k => by
  cases dx with
  | lst i =>
    cases dy with
    | lst j =>
      have e : (if i.length + j.length ≤ sizeLine then some (D.lst (i ++ j)) else none) = some d := e
      by_cases z : i.length + j.length ≤ sizeLine
      · rw [if_pos z] at e; cases e
        obtain ⟨a, vs, rfl, h1, h2⟩ := hx.lstE R1.sub
        obtain ⟨b, ws, rfl, h3, h4⟩ := hy.lstE R1.sub
        refine ⟨a, b, vs, ws, rfl, rfl, ⟨h1, h3⟩, by rw [h2.length, h4.length]; exact z, fun p hp => ?_⟩
        obtain ⟨R2, F2, no, pn⟩ := R1.newF (o := .lst (vs ++ ws)) hp
        exact k _ _ _ R2 F2 ⟨p, _, _, rfl, upd_same, pn, no, h2.append h4, rfl⟩ ⟨p, rfl, hp⟩
      · rw [if_neg z] at e; cases e
    | _ => cases e
  | _ => cases e
/-- a list (not the script, none of the top's) times an int -/
def Trk (T : Tab) (P H : Hp) (d : D) (x : V) : Prop := ∃ a vs ds, x = .ref a ∧ H a = some (.lst vs) ∧ Reps T P ds vs ∧ d = .lst ds
def repL (a b : D) : Option D := match a, b with | .lst i, .int k => if -(2 ^ 63) ≤ k ∧ k < 2 ^ 63 ∧ i.length * k.toNat ≤ sizeLine then some (.lst (List.replicate k.toNat i).flatten) else none | _, _ => none
theorem Reps.replicate {P : Hp} {ds : List D} {vs : List V} (h : Reps T P ds vs) : ∀ n, Reps T P (List.replicate n ds).flatten (List.replicate n vs).flatten
  | 0 => Reps.nil
  | n + 1 => by
    rw [List.replicate_succ, List.replicate_succ, List.flatten_cons, List.flatten_cons]
    exact h.append (Reps.replicate h n)
theorem de_repL {W : WX} {a b : Expr} {ma mb : M} {kb : Kd} {pos : Pos} (ha : DE T W X a .fresh ma) (hb : DE T W X b kb mb) : DE T W X (.BinOp a .Mult b pos) .fresh (op2M repL ma mb) := by
  refine pe_imp (pe_op op_rep ha hb) fun σ H Q h => ?_
  obtain ⟨env, P, RR, h⟩ := h
  refine ⟨env, P, RR, After.at h.bind fun d1 env1 P1 H1 _ R1 F1 h1 x kx nx => ?_⟩
  refine ⟨env1, P1, R1, After.at h1.bind fun d2 env2 P2 H2 e2 R2 F2 h2 y ky ny => ?_⟩
  have kx' := kx.carry F2 (fun i q => nomatch q)
  obtain ⟨p, vs, ds, rfl, t1, t2, t3, t4, rfl⟩ := kx'
  cases d2 with
  | int k =>
    have h2 : After T W σ env2 P2 H2 (liftO (if -(2 ^ 63) ≤ k ∧ k < 2 ^ 63 ∧ ds.length * k.toNat ≤ sizeLine then some (D.lst (List.replicate k.toNat ds).flatten) else none) env2) _ := h2
    by_cases z : -(2 ^ 63) ≤ k ∧ k < 2 ^ 63 ∧ ds.length * k.toNat ≤ sizeLine
    · rw [if_pos z] at h2
      refine ⟨p, k, vs, rfl, (ky.rdb R2).intE, t1, z.1, z.2.1, by rw [t4.length]; exact z.2.2, fun q hq => ?_⟩
      obtain ⟨R3, F3, no, pn⟩ := R2.newF (o := .lst (List.replicate k.toNat vs).flatten) hq
      exact h2 _ _ R3 F3 _ ⟨q, _, _, rfl, upd_same, pn, no, t4.replicate _, rfl⟩ (NewV.back (k := .fresh) (F1.trans F2) ⟨q, rfl, hq⟩)
    · rw [if_neg z] at h2; exact False.elim h2
  | _ => exact False.elim h2
end
/-! ### calls of built-ins -/
section
variable {T : Tab}
def lenD : List D → Option D
  | [.lst ds] => some (.int ds.length)
  | [.tup ds] => some (.int ds.length)
  | [.scr ns] => some (.int ns.length)
  | [.str s] => if s.length ≤ sizeLine then some (.int s.length) else none
  | _ => none
theorem Rdbs.one {P H : Hp} {d : D} {xs : List V} (h : Rdbs T P H [d] xs) : ∃ x, xs = [x] ∧ Rdb T P H d x := by
  cases h with
  | cons h t => cases t; exact ⟨_, rfl, h⟩
theorem Rdbs.two {P H : Hp} {d e : D} {xs : List V} (h : Rdbs T P H [d, e] xs) : ∃ x y, xs = [x, y] ∧ Rdb T P H d x ∧ Rdb T P H e y := by
  cases h with
  | cons h t =>
    cases t with
    | cons h2 t => cases t; exact ⟨_, _, rfl, h, h2⟩
theorem Rdbs.len {P H : Hp} : ∀ {ds : List D} {xs : List V}, Rdbs T P H ds xs → xs.length = ds.length
  | _, _, .nil => rfl
  | _, _, .cons _ t => by simp [Rdbs.len t]
theorem cd_len : CallD T (fun xs H Q => ∃ x n, xs = [x] ∧ LenV T.K x H n ∧ Q (.int n) H) .pure lenD := fun env σ P H ds xs d Q R1 hx e k => by
  have kk : ∀ n : Int, d = .int n → Q (.int n) H := fun n h => k _ P H R1 (Fr.refl _ _ _ _) (by subst h; exact (show Rep T P _ _ from rep_int)) trivial
  match ds, hx, e with
  | [.lst es], hx, e =>
    obtain ⟨x, rfl, h0⟩ := hx.one
    obtain ⟨a, vs, rfl, h1, h2⟩ := h0.lstE R1.sub
    exact ⟨_, vs.length, rfl, .inl ⟨vs, .inl h1, rfl⟩, kk _ (by cases e; rw [h2.length])⟩
  | [.tup es], hx, e =>
    obtain ⟨x, rfl, h0⟩ := hx.one
    obtain ⟨a, vs, rfl, h1, h2⟩ := h0.tupE R1.sub
    exact ⟨_, vs.length, rfl, .inr ⟨vs, h1, rfl⟩, kk _ (by cases e; rw [h2.length])⟩
  | [.scr ns], hx, e =>
    obtain ⟨x, rfl, h0⟩ := hx.one
    obtain ⟨a, rfl, h1⟩ := h0.scrE R1.sub
    exact ⟨_, ns.length, rfl, .inl ⟨_, h1, by simp⟩, kk _ (by cases e; rfl)⟩
  | [.str z], hx, e =>
    obtain ⟨x, rfl, h0⟩ := hx.one
    have e : (if z.length ≤ sizeLine then some (D.int z.length) else none) = some d := e
    by_cases c : z.length ≤ sizeLine
    · rw [if_pos c] at e; cases e
      exact ⟨V.str z, z.length, by rw [h0.strE], ⟨c, rfl⟩, kk _ rfl⟩
    · rw [if_neg c] at e; cases e
def absD : List D → Option D | [.int i] => some (.int (if i < 0 then -i else i)) | _ => none
theorem cd_abs : CallD T (fun xs H Q => ∃ i, xs = [.int i] ∧ Q (.int (if i < 0 then -i else i)) H) .pure absD := fun env σ P H ds xs d Q R1 hx e k => by
  match ds, hx, e with
  | [.int i], hx, e =>
    obtain ⟨x, rfl, h0⟩ := hx.one
    cases e
    exact ⟨i, by rw [h0.intE], k _ P H R1 (Fr.refl _ _ _ _) (show Rep T P _ _ from rep_int) trivial⟩
def intD : List D → Option D | [.int i] => some (.int i) | [.bl b] => some (.int (if b then 1 else 0)) | _ => none
theorem cd_int : CallD T (fun xs H Q => (∃ i, xs = [.int i] ∧ Q (.int i) H) ∨ ∃ k, xs = [.bl k] ∧ Q (.int (if k then 1 else 0)) H) .pure intD := fun env σ P H ds xs d Q R1 hx e k => by
  match ds, hx, e with
  | [.int i], hx, e =>
    obtain ⟨x, rfl, h0⟩ := hx.one
    cases e
    exact .inl ⟨i, by rw [h0.intE], k _ P H R1 (Fr.refl _ _ _ _) (show Rep T P _ _ from rep_int) trivial⟩
  | [.bl b], hx, e =>
    obtain ⟨x, rfl, h0⟩ := hx.one
    cases e
    exact .inr ⟨b, by rw [h0.blE], k _ P H R1 (Fr.refl _ _ _ _) (show Rep T P _ _ from rep_int) trivial⟩
def ii (f : Int → Int → Int) : List D → Option D | [.int i, .int j] => some (.int (f i j)) | _ => none
theorem cd_ii {f : Int → Int → Int} : CallD T (fun xs H Q => ∃ i j, xs = [.int i, .int j] ∧ Q (.int (f i j)) H) .pure (ii f) := fun env σ P H ds xs d Q R1 hx e k => by
  match ds, hx, e with
  | [.int i, .int j], hx, e =>
    obtain ⟨x, y, rfl, h0, hy⟩ := hx.two
    cases e
    exact ⟨i, j, by rw [h0.intE, hy.intE], k _ P H R1 (Fr.refl _ _ _ _) (show Rep T P _ _ from rep_int) trivial⟩
abbrev max2D := ii fun i j => if j > i then j else i
abbrev min2D := ii fun i j => if j < i then j else i
def gcdI (a b : Int) : Int := ((Nat.gcd a.natAbs b.natAbs : Nat) : Int)
def dInts : List D → Option (List Int)
  | [] => some []
  | .int i :: ds => (dInts ds).map (i :: ·)
  | _ => none
theorem dInts_ok : ∀ {ds : List D} {ns : List Int}, dInts ds = some ns → ds = ns.map D.int
  | [], _, h => by cases h; rfl
  | d :: ds, ns, h => by
    cases d with
    | int i =>
      have h : (dInts ds).map (i :: ·) = some ns := h
      cases e : dInts ds with
      | none => rw [e] at h; cases h
      | some ms => rw [e] at h; cases h; rw [dInts_ok e]; rfl
    | _ => cases h
theorem ints_of : ∀ ns : List Int, dInts (ns.map D.int) = some ns
  | [] => rfl
  | n :: ns => by show (dInts (ns.map D.int)).map (n :: ·) = _; rw [ints_of ns]; rfl
def dBls : List D → Option (List Bool)
  | [] => some []
  | .bl i :: ds => (dBls ds).map (i :: ·)
  | _ => none
theorem bls_ok : ∀ {ds : List D} {ns : List Bool}, dBls ds = some ns → ds = ns.map D.bl
  | [], _, h => by cases h; rfl
  | d :: ds, ns, h => by
    cases d with
    | bl i =>
      have h : (dBls ds).map (i :: ·) = some ns := h
      cases e : dBls ds with
      | none => rw [e] at h; cases h
      | some ms => rw [e] at h; cases h; rw [bls_ok e]; rfl
    | _ => cases h
theorem bls_of : ∀ ns : List Bool, dBls (ns.map D.bl) = some ns
  | [] => rfl
  | n :: ns => by show (dBls (ns.map D.bl)).map (n :: ·) = _; rw [bls_of ns]; rfl
def sumD : List D → Option D | [.lst ds] => (dInts ds).map fun ns => .int ns.sum | _ => none
theorem Rdb.intsE {P H : Hp} {ds : List D} {ns : List Int} {x : V} (R1 : PSub P H) (h : Rdb T P H (.lst ds) x) (e : dInts ds = some ns) : ∃ a, x = .ref a ∧ SqL T.K H a (ns.map V.int) := by
  obtain ⟨a, vs, rfl, h1, h2⟩ := h.lstE R1
  rw [dInts_ok e] at h2
  rw [Reps.ints ns h2] at h1
  exact ⟨a, rfl, .inl h1⟩
theorem Rdb.blsE {P H : Hp} {ds : List D} {ns : List Bool} {x : V} (R1 : PSub P H) (h : Rdb T P H (.lst ds) x) (e : dBls ds = some ns) : ∃ a, x = .ref a ∧ SqL T.K H a (ns.map V.bl) := by
  obtain ⟨a, vs, rfl, h1, h2⟩ := h.lstE R1
  rw [bls_ok e] at h2
  rw [Reps.bls ns h2] at h1
  exact ⟨a, rfl, .inl h1⟩
theorem cd_sum : CallD T (rSum T.K) .pure sumD := fun env σ P H ds xs d Q R1 hx e k => by
  match ds, hx, e with
  | [.lst es], hx, e =>
    obtain ⟨x, rfl, h0⟩ := hx.one
    have e : (dInts es).map (fun ns => D.int ns.sum) = some d := e
    cases q : dInts es with
    | none => rw [q] at e; cases e
    | some ns =>
      rw [q] at e; cases e
      obtain ⟨a, rfl, h⟩ := h0.intsE R1.sub q
      exact ⟨a, ns, rfl, h, k _ P H R1 (Fr.refl _ _ _ _) (show Rep T P _ _ from rep_int) trivial⟩
def anyD : List D → Option D | [.lst ds] => (dBls ds).map fun ns => .bl (ns.any id) | _ => none
def allD : List D → Option D | [.lst ds] => (dBls ds).map fun ns => .bl (ns.all id) | _ => none
theorem cd_any : CallD T (rAny T.K) .pure anyD := fun env σ P H ds xs d Q R1 hx e k => by
  match ds, hx, e with
  | [.lst es], hx, e =>
    obtain ⟨x, rfl, h0⟩ := hx.one
    have e : (dBls es).map (fun ns => D.bl (ns.any id)) = some d := e
    cases q : dBls es with
    | none => rw [q] at e; cases e
    | some ns =>
      rw [q] at e; cases e
      obtain ⟨a, rfl, h⟩ := h0.blsE R1.sub q
      exact ⟨a, ns, rfl, h, k _ P H R1 (Fr.refl _ _ _ _) (show Rep T P _ _ from rep_bl) trivial⟩
theorem cd_all : CallD T (rAll T.K) .pure allD := fun env σ P H ds xs d Q R1 hx e k => by
  match ds, hx, e with
  | [.lst es], hx, e =>
    obtain ⟨x, rfl, h0⟩ := hx.one
    have e : (dBls es).map (fun ns => D.bl (ns.all id)) = some d := e
    cases q : dBls es with
    | none => rw [q] at e; cases e
    | some ns =>
      rw [q] at e; cases e
      obtain ⟨a, rfl, h⟩ := h0.blsE R1.sub q
      exact ⟨a, ns, rfl, h, k _ P H R1 (Fr.refl _ _ _ _) (show Rep T P _ _ from rep_bl) trivial⟩
/-- max(xs), min(xs) of a list of dInts -/
def maxOf : List Int → Int | [] => 0 | x :: xs => xs.foldl (fun a b => if b > a then b else a) x
def minOf : List Int → Int | [] => 0 | x :: xs => xs.foldl (fun a b => if b < a then b else a) x
theorem maxOf_ge : ∀ (xs : List Int) (x : Int), x ≤ xs.foldl (fun a b => if b > a then b else a) x ∧ (∀ y ∈ xs, y ≤ xs.foldl (fun a b => if b > a then b else a) x) ∧ (xs.foldl (fun a b => if b > a then b else a) x = x ∨ xs.foldl (fun a b => if b > a then b else a) x ∈ xs)
  | [], x => ⟨Int.le_refl _, fun _ h => (nomatch h), .inl rfl⟩
  | y :: ys, x => by
    obtain ⟨h1, h2, h3⟩ := maxOf_ge ys (if y > x then y else x)
    rw [List.foldl_cons]
    have hx : x ≤ (if y > x then y else x) := by split <;> omega
    have hy : y ≤ (if y > x then y else x) := by split <;> omega
    refine ⟨Int.le_trans hx h1, fun z hz => ?_, ?_⟩
    · rcases List.mem_cons.mp hz with rfl | hz
      · exact Int.le_trans hy h1
      · exact h2 z hz
    · rcases h3 with h3 | h3
      · rw [h3]
        by_cases c : y > x
        · rw [if_pos c]; exact .inr List.mem_cons_self
        · rw [if_neg c]; exact .inl rfl
      · exact .inr (List.mem_cons_of_mem _ h3)
theorem minOf_le : ∀ (xs : List Int) (x : Int), xs.foldl (fun a b => if b < a then b else a) x ≤ x ∧ (∀ y ∈ xs, xs.foldl (fun a b => if b < a then b else a) x ≤ y) ∧ (xs.foldl (fun a b => if b < a then b else a) x = x ∨ xs.foldl (fun a b => if b < a then b else a) x ∈ xs)
  | [], x => ⟨Int.le_refl _, fun _ h => (nomatch h), .inl rfl⟩
  | y :: ys, x => by
    obtain ⟨h1, h2, h3⟩ := minOf_le ys (if y < x then y else x)
    rw [List.foldl_cons]
    have hx : (if y < x then y else x) ≤ x := by split <;> omega
    have hy : (if y < x then y else x) ≤ y := by split <;> omega
    refine ⟨Int.le_trans h1 hx, fun z hz => ?_, ?_⟩
    · rcases List.mem_cons.mp hz with rfl | hz
      · exact Int.le_trans h1 hy
      · exact h2 z hz
    · rcases h3 with h3 | h3
      · rw [h3]
        by_cases c : y < x
        · rw [if_pos c]; exact .inr List.mem_cons_self
        · rw [if_neg c]; exact .inl rfl
      · exact .inr (List.mem_cons_of_mem _ h3)
def maxLD : List D → Option D | [.lst ds] => (match dInts ds with | some (n :: ns) => some (.int (maxOf (n :: ns))) | _ => none) | _ => none
def minLD : List D → Option D | [.lst ds] => (match dInts ds with | some (n :: ns) => some (.int (minOf (n :: ns))) | _ => none) | _ => none
theorem cd_maxL : CallD T (rMax T.K) .pure maxLD := fun env σ P H ds xs d Q R1 hx e k => by
  match ds, hx, e with
  | [.lst es], hx, e =>
    obtain ⟨x, rfl, h0⟩ := hx.one
    have e : (match dInts es with | some (n :: ns) => some (D.int (maxOf (n :: ns))) | _ => none) = some d := e
    cases q : dInts es with
    | none => rw [q] at e; cases e
    | some ns =>
      rw [q] at e
      obtain ⟨a, rfl, h⟩ := h0.intsE R1.sub q
      cases ns with
      | nil => cases e
      | cons n ns =>
        cases e
        refine ⟨a, _, rfl, h, Nat.succ_pos _, fun m hm hle => ?_⟩
        obtain ⟨h1, h2, h3⟩ := maxOf_ge ns n
        have em : m = maxOf (n :: ns) := by
          have m1 : m ≤ maxOf (n :: ns) := by
            rcases List.mem_cons.mp hm with rfl | hm
            · exact h1
            · exact h2 m hm
          have m2 : maxOf (n :: ns) ≤ m := by
            rcases h3 with h3 | h3
            · rw [show maxOf (n :: ns) = n from h3]; exact hle n List.mem_cons_self
            · exact hle _ (List.mem_cons_of_mem _ h3)
          omega
        rw [em]
        exact k _ P H R1 (Fr.refl _ _ _ _) (show Rep T P _ _ from rep_int) trivial
theorem cd_minL : CallD T (rMin T.K) .pure minLD := fun env σ P H ds xs d Q R1 hx e k => by
  match ds, hx, e with
  | [.lst es], hx, e =>
    obtain ⟨x, rfl, h0⟩ := hx.one
    have e : (match dInts es with | some (n :: ns) => some (D.int (minOf (n :: ns))) | _ => none) = some d := e
    cases q : dInts es with
    | none => rw [q] at e; cases e
    | some ns =>
      rw [q] at e
      obtain ⟨a, rfl, h⟩ := h0.intsE R1.sub q
      cases ns with
      | nil => cases e
      | cons n ns =>
        cases e
        refine ⟨a, _, rfl, h, Nat.succ_pos _, fun m hm hle => ?_⟩
        obtain ⟨h1, h2, h3⟩ := minOf_le ns n
        have em : m = minOf (n :: ns) := by
          have m1 : minOf (n :: ns) ≤ m := by
            rcases List.mem_cons.mp hm with rfl | hm
            · exact h1
            · exact h2 m hm
          have m2 : m ≤ minOf (n :: ns) := by
            rcases h3 with h3 | h3
            · rw [show minOf (n :: ns) = n from h3]; exact hle n List.mem_cons_self
            · exact hle _ (List.mem_cons_of_mem _ h3)
          omega
        rw [em]
        exact k _ P H R1 (Fr.refl _ _ _ _) (show Rep T P _ _ from rep_int) trivial
/-- list(x), tuple(x) -/
def listD : List D → Option D | [.lst ds] => some (.lst ds) | [.tup ds] => some (.lst ds) | _ => none
def tupleD : List D → Option D | [.lst ds] => some (.tup ds) | [.tup ds] => some (.tup ds) | _ => none
theorem cd_list : CallD T (fun xs H Q => ∃ p ys, xs = [.ref p] ∧ (SqL T.K H p ys ∨ SqT T.K H p ys) ∧ ∀ l, H l = none → Q (.ref l) (upd H l (.lst ys))) .fresh listD := fun env σ P H ds xs d Q R1 hx e k => by
  have w : ∀ (es : List D) (x : V) (d0 : D), Rdb T P H d0 x → (d0 = .lst es ∨ d0 = .tup es) → d = .lst es → ∃ p ys, [x] = [V.ref p] ∧ (SqL T.K H p ys ∨ SqT T.K H p ys) ∧ ∀ l, H l = none → Q (.ref l) (upd H l (.lst ys)) := fun es x d0 h hd hd2 => by
    obtain ⟨a, vs, rfl, h1, h2⟩ := h.seqE R1.sub hd
    refine ⟨a, vs, rfl, h1, fun l hl => ?_⟩
    subst hd2
    obtain ⟨R2, F2, no, pn⟩ := R1.newF (o := .lst vs) hl
    exact k _ _ _ R2 F2 ⟨l, _, _, rfl, upd_same, pn, no, h2, rfl⟩ ⟨l, rfl, hl⟩
  match ds, hx, e with
  | [.lst es], hx, e => obtain ⟨x, rfl, h0⟩ := hx.one; cases e; exact w es x _ h0 (.inl rfl) rfl
  | [.tup es], hx, e => obtain ⟨x, rfl, h0⟩ := hx.one; cases e; exact w es x _ h0 (.inr rfl) rfl
theorem cd_tuple : CallD T (fun xs H Q => ∃ p ys, xs = [.ref p] ∧ ((SqL T.K H p ys ∧ ∀ l, H l = none → Q (.ref l) (upd H l (.tup ys))) ∨ (SqT T.K H p ys ∧ Q (.ref p) H))) .pure tupleD := fun env σ P H ds xs d Q R1 hx e k => by
  match ds, hx, e with
  | [.lst es], hx, e =>
    obtain ⟨x, rfl, h0⟩ := hx.one
    cases e
    obtain ⟨a, vs, rfl, h1, h2⟩ := h0.lstE R1.sub
    refine ⟨a, vs, rfl, .inl ⟨.inl h1, fun l hl => ?_⟩⟩
    obtain ⟨R2, F2⟩ := R1.newP (o := .tup vs) hl
    exact k _ _ _ R2 F2 (rep_tup upd_same (Reps.sub F2.mono _ _ h2)) trivial
  | [.tup es], hx, e =>
    obtain ⟨x, rfl, h0⟩ := hx.one
    cases e
    have repx : Rep T P (.tup es) x := h0.elim id fun ⟨_, _, _, _, _, _, q⟩ => nomatch q
    obtain ⟨a, vs, rfl, h1, h2⟩ := h0.tupE R1.sub
    exact ⟨a, vs, rfl, .inr ⟨h1, k _ P H R1 (Fr.refl _ _ _ _) repx trivial⟩⟩
/-- sorted(xs) of dInts -/
def insI (x : Int) : List Int → List Int | [] => [x] | y :: ys => if x ≤ y then x :: y :: ys else y :: insI x ys
def sortI : List Int → List Int | [] => [] | x :: xs => insI x (sortI xs)
theorem insI_perm (x : Int) : ∀ ys, (insI x ys).Perm (x :: ys)
  | [] => .refl _
  | y :: ys => by
    unfold insI
    by_cases h : x ≤ y
    · rw [if_pos h]
    · rw [if_neg h]; exact ((insI_perm x ys).cons y).trans (List.Perm.swap x y ys)
theorem sortI_perm : ∀ xs, (sortI xs).Perm xs
  | [] => .refl _
  | x :: xs => (insI_perm x _).trans ((sortI_perm xs).cons x)
theorem insI_sorted (x : Int) : ∀ ys, ys.Pairwise (· ≤ ·) → (insI x ys).Pairwise (· ≤ ·)
  | [], _ => by simp [insI]
  | y :: ys, h => by
    obtain ⟨h1, h2⟩ := List.pairwise_cons.mp h
    unfold insI
    by_cases c : x ≤ y
    · rw [if_pos c]
      refine List.pairwise_cons.mpr ⟨fun z hz => ?_, h⟩
      rcases List.mem_cons.mp hz with rfl | hz
      · exact c
      · exact Int.le_trans c (h1 z hz)
    · rw [if_neg c]
      refine List.pairwise_cons.mpr ⟨fun z hz => ?_, insI_sorted x ys h2⟩
      rcases List.mem_cons.mp ((insI_perm x ys).mem_iff.mp hz) with rfl | hz
      · omega
      · exact h1 z hz
theorem sortI_sorted : ∀ xs, (sortI xs).Pairwise (· ≤ ·)
  | [] => .nil
  | x :: xs => insI_sorted x _ (sortI_sorted xs)
theorem sorted_uniq : ∀ {xs ys : List Int}, xs.Perm ys → xs.Pairwise (· ≤ ·) → ys.Pairwise (· ≤ ·) → xs = ys := fun h h1 h2 => List.Perm.eq_of_pairwise (fun _ _ _ _ a b => Int.le_antisymm a b) h1 h2 h
def sortedD : List D → Option D | [.lst ds] => (dInts ds).map fun ns => .lst ((sortI ns).map D.int) | _ => none
theorem cd_sorted : CallD T (rSortedI T.K) .fresh sortedD := fun env σ P H ds xs d Q R1 hx e k => by
  match ds, hx, e with
  | [.lst es], hx, e =>
    obtain ⟨x, rfl, h0⟩ := hx.one
    have e : (dInts es).map (fun ns => D.lst ((sortI ns).map D.int)) = some d := e
    cases q : dInts es with
    | none => rw [q] at e; cases e
    | some ns =>
      rw [q] at e; cases e
      obtain ⟨a, rfl, h⟩ := h0.intsE R1.sub q
      refine ⟨a, ns, rfl, h, fun ns' p hp hs hf => ?_⟩
      have : ns' = sortI ns := sorted_uniq (hp.trans (sortI_perm ns).symm) hs (sortI_sorted ns)
      subst this
      obtain ⟨R2, F2, no, pn⟩ := R1.newF (o := .lst ((sortI ns).map V.int)) hf
      exact k _ _ _ R2 F2 ⟨p, _, _, rfl, upd_same, pn, no, Reps.ofInts _, rfl⟩ ⟨p, rfl, hf⟩
end
end Ue

set_option linter.all false
set_option Elab.async false
set_option maxRecDepth 100000
set_option maxHeartbeats 4000000
namespace Ue
open PySem L2

/-- how a statement ends -/
inductive SR where
  | nx (e : Env) | brk (e : Env) | cnt (e : Env) | ret (d : D) (e : Env) | exc (c : Nat) (fs : List D) (e : Env) | stk
abbrev MS := Env → SR
def R.toS {α : Type} (r : R α) (f : α → Env → SR) : SR :=
  match r with
  | .ok a e => f a e
  | .exc c fs e => .exc c fs e
  | .stk => .stk
/-- a list that was not there, or was a slot's own, ahead of the statement -/
def NewW (k : Kd) (env : Env) (σ : L2.St) (H : Hp) (x : V) : Prop :=
  match k with
  | .fresh => ∃ a, x = .ref a ∧ (H a = none ∨ Own env σ a)
  | _ => True
theorem NewV.w {k : Kd} {env : Env} {σ : L2.St} {H : Hp} {x : V} (h : NewV k H x) : NewW k env σ H x := by
  cases k with
  | fresh => obtain ⟨a, e, h⟩ := h; exact ⟨a, e, .inl h⟩
  | _ => trivial
theorem NewW.back {k : Kd} {env env' : Env} {σ σ' : L2.St} {P P' H H' : Hp} {x : V} (f : Fr env σ P H env' σ' P' H') (h : NewW k env' σ' H' x) : NewW k env σ H x := by
  cases k with
  | fresh =>
    obtain ⟨a, e, h⟩ := h
    refine ⟨a, e, ?_⟩
    rcases h with h | h
    · exact .inl (Classical.byContradiction fun z => f.there a z h)
    · rcases Classical.em (H a = none) with z | z
      · exact .inl z
      · exact .inr (Classical.byContradiction fun n => f.own a z n h)
  | _ => trivial
def FrP (pins : List Nat) (σ σ' : L2.St) : Prop := ∀ i ∈ pins, σ'[i]? = σ[i]?
section
variable (T : Tab) (W : WX) (kr : Kd) (pins : List Nat)
def AfterS (env : Env) (σ : L2.St) (P H : Hp) (r : SR) (D : Ends) : Prop :=
  match r with
  | .nx env' => ∀ σ' P' H', Rel T env' σ' P' H' → Fr env σ P H env' σ' P' H' → FrP pins σ σ' → D.nx σ' H'
  | .brk env' => ∀ σ' P' H', Rel T env' σ' P' H' → Fr env σ P H env' σ' P' H' → FrP pins σ σ' → D.bk σ' H'
  | .cnt env' => ∀ σ' P' H', Rel T env' σ' P' H' → Fr env σ P H env' σ' P' H' → FrP pins σ σ' → D.ct σ' H'
  | .ret d env' => ∀ σ' P' H' x, Rel T env' σ' P' H' → Fr env σ P H env' σ' P' H' → FrP pins σ σ' → KRep T kr env' σ' P' H' d x → NewW kr env σ H x → D.rt x H'
  | .exc c fs env' => ∀ σ' P' H' cls dd, Rel T env' σ' P' H' → Fr env σ P H env' σ' P' H' → FrP pins σ σ' → ExRep T P' H' c fs cls dd → W cls dd σ' H'
  | .stk => False
def rdS (m : MS) : TS := fun D σ H => ∃ env P, Rel T env σ P H ∧ AfterS T W kr pins env σ P H (m env) D
def DS (X : Cx) (st : Stmt) (m : MS) : Prop := PS X st (rdS T W kr pins m)
def DSs (X : Cx) (st : List Stmt) (m : MS) : Prop := PSs X st (rdS T W kr pins m)
end
section
variable {T : Tab} {W : WX} {kr : Kd} {pins : List Nat} {env env' : Env} {σ σ' : L2.St} {P H P' H' : Hp} {X : Cx} {pos : Pos}
theorem FrP.refl : FrP pins σ σ := fun _ _ => rfl
theorem FrP.trans {σ'' : L2.St} (h : FrP pins σ σ') (k : FrP pins σ' σ'') : FrP pins σ σ'' := fun i hi => (k i hi).trans (h i hi)
theorem AfterS.ofR {α : Type} {r : R α} {f : α → Env → SR} {D : Ends} (h : AfterS T W kr pins env σ P H (r.toS f) D) : After T W σ env P H r (fun a env1 P1 H1 => AfterS T W kr pins env1 σ P1 H1 (f a env1) D) := by
  cases r with
  | ok a env1 =>
    intro P1 H1 R1 F1
    have h : AfterS T W kr pins env σ P H (f a env1) D := h
    show AfterS T W kr pins env1 σ P1 H1 (f a env1) D
    cases e : f a env1 with
    | nx e2 => rw [e] at h; intro σ2 P2 H2 R2 F2 p2; exact h σ2 P2 H2 R2 (F1.trans F2) p2
    | brk e2 => rw [e] at h; intro σ2 P2 H2 R2 F2 p2; exact h σ2 P2 H2 R2 (F1.trans F2) p2
    | cnt e2 => rw [e] at h; intro σ2 P2 H2 R2 F2 p2; exact h σ2 P2 H2 R2 (F1.trans F2) p2
    | ret d e2 => rw [e] at h; intro σ2 P2 H2 x R2 F2 p2 k n; exact h σ2 P2 H2 x R2 (F1.trans F2) p2 k (n.back F1)
    | exc c fs e2 => rw [e] at h; intro σ2 P2 H2 cls dd R2 F2 p2 k; exact h σ2 P2 H2 cls dd R2 (F1.trans F2) p2 k
    | stk => rw [e] at h; exact h
  | exc c fs env1 => exact fun P1 H1 cls dd R1 F1 x => h σ P1 H1 cls dd R1 F1 FrP.refl x
  | stk => exact h
/-- a step ahead -/
theorem AfterS.step {r : SR} {D : Ends} (h : AfterS T W kr pins env σ P H r D) (F1 : Fr env σ P H env' σ' P' H') (p1 : FrP pins σ σ') : AfterS T W kr pins env' σ' P' H' r D := by
  cases r with
  | nx e2 => intro σ2 P2 H2 R2 F2 p2; exact h σ2 P2 H2 R2 (F1.trans F2) (p1.trans p2)
  | brk e2 => intro σ2 P2 H2 R2 F2 p2; exact h σ2 P2 H2 R2 (F1.trans F2) (p1.trans p2)
  | cnt e2 => intro σ2 P2 H2 R2 F2 p2; exact h σ2 P2 H2 R2 (F1.trans F2) (p1.trans p2)
  | ret d e2 => intro σ2 P2 H2 x R2 F2 p2 k n; exact h σ2 P2 H2 x R2 (F1.trans F2) (p1.trans p2) k (n.back F1)
  | exc c fs e2 => intro σ2 P2 H2 cls dd R2 F2 p2 k; exact h σ2 P2 H2 cls dd R2 (F1.trans F2) (p1.trans p2) k
  | stk => exact h
def seqM (a b : MS) : MS := fun env => match a env with | .nx e => b e | r => r
theorem AfterS.seq {a b : MS} {D : Ends} (h : AfterS T W kr pins env σ P H (seqM a b env) D) : AfterS T W kr pins env σ P H (a env) { D with nx := rdS T W kr pins b D } := by
  unfold seqM at h
  cases e : a env with
  | nx e2 => rw [e] at h; intro σ2 P2 H2 R2 F2 p2; exact ⟨e2, P2, R2, AfterS.step h F2 p2⟩
  | brk e2 => rw [e] at h; exact h
  | cnt e2 => rw [e] at h; exact h
  | ret d e2 => rw [e] at h; exact h
  | exc c fs e2 => rw [e] at h; exact h
  | stk => rw [e] at h; exact h
def nilM : MS := fun env => .nx env
theorem dss_nil : DSs T W kr pins X [] nilM := pss_imp pss_nil fun D σ H h => by
  obtain ⟨env, P, RR, h⟩ := h
  exact h σ P H RR (Fr.refl _ _ _ _) FrP.refl
theorem dss_cons {st : Stmt} {rest : List Stmt} {a b : MS} (h1 : DS T W kr pins X st a) (h2 : DSs T W kr pins X rest b) : DSs T W kr pins X (st :: rest) (seqM a b) := pss_imp (pss_cons h1 h2) fun D σ H h => by
  obtain ⟨env, P, RR, h⟩ := h
  exact ⟨env, P, RR, h.seq⟩
theorem dss_one {st : Stmt} {a : MS} (h1 : DS T W kr pins X st a) : DSs T W kr pins X [st] a := pss_one h1
/-! ### plain statements -/
theorem ds_pass : DS T W kr pins X (.Pass pos) nilM := ps_imp ps_pass fun D σ H h => by
  obtain ⟨env, P, RR, h⟩ := h
  exact h σ P H RR (Fr.refl _ _ _ _) FrP.refl
def brkM : MS := fun env => .brk env
def cntM : MS := fun env => .cnt env
theorem ds_break : DS T W kr pins X (.Break pos) brkM := ps_imp ps_break fun D σ H h => by
  obtain ⟨env, P, RR, h⟩ := h
  exact h σ P H RR (Fr.refl _ _ _ _) FrP.refl
theorem ds_continue : DS T W kr pins X (.Continue pos) cntM := ps_imp ps_continue fun D σ H h => by
  obtain ⟨env, P, RR, h⟩ := h
  exact h σ P H RR (Fr.refl _ _ _ _) FrP.refl
def retM (m : M) : MS := fun env => (m env).toS fun d e => .ret d e
theorem ds_ret {e : Expr} {m : M} (h : DE T W X e kr m) : DS T W kr pins X (.Return (some e) pos) (retM m) := ps_imp (ps_ret h) fun D σ H h => by
  obtain ⟨env, P, RR, h⟩ := h
  refine ⟨env, P, RR, ?_⟩
  unfold retM at h
  cases e1 : m env with
  | ok d env1 => rw [e1] at h; exact fun P1 H1 R1 F1 x kx nx => h σ P1 H1 x R1 F1 FrP.refl kx nx.w
  | exc c fs env1 => rw [e1] at h; exact fun P1 H1 cls dd R1 F1 q => h σ P1 H1 cls dd R1 F1 FrP.refl q
  | stk => rw [e1] at h; exact h
/-- the own list of a slot is handed back -/
def retOM (i : Nat) : MS := fun env => match env[i]? with | some (some (.own ds)) => .ret (.lst ds) (env.set i none) | _ => .stk
theorem Rel.take {i : Nat} {ds : List D} (RR : Rel T env σ P H) (e : env[i]? = some (some (.own ds))) : ∃ a vs, σ[i]? = some (some (V.ref a)) ∧ H a = some (.lst vs) ∧ P a = none ∧ Reps T P ds vs ∧ Own env σ a ∧ ¬ Own (env.set i none) σ a ∧ Rel T (env.set i none) σ P H ∧ Fr env σ P H (env.set i none) σ P H := by
  obtain ⟨u, hu, r⟩ := RR.ent i _ e
  obtain ⟨a, vs, rfl, h1, h2, h3⟩ := r
  have key : ∀ (j : Nat) (f : EV), (env.set i none)[j]? = some (some f) → j ≠ i ∧ env[j]? = some (some f) := fun j f h => by
    by_cases q : j = i
    · subst q; rw [set_get e] at h; cases h
    · rw [List.getElem?_set_ne (fun z => q z.symm)] at h; exact ⟨q, h⟩
  have sub : ∀ b, Own (env.set i none) σ b → Own env σ b := fun b ⟨j, f, q1, q2, q3⟩ => ⟨j, f, (key j f q1).2, q2, q3⟩
  refine ⟨a, vs, hu, h1, h2, h3, ⟨i, _, e, rfl, hu⟩, fun ⟨j, f, q1, q2, q3⟩ => ?_, ⟨RR.sub, fun j f h => RR.ent j f (key j f h).2, fun j l f g b n q1 q2 => RR.dis j l f g b n (key j f q1).2 (key l g q2).2, by rw [List.length_set]; exact RR.len⟩, fun b o h _ => h, fun b _ n z => n (sub b z), PSub.refl _, fun b h => .inl h, fun b h => h⟩
  obtain ⟨n, q⟩ := key j f q1
  exact RR.dis j i f _ a n q e q2 rfl q3 hu
theorem ds_retO {i : Nat} {x : Str} {p : Pos} (h : PE X (.Name x p) (tVar i)) : DS T W .fresh pins X (.Return (some (.Name x p)) pos) (retOM i) := ps_imp (ps_ret h) fun D σ H h => by
  obtain ⟨env, P, RR, h⟩ := h
  unfold retOM at h
  cases e : env[i]? with
  | none => rw [e] at h; exact False.elim h
  | some o =>
    cases o with
    | none => rw [e] at h; exact False.elim h
    | some v =>
      cases v with
      | own ds =>
        rw [e] at h
        obtain ⟨a, vs, hu, h1, h2, h3, o1, o2, R2, F2⟩ := RR.take e
        exact ⟨_, hu, h σ P H _ R2 F2 FrP.refl ⟨a, vs, ds, rfl, h1, h2, o2, h3, rfl⟩ ⟨a, rfl, .inr o1⟩⟩
      | _ => rw [e] at h; exact False.elim h
def retNM : MS := fun env => .ret .non env
theorem ds_retN : DS T W .pure pins X (.Return none pos) retNM := ps_imp ps_retN fun D σ H h => by
  obtain ⟨env, P, RR, h⟩ := h
  exact h σ P H .non RR (Fr.refl _ _ _ _) FrP.refl (show Rep T P .non .non from rep_non) trivial
def exprM (m : M) : MS := fun env => (m env).toS fun _ e => .nx e
theorem ds_expr {e : Expr} {m : M} {k : Kd} (h : DE T W X e k m) (hs : swapsWith e none pos.line X.env = pure false := by rfl) : DS T W kr pins X (.Expr e pos) (exprM m) := ps_imp (ps_expr h hs) fun D σ H h => by
  obtain ⟨env, P, RR, h⟩ := h
  exact ⟨env, P, RR, After.mono h.ofR fun d env1 P1 H1 R1 F1 h1 x kx nx => h1 σ P1 H1 R1 (Fr.refl _ _ _ _) FrP.refl⟩
theorem ds_doc {x : Str} {j : Nat} {pos' : Pos} : DS T W kr pins X (.Expr (.Constant (.str x) j pos) pos') nilM := ps_imp ps_doc fun D σ H h => by
  obtain ⟨env, P, RR, h⟩ := h
  exact h σ P H RR (Fr.refl _ _ _ _) FrP.refl
/-! ### a slot is set -/
theorem Rel.setV {i : Nat} {d : D} {x : V} (RR : Rel T env σ P H) (hx : Rep T P d x) : Rel T (env.set i (some (.v d))) (σ.set i (some x)) P H ∧ Fr env σ P H (env.set i (some (.v d))) (σ.set i (some x)) P H := by
  have key : ∀ (j : Nat) (e : EV), (env.set i (some (.v d)))[j]? = some (some e) → (j = i ∧ e = .v d ∧ (σ.set i (some x))[j]? = some (some x)) ∨ (j ≠ i ∧ env[j]? = some (some e) ∧ (σ.set i (some x))[j]? = σ[j]?) := fun j e h => by
    by_cases q : j = i
    · subst q
      by_cases hj : j < env.length
      · rw [List.getElem?_set_self hj] at h
        cases h
        exact .inl ⟨rfl, rfl, List.getElem?_set_self (by rw [← RR.len]; exact hj)⟩
      · rw [List.getElem?_eq_none (by simpa using hj)] at h; cases h
    · rw [List.getElem?_set_ne (fun z => q z.symm)] at h
      exact .inr ⟨q, h, List.getElem?_set_ne (fun z => q z.symm)⟩
  refine ⟨⟨RR.sub, fun j e h => ?_, fun j l e f a n h1 h2 o1 o2 s1 s2 => ?_, by rw [List.length_set, List.length_set]; exact RR.len⟩, fun b o h _ => h, fun b hb n z => ?_, PSub.refl _, fun b h => .inl h, fun b h => h⟩
  · rcases key j e h with ⟨rfl, rfl, q⟩ | ⟨_, q1, q2⟩
    · exact ⟨x, q, hx⟩
    · rw [q2]; exact RR.ent j e q1
  · rcases key j e h1 with ⟨_, rfl, _⟩ | ⟨_, q1, q2⟩
    · cases o1
    · rcases key l f h2 with ⟨_, rfl, _⟩ | ⟨_, q3, q4⟩
      · cases o2
      · rw [q2] at s1; rw [q4] at s2
        exact RR.dis j l e f a n q1 q3 o1 o2 s1 s2
  · obtain ⟨j, e, h1, h2, h3⟩ := z
    rcases key j e h1 with ⟨_, rfl, _⟩ | ⟨_, q1, q2⟩
    · cases h2
    · rw [q2] at h3; exact n ⟨j, e, q1, h2, h3⟩
theorem FrP.set {i : Nat} {v : Option V} (hi : i ∉ pins) : FrP pins σ (σ.set i v) := fun j hj => List.getElem?_set_ne (fun z => hi (by rw [z]; exact hj))
def setM (i : Nat) (m : M) : MS := fun env => (m env).toS fun d e => .nx (e.set i (some (.v d)))
theorem rd_set {i : Nat} {m : M} {D : Ends} (hi : i ∉ pins) (h : rdS T W kr pins (setM i m) D σ H) : tAsg (rdE T W .pure m) (gName i) D σ H := by
  obtain ⟨env, P, RR, h⟩ := h
  refine ⟨env, P, RR, After.mono h.ofR fun d env1 P1 H1 R1 F1 h1 x kx nx => ?_⟩
  obtain ⟨R2, F2⟩ := R1.setV (i := i) (d := d) (x := x) kx
  exact h1 _ P1 H1 R2 F2 (FrP.set hi)
theorem ds_set {i : Nat} {x : Str} {e : Expr} {m : M} {pos' : Pos} (h : DE T W X e .pure m) (hN : X.N.Nodup) (hi : X.N[i]? = some x) (hx : Loc X.env.scope x) (hp : i ∉ pins := by decide) (hs : swapsWith e (some (.Name x pos')) pos.line X.env = pure false := by rfl)
    (hf : X.fn x = true ∨ X.env.scope.names.lookup x = some .local := by first | exact .inl rfl | exact .inr rfl | assumption) : DS T W kr pins X (.Assign [.Name x pos'] e pos) (setM i m) :=
  ps_imp (ps_set hN hi hx h hs hf) fun _ _ _ h => rd_set hp h
/-- a new list becomes a slot's own -/
theorem Rel.setO {i : Nat} {ds : List D} {a : Addr} {vs : List V} (RR : Rel T env σ P H) (h1 : H a = some (.lst vs)) (h2 : P a = none) (h3 : ¬ Own env σ a) (h4 : Reps T P ds vs) : Rel T (env.set i (some (.own ds))) (σ.set i (some (.ref a))) P H := by
  have key : ∀ (j : Nat) (e : EV), (env.set i (some (.own ds)))[j]? = some (some e) → (j = i ∧ e = .own ds ∧ (σ.set i (some (.ref a)))[j]? = some (some (.ref a))) ∨ (j ≠ i ∧ env[j]? = some (some e) ∧ (σ.set i (some (.ref a)))[j]? = σ[j]?) := fun j e h => by
    by_cases q : j = i
    · subst q
      by_cases hj : j < env.length
      · rw [List.getElem?_set_self hj] at h
        cases h
        exact .inl ⟨rfl, rfl, List.getElem?_set_self (by rw [← RR.len]; exact hj)⟩
      · rw [List.getElem?_eq_none (by simpa using hj)] at h; cases h
    · rw [List.getElem?_set_ne (fun z => q z.symm)] at h
      exact .inr ⟨q, h, List.getElem?_set_ne (fun z => q z.symm)⟩
  refine ⟨RR.sub, fun j e h => ?_, fun j l e f b n g1 g2 o1 o2 s1 s2 => ?_, by rw [List.length_set, List.length_set]; exact RR.len⟩
  · rcases key j e h with ⟨rfl, rfl, q⟩ | ⟨_, q1, q2⟩
    · exact ⟨_, q, a, vs, rfl, h1, h2, h4⟩
    · rw [q2]; exact RR.ent j e q1
  · rcases key j e g1 with ⟨e1, rfl, q0⟩ | ⟨_, q1, q2⟩
    · rcases key l f g2 with ⟨e2, rfl, _⟩ | ⟨_, q3, q4⟩
      · exact n (e1.trans e2.symm)
      · rw [q0] at s1; cases s1
        rw [q4] at s2
        exact h3 ⟨l, f, q3, o2, s2⟩
    · rcases key l f g2 with ⟨_, rfl, q0⟩ | ⟨_, q3, q4⟩
      · rw [q0] at s2; cases s2
        rw [q2] at s1
        exact h3 ⟨j, e, q1, o1, s1⟩
      · rw [q2] at s1; rw [q4] at s2
        exact RR.dis j l e f b n q1 q3 o1 o2 s1 s2
theorem Own.of_setO {i : Nat} {ds : List D} {a b : Addr} (h : Own (env.set i (some (.own ds))) (σ.set i (some (.ref a))) b) : b = a ∨ Own env σ b := by
  obtain ⟨j, e, h1, h2, h3⟩ := h
  by_cases q : j = i
  · subst q
    by_cases hj : j < σ.length
    · rw [List.getElem?_set_self hj] at h3; cases h3; exact .inl rfl
    · rw [List.getElem?_eq_none (by simpa using hj)] at h3; cases h3
  · rw [List.getElem?_set_ne (fun z => q z.symm)] at h1 h3
    exact .inr ⟨j, e, h1, h2, h3⟩
def setOM (i : Nat) (m : M) : MS := fun env => (m env).toS fun d e => match d with | .lst ds => .nx (e.set i (some (.own ds))) | _ => .stk
theorem rd_setO {i : Nat} {m : M} {D : Ends} (hi : i ∉ pins) (h : rdS T W kr pins (setOM i m) D σ H) : tAsg (rdE T W .fresh m) (gName i) D σ H := by
  obtain ⟨env, P, RR, h⟩ := h
  refine ⟨env, P, RR, ?_⟩
  unfold setOM at h
  cases e1 : m env with
  | ok d env1 =>
    rw [e1] at h
    intro P1 H1 R1 F1 x kx nx
    obtain ⟨a, vs, ds, rfl, h1, h2, h3, h4, rfl⟩ := kx
    obtain ⟨a', e', ha⟩ := nx
    cases e'
    refine h _ P1 H1 (R1.setO h1 h2 h3 h4) ⟨F1.keep, fun b hb n z => ?_, F1.mono, F1.new, F1.there⟩ (FrP.set hi)
    rcases z.of_setO with rfl | z
    · exact hb ha
    · exact F1.own b hb n z
  | exc c fs env1 => rw [e1] at h; exact fun P1 H1 cls dd R1 F1 q => h σ P1 H1 cls dd R1 F1 FrP.refl q
  | stk => rw [e1] at h; exact h
theorem ds_setO {i : Nat} {x : Str} {e : Expr} {m : M} {pos' : Pos} (h : DE T W X e .fresh m) (hN : X.N.Nodup) (hi : X.N[i]? = some x) (hx : Loc X.env.scope x) (hp : i ∉ pins := by decide) (hs : swapsWith e (some (.Name x pos')) pos.line X.env = pure false := by rfl)
    (hf : X.fn x = true ∨ X.env.scope.names.lookup x = some .local := by first | exact .inl rfl | exact .inr rfl | assumption) : DS T W kr pins X (.Assign [.Name x pos'] e pos) (setOM i m) :=
  ps_imp (ps_set hN hi hx h hs hf) fun _ _ _ h => rd_setO hp h
/-! ### if, while -/
def iffM (t : MT) (a b : MS) : MS := fun env => (t env).toS fun c e => if c then a e else b e
theorem ds_if {c : Expr} {a b : List Stmt} {t : MT} {ma mb : MS} (hc : DT T W X c t) (ha : DSs T W kr pins X a ma) (hb : DSs T W kr pins X b mb) : DS T W kr pins X (.If c a b pos) (iffM t ma mb) := ps_imp (ps_if hc ha hb) fun D σ H h => by
  obtain ⟨env, P, RR, h⟩ := h
  refine ⟨env, P, RR, After.mono h.ofR fun d env1 P1 H1 R1 F1 h1 => ?_⟩
  cases d with
  | true => exact iteT ⟨env1, P1, R1, h1⟩
  | false => exact iteF ⟨env1, P1, R1, h1⟩
def loopS (r : SR) (k : MS) : SR := match r with | .nx e => k e | .cnt e => k e | .brk e => .nx e | r => r
def whileM (t : MT) (b : MS) : Nat → MS
  | 0 => fun _ => .stk
  | n + 1 => fun env => (t env).toS fun c e => if c then loopS (b e) (whileM t b n) else .nx e
theorem AfterS.loop {r : SR} {k : MS} {D : Ends} (h : AfterS T W kr pins env σ P H (loopS r k) D) :
    AfterS T W kr pins env σ P H r { D with nx := fun σ' H' => ∃ e P', Rel T e σ' P' H' ∧ PSub P P' ∧ AfterS T W kr pins e σ' P' H' (k e) D, ct := fun σ' H' => ∃ e P', Rel T e σ' P' H' ∧ PSub P P' ∧ AfterS T W kr pins e σ' P' H' (k e) D, bk := D.nx } := by
  cases r with
  | nx e => intro σ2 P2 H2 R2 F2 p2; exact ⟨e, P2, R2, F2.mono, AfterS.step h F2 p2⟩
  | cnt e => intro σ2 P2 H2 R2 F2 p2; exact ⟨e, P2, R2, F2.mono, AfterS.step h F2 p2⟩
  | brk e => exact h
  | ret d e => exact h
  | exc c fs e => exact h
  | stk => exact h
theorem AfterS.imp {r : SR} {D D' : Ends} (h : AfterS T W kr pins env σ P H r D) (k1 : ∀ σ H, D.nx σ H → D'.nx σ H) (k2 : ∀ σ H, D.bk σ H → D'.bk σ H) (k3 : ∀ σ H, D.ct σ H → D'.ct σ H) (k4 : ∀ x H, D.rt x H → D'.rt x H) : AfterS T W kr pins env σ P H r D' := by
  cases r with
  | nx e => exact fun σ2 P2 H2 R2 F2 p2 => k1 _ _ (h σ2 P2 H2 R2 F2 p2)
  | brk e => exact fun σ2 P2 H2 R2 F2 p2 => k2 _ _ (h σ2 P2 H2 R2 F2 p2)
  | cnt e => exact fun σ2 P2 H2 R2 F2 p2 => k3 _ _ (h σ2 P2 H2 R2 F2 p2)
  | ret d e => exact fun σ2 P2 H2 x R2 F2 p2 q n => k4 _ _ (h σ2 P2 H2 x R2 F2 p2 q n)
  | exc c fs e => exact h
  | stk => exact h
theorem ds_while {c : Expr} {b : List Stmt} {t : MT} {mb : MS} (N : Nat) (hp : PassesOwn (model X.prog X.w) X.A X.env X.xe) (hc : DT T W X c t) (hb : DSs T W kr pins X b mb) : DS T W kr pins X (.While c b [] pos) (whileM t mb N) := ps_imp (ps_while hp hc hb) fun D σ H h => by
  obtain ⟨env, P, RR, h⟩ := h
  refine ⟨fun m σ H => ∃ e P, Rel T e σ P H ∧ AfterS T W kr pins e σ P H (whileM t mb m e) D, ⟨N, env, P, RR, h⟩, fun m σ H hW => ?_⟩
  obtain ⟨env, P, RR, h⟩ := hW
  cases m with
  | zero => exact False.elim h
  | succ m =>
    refine ⟨env, P, RR, After.mono h.ofR fun d env1 P1 H1 R1 F1 h1 => ?_⟩
    cases d with
    | true =>
      refine iteT ⟨fun σ' H' => ∃ e P', Rel T e σ' P' H' ∧ PSub P1 P' ∧ AfterS T W kr pins e σ' P' H' (whileM t mb m e) D, fun σ' H' q => ⟨m, Nat.lt_succ_self m, ?_⟩, env1, P1, R1, AfterS.loop h1⟩
      obtain ⟨e, P', q1, _, q2⟩ := q
      exact ⟨e, P', q1, q2⟩
    | false => exact iteF (h1 σ P1 H1 R1 (Fr.refl _ _ _ _) FrP.refl)
end
end Ue

set_option linter.all false
set_option Elab.async false
set_option maxRecDepth 100000
set_option maxHeartbeats 4000000
namespace Ue
open PySem L2

/-! ### what is walked -/
def Grow1 (P H P' H' : Hp) : Prop := (P' = P ∧ H' = H) ∨ ∃ p o, H p = none ∧ P' = upd P p o ∧ H' = upd H p o
def Yl (T : Tab) (J : It) (P0 : Hp) (ds : List D) : Prop := ∀ P H, PSub P0 P → PSub P H →
  (∀ i d, ds[i]? = some d → J.go i H ∧ ∀ x H', J.yld i H x H' → ∃ P', Rep T P' d x ∧ Grow1 P H P' H') ∧ (∀ i, ds.length ≤ i → J.stop i H)
abbrev MI := Env → R (List D)
def rdI (T : Tab) (W : WX) (m : MI) : TI := fun σ H Q => ∃ env P, Rel T env σ P H ∧ After T W σ env P H (m env) (fun ds env' P' H' => ∀ J, Yl T J P' ds → Q J H')
def DI (T : Tab) (W : WX) (X : Cx) (tg iter : Expr) (m : MI) : Prop := PI X tg iter (rdI T W m)
theorem pi_imp {X : Cx} {tg e : Expr} {t t' : TI} (h : PI X tg e t) (k : ∀ σ H Q, t' σ H Q → t σ H Q) : PI X tg e t' := ⟨fun pins s σ H Q I q => h.run pins s σ H Q I (k σ H Q q)⟩
section
variable {T : Tab} {W : WX} {kr : Kd} {pins : List Nat} {env env' : Env} {σ σ' : L2.St} {P H P' H' : Hp} {X : Cx} {pos : Pos} {tg e : Expr}
theorem Rel.grow1 (RR : Rel T env σ P H) (g : Grow1 P H P' H') : Rel T env σ P' H' ∧ Fr env σ P H env σ P' H' := by
  rcases g with ⟨rfl, rfl⟩ | ⟨p, o, hp, rfl, rfl⟩
  · exact ⟨RR, Fr.refl _ _ _ _⟩
  · exact RR.newP hp
def asL (m : M) : MI := fun env => (m env).bind fun d e => match d with | .lst ds => .ok ds e | _ => .stk
def asT (m : M) : MI := fun env => (m env).bind fun d e => match d with | .tup ds => .ok ds e | _ => .stk
theorem yl_list {a : Addr} {vs : List V} {ds : List D} {K : PySem.W.Frag} (hK : K = T.K) (h : Rd P a (.lst vs)) (r : Reps T P ds vs) (inj : True) : Yl T (Itl K a) P ds := fun P1 H1 s1 s2 => by
  have q : SqL K H1 a vs := .inl (Rd.sub s2 (Rd.sub s1 h))
  refine ⟨fun i d hd => ?_, fun i hi => ⟨vs, q, by rw [r.length]; exact hi⟩⟩
  obtain ⟨v, hv, rv⟩ := r.get hd
  refine ⟨⟨vs, v, q, hv⟩, fun x H' y => ?_⟩
  obtain ⟨rfl, y⟩ := y
  have := y vs q
  rw [hv] at this; cases this
  exact ⟨P1, Rep.sub s1 _ _ rv, .inl ⟨rfl, rfl⟩⟩
theorem yl_tup {a : Addr} {vs : List V} {ds : List D} {K : PySem.W.Frag} (hK : K = T.K) (h : SqT T.K P a vs) (r : Reps T P ds vs) : Yl T (Itt K a) P ds := fun P1 H1 s1 s2 => by
  subst hK
  have q : SqT T.K H1 a vs := sqT_sub s2 (sqT_sub s1 h)
  refine ⟨fun i d hd => ?_, fun i hi => ⟨vs, q, by rw [r.length]; exact hi⟩⟩
  obtain ⟨v, hv, rv⟩ := r.get hd
  refine ⟨⟨vs, v, q, hv⟩, fun x H' y => ?_⟩
  obtain ⟨rfl, y⟩ := y
  have := y vs q
  rw [hv] at this; cases this
  exact ⟨P1, Rep.sub s1 _ _ rv, .inl ⟨rfl, rfl⟩⟩
theorem di_list {m : M} (hK : X.K = T.K) (h : DE T W X e .pure m) : DI T W X tg e (asL m) := pi_imp (pi_list h) fun σ H Q h => by
  obtain ⟨env, P, RR, h⟩ := h
  refine ⟨env, P, RR, After.mono h.bind fun d env1 P1 H1 R1 F1 h1 x kx nx => ?_⟩
  cases d with
  | lst ds =>
    have kx : Rep T P1 (.lst ds) x := kx
    rw [Rep] at kx
    obtain ⟨a, vs, rfl, q1, q2⟩ := kx
    exact ⟨a, rfl, ⟨vs, .inl (Rd.sub R1.sub q1)⟩, h1.here R1 (Fr.refl _ _ _ _) _ (yl_list hK q1 q2 trivial)⟩
  | _ => exact False.elim h1
theorem di_tup {m : M} (hK : X.K = T.K) (h : DE T W X e .pure m) : DI T W X tg e (asT m) := pi_imp (pi_tup h) fun σ H Q h => by
  obtain ⟨env, P, RR, h⟩ := h
  refine ⟨env, P, RR, After.mono h.bind fun d env1 P1 H1 R1 F1 h1 x kx nx => ?_⟩
  cases d with
  | tup ds =>
    have kx : Rep T P1 (.tup ds) x := kx
    rw [Rep] at kx
    obtain ⟨a, vs, rfl, q1, q2⟩ := kx
    refine ⟨a, rfl, ⟨vs, ?_⟩, h1.here R1 (Fr.refl _ _ _ _) _ (yl_tup hK q1 q2)⟩
    rw [hK]; exact sqT_sub R1.sub q1
  | _ => exact False.elim h1
/-- lo, lo + 1, .. -/
def rngL (lo : Int) (n : Nat) : List D := (List.range n).map fun (i : Nat) => D.int (lo + (i : Int))
theorem yl_range (lo : Int) (n : Nat) : Yl T (Itr lo n) P (rngL lo n) := fun P1 H1 s1 s2 => by
  refine ⟨fun i d hd => ?_, fun i hi => (by simpa [rngL] using hi : n ≤ i)⟩
  have hi : i < n := by
    rcases Nat.lt_or_ge i n with q | q
    · exact q
    · rw [List.getElem?_eq_none (by simpa [rngL] using q)] at hd; cases hd
  have hd' : d = .int (lo + i) := by
    have : (rngL lo n)[i]? = some (.int (lo + i)) := by simp [rngL, hi]
    rw [this] at hd; cases hd; rfl
  subst hd'
  refine ⟨hi, fun x H' y => ?_⟩
  obtain ⟨rfl, rfl⟩ := y
  exact ⟨P1, rep_int, .inl ⟨rfl, rfl⟩⟩
def rng1M (m : M) : MI := fun env => (m env).bind fun d e => match d with | .int j => if -(2 ^ 62) ≤ j ∧ j < 2 ^ 62 then .ok (rngL 0 j.toNat) e else .stk | _ => .stk
def rng2M (ma mb : M) : MI := fun env => (ma env).bind fun d e1 => (mb e1).bind fun d' e => match d, d' with | .int i, .int j => if -(2 ^ 62) ≤ i ∧ i < 2 ^ 62 ∧ -(2 ^ 62) ≤ j ∧ j < 2 ^ 62 then .ok (rngL i (j - i).toNat) e else .stk | _, _ => .stk
theorem di_range1 {k : Kd} {a : Expr} {p : Pos} {m : M} (hg : Gl X "range") (hm : X.mg "range" = none) (h : DE T W X a k m) (hs : starEach [a] X.env = [(false, eval a X.env)] := by rfl) : DI T W X tg (.Call (.Name "range" p) [a] [] pos) (rng1M m) := pi_imp (pi_range1 hg hm (da_cons (ks := []) (ms := []) h da_nil (by cases k <;> first | trivial | (intro env d env' h; cases h; rfl)) hs) hs) fun σ H Q h => by
  obtain ⟨env, P, RR, h⟩ := h
  refine ⟨env, P, RR, ?_⟩
  have e0 : argsM [m] env = (m env).bind fun d e1 => .ok [d] e1 := by
    show ((m env).bind fun d e1 => (argsM [] e1).bind fun ds e2 => .ok (d :: ds) e2) = _
    rfl
  rw [e0]
  unfold rng1M at h
  cases e1 : m env with
  | ok d env1 =>
    rw [e1] at h
    intro P1 H1 R1 F1 xs kxs
    obtain ⟨x, rfl, hx⟩ := (kxs.rdbs R1).one
    cases d with
    | int j =>
      have h : After T W σ env P H (if -(2 ^ 62) ≤ j ∧ j < 2 ^ 62 then R.ok (rngL 0 j.toNat) env1 else R.stk) _ := h
      by_cases z : -(2 ^ 62) ≤ j ∧ j < 2 ^ 62
      · rw [if_pos z] at h
        exact ⟨j, by rw [hx.intE], z.1, z.2, h P1 H1 R1 F1 _ (yl_range 0 j.toNat)⟩
      · rw [if_neg z] at h; exact False.elim h
    | _ => exact False.elim h
  | exc c fs env1 => rw [e1] at h; exact h
  | stk => rw [e1] at h; exact h
theorem di_range2 {k k' : Kd} {a b : Expr} {p : Pos} {m m' : M} (hg : Gl X "range") (hm : X.mg "range" = none) (h : DE T W X a k m) (h' : DE T W X b .pure m') (hk : Steady k (argsM [m']) := by trivial) (hs : starEach [a, b] X.env = [(false, eval a X.env), (false, eval b X.env)] := by rfl) (hs2 : starEach [b] X.env = (false, eval b X.env) :: starEach [] X.env := by rfl) :
    DI T W X tg (.Call (.Name "range" p) [a, b] [] pos) (rng2M m m') := pi_imp (pi_range2 hg hm (da_cons h (da_cons (ks := []) (ms := []) h' da_nil trivial hs2) hk (hs.trans (by rw [hs2]; rfl))) hs (hs2.trans rfl)) fun σ H Q h => by
  obtain ⟨env, P, RR, h⟩ := h
  refine ⟨env, P, RR, ?_⟩
  have e0 : argsM [m, m'] env = (m env).bind fun d e1 => (m' e1).bind fun d' e2 => .ok [d, d'] e2 := by
    show ((m env).bind fun d e1 => ((m' e1).bind fun d' e2 => (argsM [] e2).bind fun ds e3 => .ok (d' :: ds) e3).bind fun ds e2 => .ok (d :: ds) e2) = _
    cases m env with
    | ok d e1 =>
      show ((m' e1).bind fun d' e2 => .ok [d'] e2).bind (fun ds e2 => .ok (d :: ds) e2) = (m' e1).bind fun d' e2 => .ok [d, d'] e2
      cases m' e1 <;> rfl
    | _ => rfl
  rw [e0]
  unfold rng2M at h
  cases e1 : m env with
  | ok d env1 =>
    rw [e1] at h
    show After T W σ env P H ((m' env1).bind fun d' e2 => .ok [d, d'] e2) _
    have h : After T W σ env P H ((m' env1).bind fun d' e => match d, d' with | .int i, .int j => if -(2 ^ 62) ≤ i ∧ i < 2 ^ 62 ∧ -(2 ^ 62) ≤ j ∧ j < 2 ^ 62 then .ok (rngL i (j - i).toNat) e else .stk | _, _ => .stk) _ := h
    cases e2 : m' env1 with
    | ok d' env2 =>
      rw [e2] at h
      intro P1 H1 R1 F1 xs kxs
      obtain ⟨x, y, rfl, hx, hy⟩ := (kxs.rdbs R1).two
      cases d with
      | int i =>
        cases d' with
        | int j =>
          have h : After T W σ env P H (if -(2 ^ 62) ≤ i ∧ i < 2 ^ 62 ∧ -(2 ^ 62) ≤ j ∧ j < 2 ^ 62 then R.ok (rngL i (j - i).toNat) env2 else R.stk) _ := h
          by_cases z : -(2 ^ 62) ≤ i ∧ i < 2 ^ 62 ∧ -(2 ^ 62) ≤ j ∧ j < 2 ^ 62
          · rw [if_pos z] at h
            exact ⟨i, j, by rw [hx.intE, hy.intE], z, h P1 H1 R1 F1 _ (yl_range i _)⟩
          · rw [if_neg z] at h; exact False.elim h
        | _ => exact False.elim h
      | _ => exact False.elim h
    | exc c fs env2 => rw [e2] at h; exact h
    | stk => rw [e2] at h; exact h
  | exc c fs env1 => rw [e1] at h; exact h
  | stk => rw [e1] at h; exact h
/-- enumerate(xs), xs a list -/
def enumL (ds : List D) : List D := (List.range ds.length).map fun (i : Nat) => D.tup [.int (i : Int), ds.getD i .non]
theorem enumL_get {ds : List D} {i : Nat} {d : D} (h : (enumL ds)[i]? = some d) : ∃ e, ds[i]? = some e ∧ d = .tup [.int i, e] := by
  have hi : i < ds.length := by
    rcases Nat.lt_or_ge i ds.length with q | q
    · exact q
    · rw [List.getElem?_eq_none (by simpa [enumL] using q)] at h; cases h
  refine ⟨ds[i], List.getElem?_eq_getElem hi, ?_⟩
  have e : (enumL ds)[i]? = some (.tup [.int i, ds.getD i .non]) := by simp [enumL, hi]
  rw [e] at h
  have h := Option.some.inj h
  rw [← h, List.getD_eq_getElem?_getD, List.getElem?_eq_getElem hi]; rfl
def enumM (m : M) : MI := fun env => (m env).bind fun d e => match d with | .lst ds => .ok (enumL ds) e | _ => .stk
theorem di_enum {e : Expr} {p tpos : Pos} {elts : List Expr} {kk : Nat} {m : M} (hK : X.K = T.K) (hg : Gl X "enumerate") (hm : X.mg "enumerate" = none) (h : DE T W X e .pure m) (hs : starEach [e] X.env = [(false, eval e X.env)] := by rfl) :
    DI T W X (.Tuple elts kk tpos) (.Call (.Name "enumerate" p) [e] [] pos) (enumM m) := pi_imp (pi_enum hg hm (da_cons (ks := []) (ms := []) h da_nil trivial hs) hs) fun σ H Q h => by
  obtain ⟨env, P, RR, h⟩ := h
  refine ⟨env, P, RR, ?_⟩
  have e0 : argsM [m] env = (m env).bind fun d e1 => .ok [d] e1 := rfl
  rw [e0]
  unfold enumM at h
  cases e1 : m env with
  | ok d env1 =>
    rw [e1] at h
    intro P1 H1 R1 F1 xs kxs
    have rs := kxs.pures (pures_cons pures_nil)
    cases d with
    | lst ds =>
      rw [Reps] at rs
      obtain ⟨x, r, rfl, h2, h3⟩ := rs
      rw [Reps] at h3; subst h3
      rw [Rep] at h2
      obtain ⟨a, vs, rfl, q1, q2⟩ := h2
      refine ⟨a, vs, rfl, .inl (Rd.sub R1.sub q1), h P1 H1 R1 F1 _ fun P2 H2 s1 s2 => ?_⟩
      have q : SqL X.K H2 a vs := .inl (Rd.sub s2 (Rd.sub s1 q1))
      refine ⟨fun i d hd => ?_, fun i hi => ⟨vs, q, by rw [q2.length]; simpa [enumL] using hi⟩⟩
      obtain ⟨e, he, rfl⟩ := enumL_get hd
      obtain ⟨v, hv, rv⟩ := q2.get he
      refine ⟨⟨vs, v, q, hv⟩, fun x H' y => ?_⟩
      obtain ⟨t, z, rfl, ht, rfl, y⟩ := y
      have := y vs q
      rw [hv] at this; cases this
      have hp : P2 t = none := by
        cases c : P2 t with
        | none => rfl
        | some o => have := s2 t o c; rw [ht] at this; cases this
      exact ⟨upd P2 t _, rep_tup upd_same (Reps.cons rep_int (Reps.cons (Rep.sub (psub_upd hp) _ _ (Rep.sub s1 _ _ rv)) Reps.nil)), .inr ⟨t, _, ht, rfl, rfl⟩⟩
    | _ => exact False.elim h
  | exc c fs env1 => rw [e1] at h; exact h
  | stk => rw [e1] at h; exact h
/-! ### targets -/
abbrev TGM := D → Env → Option Env
def Out (sl : List Nat) (σ σ' : L2.St) : Prop := σ'.length = σ.length ∧ ∀ i, i ∉ sl → σ'[i]? = σ[i]?
def rdG (T : Tab) (sl : List Nat) (g : TGM) : TG := fun v σ H Q => ∃ env P d, Rel T env σ P H ∧ Rep T P d v ∧ ∃ env', g d env = some env' ∧ ∀ σ', Rel T env' σ' P H → Fr env σ P H env' σ' P H → Out sl σ σ' → Q σ' H
def DG (T : Tab) (sl : List Nat) (X : Cx) (tg : Expr) (g : TGM) : Prop := PG X tg (rdG T sl g)
theorem pg_imp {t t' : TG} (h : PG X tg t) (k : ∀ v σ H Q, t' v σ H Q → t v σ H Q) : PG X tg t' := ⟨fun pins s σ H v u Q I r q => h.run pins s σ H v u Q I r (k v σ H Q q)⟩
theorem pgs_imp {tgs : List Expr} {t t' : TGs} (h : PGs X tgs t) (k : ∀ v σ H Q, t' v σ H Q → t v σ H Q) : PGs X tgs t' := ⟨fun pins s σ H v u Q I r q => h.run pins s σ H v u Q I r (k v σ H Q q)⟩
def tgN (i : Nat) : TGM := fun d env => some (env.set i (some (.v d)))
theorem dg_name {i : Nat} {x : Str} (hN : X.N.Nodup) (hi : X.N[i]? = some x) (hx : Loc X.env.scope x) (hf : X.fn x = true ∨ X.env.scope.names.lookup x = some .local := by first | exact .inl rfl | exact .inr rfl | assumption) : DG T [i] X (.Name x pos) (tgN i) :=
  pg_imp (pg_name hN hi hx hf) fun v σ H Q h => by
    obtain ⟨env, P, d, RR, rx, env', e, k⟩ := h
    cases e
    obtain ⟨R2, F2⟩ := RR.setV (i := i) rx
    exact k _ R2 F2 ⟨by rw [List.length_set], fun j hj => List.getElem?_set_ne (fun z => hj (by simp [z]))⟩
def tgL : List TGM → List D → Env → Option Env
  | [], [], env => some env
  | g :: gs, d :: ds, env => (g d env).bind (tgL gs ds)
  | _, _, _ => none
def rdGs (T : Tab) (sl : List Nat) (g : List D → Env → Option Env) : TGs := fun vs σ H Q => ∃ env P ds, Rel T env σ P H ∧ Reps T P ds vs ∧ ∃ env', g ds env = some env' ∧ ∀ σ', Rel T env' σ' P H → Fr env σ P H env' σ' P H → Out sl σ σ' → Q σ' H
def DGs (T : Tab) (sl : List Nat) (X : Cx) (tgs : List Expr) (g : List D → Env → Option Env) : Prop := PGs X tgs (rdGs T sl g)
theorem dgs_nil : DGs T [] X [] (tgL []) := pgs_imp pgs_nil fun vs σ H Q h => by
  obtain ⟨env, P, ds, RR, rx, env', e, k⟩ := h
  cases ds with
  | nil => rw [Reps] at rx; cases e; exact ⟨rx, k σ RR (Fr.refl _ _ _ _) ⟨rfl, fun _ _ => rfl⟩⟩
  | cons d ds => cases e
theorem dgs_cons {sl sl' : List Nat} {a : Expr} {as : List Expr} {g : TGM} {gs : List TGM} (h : DG T sl X a g) (h' : DGs T sl' X as (tgL gs)) (hs : (assignEach (a :: as) X.env).map (·.2) = assign a X.env :: (assignEach as X.env).map (·.2) := by rfl) : DGs T (sl ++ sl') X (a :: as) (tgL (g :: gs)) :=
  pgs_imp (pgs_cons h h' hs) fun vs σ H Q hh => by
    obtain ⟨env, P, ds, RR, rx, env', e, k⟩ := hh
    cases ds with
    | nil => cases e
    | cons d ds =>
      rw [Reps] at rx
      obtain ⟨v, r, rfl, h1, h2⟩ := rx
      have e : (g d env).bind (tgL gs ds) = some env' := e
      cases c : g d env with
      | none => rw [c] at e; cases e
      | some env1 =>
        rw [c] at e
        refine ⟨v, r, rfl, env, P, d, RR, h1, env1, c, fun σ1 R1 F1 p1 => ⟨env1, P, ds, R1, h2, env', e, fun σ2 R2 F2 p2 => k σ2 R2 (F1.trans F2) ⟨p2.1.trans p1.1, fun i hi => ?_⟩⟩⟩
        rw [p2.2 i (fun z => hi (List.mem_append_right _ z)), p1.2 i (fun z => hi (List.mem_append_left _ z))]
def tgT (gs : List TGM) : TGM := fun d env => match d with | .tup ds => tgL gs ds env | _ => none
theorem tgL_len : ∀ {gs : List TGM} {ds : List D} {env env' : Env}, tgL gs ds env = some env' → ds.length = gs.length
  | [], [], _, _, _ => rfl
  | [], _ :: _, _, _, h => by cases h
  | _ :: _, [], _, _, h => by cases h
  | g :: gs, d :: ds, env, env', h => by
    have h : (g d env).bind (tgL gs ds) = some env' := h
    cases c : g d env with
    | none => rw [c] at h; cases h
    | some e1 => rw [c] at h; simp [tgL_len (show tgL gs ds e1 = some env' from h)]
theorem dg_tup {sl : List Nat} {es : List Expr} {kk n : Nat} {gs : List TGM} (hK : X.K = T.K) (hc : X.calm = true) (h : DGs T sl X es (tgL gs)) (hl : gs.length = n := by rfl) (hn : (assignEach es X.env).length = n := by rfl) (hst : (assignEach es X.env).findIdx? (·.1) = none := by rfl) : DG T sl X (.Tuple es kk pos) (tgT gs) :=
  pg_imp (pg_tup hc h hn hst) fun x σ H Q hh => by
    obtain ⟨env, P, d, RR, rx, env', e, k⟩ := hh
    cases d with
    | tup ds =>
      rw [Rep] at rx
      obtain ⟨a, vs, rfl, h1, h2⟩ := rx
      exact ⟨a, vs, rfl, by rw [hK]; exact sqT_sub RR.sub h1, by rw [h2.length, tgL_len e, hl], env, P, ds, RR, h2, env', e, k⟩
    | _ => cases e
theorem Out.frP {sl : List Nat} (h : Out sl σ σ') (hd : ∀ i ∈ pins, i ∉ sl) : FrP pins σ σ' := fun i hi => h.2 i (hd i hi)
/-- target = value -/
def asgM (g : TGM) (m : M) : MS := fun env => (m env).toS fun d e => match g d e with | some e' => .nx e' | none => .stk
theorem ds_asg {sl : List Nat} {g : TGM} {m : M} (h : DE T W X e .pure m) (hg : DG T sl X tg g) (hd : ∀ i ∈ pins, i ∉ sl := by decide) (hs : swapsWithSole [tg] e pos.line X.env = pure false := by rfl) (hw : swappedStores [tg] e X.env = pure none := by rfl)
    (h1 : (assignEach [tg] X.env).map (·.2) = [assign tg X.env] := by rfl) : DS T W kr pins X (.Assign [tg] e pos) (asgM g m) := by
  refine ps_imp (ps_asg h hg hs hw h1) fun D σ H h => ?_
  obtain ⟨env, P, RR, h⟩ := h
  refine ⟨env, P, RR, After.mono h.ofR fun d env1 P1 H1 R1 F1 h1 x kx nx => ?_⟩
  cases c : g d env1 with
  | none => rw [c] at h1; exact False.elim h1
  | some env2 =>
    rw [c] at h1
    exact ⟨env1, P1, d, R1, kx, env2, c, fun σ' R2 F2 p2 => h1 σ' P1 H1 R2 F2 (p2.frP hd)⟩
/-! ### for -/
def forM (g : TGM) (b : MS) : List D → MS
  | [] => fun env => .nx env
  | d :: ds => fun env => match g d env with | some e => loopS (b e) (forM g b ds) | none => .stk
def forS (mi : MI) (g : TGM) (b : MS) : MS := fun env => (mi env).toS fun ds e => forM g b ds e
theorem ds_for {sl : List Nat} {b : List Stmt} {mi : MI} {g : TGM} {mb : MS} (hp : PassesOwn (model X.prog X.w) X.A X.env X.xe) (hc : X.calm = true) (hi : DI T W X tg e mi) (hg : DG T sl X tg g) (hb : DSs T W kr pins X b mb) (hd : ∀ i ∈ pins, i ∉ sl := by decide)
    (hs : ∀ x, foldedSetIterable e X.env x = pure x := by intro _; rfl) : DS T W kr pins X (.For tg e b [] pos) (forS mi g mb) := by
  refine ps_imp (ps_for hp hc hi hg hb hs) fun D σ H h => ?_
  obtain ⟨env, P, RR, h⟩ := h
  refine ⟨env, P, RR, After.mono h.ofR fun ds env1 P1 H1 R1 F1 h1 J hJ => ?_⟩
  refine ⟨fun i m σ H => m = ds.length - i ∧ ∃ e P, Rel T e σ P H ∧ PSub P1 P ∧ AfterS T W kr pins e σ P H (forM g mb (ds.drop i) e) D, ⟨ds.length, by simp, env1, P1, R1, PSub.refl _, h1⟩, fun i m σ H hW => ?_⟩
  obtain ⟨rfl, e, P2, R2, s2, h2⟩ := hW
  obtain ⟨j1, j2⟩ := hJ P2 H s2 R2.sub
  cases c : ds[i]? with
  | none =>
    have hi : ds.length ≤ i := List.getElem?_eq_none_iff.mp c
    rw [List.drop_eq_nil_of_le hi] at h2
    exact .inl ⟨j2 i hi, h2 σ P2 H R2 (Fr.refl _ _ _ _) FrP.refl⟩
  | some d =>
    have hi : i < ds.length := by
      rcases Nat.lt_or_ge i ds.length with q | q
      · exact q
      · rw [List.getElem?_eq_none q] at c; cases c
    have ed : ds.drop i = d :: ds.drop (i + 1) := by
      rw [List.drop_eq_getElem_cons hi]
      rw [List.getElem?_eq_getElem hi] at c
      rw [Option.some.inj c]
    rw [ed] at h2
    obtain ⟨j3, j4⟩ := j1 i d c
    refine .inr ⟨j3, fun σ' H' => ∃ e P, Rel T e σ' P H' ∧ PSub P1 P ∧ AfterS T W kr pins e σ' P H' (forM g mb (ds.drop (i + 1)) e) D, fun σ' H' q => ⟨ds.length - (i + 1), by omega, rfl, q⟩, fun x H' y => ?_⟩
    obtain ⟨P3, r3, g3⟩ := j4 x H' y
    obtain ⟨R3, F3⟩ := R2.grow1 g3
    have h2 : AfterS T W kr pins e σ P2 H (match g d e with | some e' => loopS (mb e') (forM g mb (ds.drop (i + 1))) | none => .stk) D := h2
    cases c2 : g d e with
    | none => rw [c2] at h2; exact False.elim h2
    | some e4 =>
      rw [c2] at h2
      refine ⟨e, P3, d, R3, r3, e4, c2, fun σ4 R4 F4 p4 => ?_⟩
      have h4 := AfterS.step h2 (F3.trans F4) (p4.frP hd)
      have s4 : PSub P1 P3 := s2.trans F3.mono
      exact ⟨e4, P3, R4, AfterS.imp (AfterS.loop h4) (fun σ H ⟨e, P', a, b, c⟩ => ⟨e, P', a, s4.trans b, c⟩) (fun _ _ q => q) (fun σ H ⟨e, P', a, b, c⟩ => ⟨e, P', a, s4.trans b, c⟩) (fun _ _ q => q)⟩
end
end Ue

set_option linter.all false
set_option Elab.async false
set_option maxRecDepth 100000
set_option maxHeartbeats 4000000
namespace Ue
open PySem L2
/-! ### items and slices -/
theorem Reps.atI {T : Tab} {P : Hp} {ds : List D} {vs : List V} {i : Int} {d : D} (h : Reps T P ds vs) (e : atI ds i = some d) : ∃ v, L2.atI vs i = some v ∧ Rep T P d v := by
  unfold L2.atI at e ⊢
  rw [h.length]
  cases q : ixN ds.length i with
  | none => rw [q] at e; cases e
  | some j => rw [q] at e; exact h.get e
def ixD (a b : D) : Option D := match a, b with
  | .lst ds, .int i => L2.atI ds i
  | .tup ds, .int i => L2.atI ds i
  | .scr ns, .int i => (L2.atI ns i).map D.int
  | .str s, .int i => if s.length ≤ sizeLine then (L2.atI s.cps.toList i).map fun c => .str ⟨#[c]⟩ else none
  | _, _ => none
theorem od_ix {T : Tab} : OpD T (rIx T.K) .pure ixD := fun env σ P H dx dy x y d Q R1 hx hy e k => by
  cases dy with
  | int i =>
    cases dx with
    | lst ds =>
      obtain ⟨a, vs, rfl, h1, h2⟩ := hx.lstE R1.sub
      obtain ⟨v, hv, rv⟩ := h2.atI (show L2.atI ds i = some d from e)
      exact .inl ⟨a, vs, i, v, rfl, hy.intE, .inl h1, hv, k _ P H R1 (Fr.refl _ _ _ _) rv trivial⟩
    | scr ns =>
      obtain ⟨a, rfl, h1⟩ := hx.scrE R1.sub
      have e : (L2.atI ns i).map D.int = some d := e
      cases q : L2.atI ns i with
      | none => rw [q] at e; cases e
      | some n =>
        rw [q] at e; cases e
        refine .inl ⟨a, _, i, .int n, rfl, hy.intE, h1, ?_, k _ P H R1 (Fr.refl _ _ _ _) (show Rep T P _ _ from rep_int) trivial⟩
        unfold L2.atI at q ⊢
        rw [List.length_map]
        cases q2 : ixN ns.length i with
        | none => rw [q2] at q; cases q
        | some j =>
          rw [q2] at q
          have q : ns[j]? = some n := q
          show (ns.map V.int)[j]? = _
          rw [List.getElem?_map, q]; rfl
    | tup ds =>
      obtain ⟨a, vs, rfl, h1, h2⟩ := hx.tupE R1.sub
      obtain ⟨v, hv, rv⟩ := h2.atI (show L2.atI ds i = some d from e)
      exact .inr (.inl ⟨a, vs, i, v, rfl, hy.intE, h1, hv, k _ P H R1 (Fr.refl _ _ _ _) rv trivial⟩)
    | str s =>
      have e : (if s.length ≤ sizeLine then (L2.atI s.cps.toList i).map fun c => D.str ⟨#[c]⟩ else none) = some d := e
      by_cases z : s.length ≤ sizeLine
      · rw [if_pos z] at e
        cases q : L2.atI s.cps.toList i with
        | none => rw [q] at e; cases e
        | some c =>
          rw [q] at e; cases e
          exact .inr (.inr ⟨s, i, c, hx.strE, hy.intE, z, q, k _ P H R1 (Fr.refl _ _ _ _) (show Rep T P _ _ from rep_str) trivial⟩)
      · rw [if_neg z] at e; cases e
    | _ => cases e
  | _ => cases dx <;> cases e
section
variable {T : Tab} {W : WX} {kr : Kd} {pins : List Nat} {env env' : Env} {σ σ' : L2.St} {P H P' H' : Hp} {X : Cx} {pos : Pos} {tg e a b : Expr} {k ka kb : Kd} {m ma mb : M}
theorem de_ix (hK : X.K = T.K) (ha : DE T W X a ka ma) (hb : DE T W X b kb mb) (hs : PlainIx b) (hst : Steady ka mb := by trivial) : DE T W X (.Subscript a b pos) .pure (op2M ixD ma mb) :=
  pe_imp (pe_ix (r := rIx T.K) (by rw [← hK]; exact ix_seq) ha hb hs) fun _ _ _ h => rd_op2 od_ix hst h
/-- a part of a slice -/
def optM : Option M → Env → R (Option Int)
  | none, e => .ok none e
  | some m, e => (m e).bind fun d e1 => match d with | .int i => .ok (some i) e1 | _ => .stk
def rdO (T : Tab) (W : WX) (m : Option M) : TO := fun σ H Q => ∃ env P, Rel T env σ P H ∧ After T W σ env P H (optM m env) (fun o _ _ H' => Q o H')
def DO (T : Tab) (W : WX) (X : Cx) (e : Option Expr) (m : Option M) : Prop := PO X e (rdO T W m)
theorem po_imp {o : Option Expr} {t t' : TO} (h : PO X o t) (k : ∀ σ H Q, t' σ H Q → t σ H Q) : PO X o t' := ⟨fun pins s σ H Q I q => h.run pins s σ H Q I (k σ H Q q)⟩
theorem do_none : DO T W X none none := po_imp po_none fun σ H Q h => by
  obtain ⟨env, P, RR, h⟩ := h
  exact h.here RR (Fr.refl _ _ _ _)
theorem do_some (h : DE T W X e k m) : DO T W X (some e) (some m) := po_imp (po_some h) fun σ H Q h => by
  obtain ⟨env, P, RR, h⟩ := h
  refine ⟨env, P, RR, After.mono h.bind fun d env1 P1 H1 R1 F1 h1 x kx nx => ?_⟩
  cases d with
  | int i => exact ⟨i, (kx.rdb R1).intE, h1.here R1 (Fr.refl _ _ _ _)⟩
  | _ => exact False.elim h1
def cutD (ds : List D) (lo hi : Option Int) : List D := (ds.drop (HT.sIx ds.length 0 lo)).take (HT.sIx ds.length ds.length hi - HT.sIx ds.length 0 lo)
theorem Reps.cut {ds : List D} {vs : List V} (h : Reps T P ds vs) (lo hi : Option Int) : Reps T P (cutD ds lo hi) (cutV vs lo hi) := by
  unfold cutD cutV
  rw [h.length]
  exact (h.drop _).take _
def slLM (m : M) (lo hi : Option M) : M := fun env => (m env).bind fun d e => (optM lo e).bind fun l e => (optM hi e).bind fun u e => match d with | .lst ds => .ok (.lst (cutD ds l u)) e | .scr ns => .ok (.lst (cutD (ns.map D.int) l u)) e | _ => .stk
def slTM (m : M) (lo hi : Option M) : M := fun env => (m env).bind fun d e => (optM lo e).bind fun l e => (optM hi e).bind fun u e => match d with | .tup ds => .ok (.tup (cutD ds l u)) e | _ => .stk
theorem de_slL {lo hi : Option Expr} {ml mh : Option M} {p2 : Pos} (hK : X.K = T.K) (he : DE T W X e k m) (hl : DO T W X lo ml) (hh : DO T W X hi mh) (s1 : Steady k (optM ml) := by trivial) (s2 : Steady k (optM mh) := by trivial) :
    DE T W X (.Subscript e (.Slice lo hi none p2) pos) .fresh (slLM m ml mh) := by
  refine pe_imp (pe_slice (r := rSlL T.K) (by rw [← hK]; exact sl_list) he hl hh) fun σ H Q h => ?_
  obtain ⟨env, P, RR, h⟩ := h
  refine ⟨env, P, RR, After.at h.bind fun d env1 P1 H1 _ R1 F1 h1 x kx nx => ?_⟩
  refine ⟨env1, P1, R1, After.at h1.bind fun l env2 P2 H2 e2 R2 F2 h2 => ?_⟩
  refine ⟨env2, P2, R2, After.at h2.bind fun u env3 P3 H3 e3 R3 F3 h3 => ?_⟩
  have kx' := (kx.carry F2 (s1.use e2)).carry F3 (s2.use e3)
  cases d with
  | lst ds =>
    obtain ⟨a, vs, rfl, q1, q2⟩ := (kx'.rdb R3).lstE R3.sub
    refine ⟨a, vs, rfl, .inl q1, fun p hp => ?_⟩
    obtain ⟨R4, F4, no, pn⟩ := R3.newF (o := .lst (cutV vs l u)) hp
    exact h3 _ _ R4 F4 _ ⟨p, _, _, rfl, upd_same, pn, no, q2.cut l u, rfl⟩ (NewV.back (k := .fresh) (F1.trans (F2.trans F3)) ⟨p, rfl, hp⟩)
  | scr ns =>
    obtain ⟨a, rfl, q1⟩ := (kx'.rdb R3).scrE R3.sub
    refine ⟨a, _, rfl, q1, fun p hp => ?_⟩
    obtain ⟨R4, F4, no, pn⟩ := R3.newF (o := .lst (cutV (ns.map V.int) l u)) hp
    exact h3 _ _ R4 F4 _ ⟨p, _, _, rfl, upd_same, pn, no, (Reps.ofInts ns).cut l u, rfl⟩ (NewV.back (k := .fresh) (F1.trans (F2.trans F3)) ⟨p, rfl, hp⟩)
  | _ => exact False.elim h3
theorem de_slT {lo hi : Option Expr} {ml mh : Option M} {p2 : Pos} (hK : X.K = T.K) (he : DE T W X e .pure m) (hl : DO T W X lo ml) (hh : DO T W X hi mh) :
    DE T W X (.Subscript e (.Slice lo hi none p2) pos) .pure (slTM m ml mh) := by
  refine pe_imp (pe_slice (r := rSlA T.K) (by rw [← hK]; exact sl_tupA) he hl hh) fun σ H Q h => ?_
  obtain ⟨env, P, RR, h⟩ := h
  refine ⟨env, P, RR, After.at h.bind fun d env1 P1 H1 _ R1 F1 h1 x kx nx => ?_⟩
  refine ⟨env1, P1, R1, After.at h1.bind fun l env2 P2 H2 e2 R2 F2 h2 => ?_⟩
  refine ⟨env2, P2, R2, After.at h2.bind fun u env3 P3 H3 e3 R3 F3 h3 => ?_⟩
  have kx' : Rep T P3 d x := Rep.sub (F2.trans F3).mono d x kx
  cases d with
  | tup ds =>
    have kx2 := kx'
    rw [Rep] at kx'
    obtain ⟨a, vs, rfl, q1, q2⟩ := kx'
    refine ⟨a, vs, rfl, sqT_sub R3.sub q1, fun z => ?_, fun z p hp => ?_⟩
    · have e : cutD ds l u = ds := by
        unfold cutD
        have hl := q2.length
        rw [hl] at z
        rw [z.1, z.2]; simp
      have h3 : After T W σ env3 P3 H3 (R.ok (D.tup (cutD ds l u)) env3) _ := h3
      rw [e] at h3
      exact h3 _ _ R3 (Fr.refl _ _ _ _) _ kx2 trivial
    · obtain ⟨R4, F4⟩ := R3.newP (o := .tup (cutV vs l u)) hp
      exact h3 _ _ R4 F4 _ (rep_tup upd_same (Reps.sub F4.mono _ _ (q2.cut l u))) trivial
  | _ => exact False.elim h3
/-! ### what leaves the own lists alone -/
theorem steady_c {d : D} : Steady k (cM d) := by
  cases k with
  | own i => intro env d' env' h; cases h; rfl
  | _ => trivial
theorem steady_var {j : Nat} : Steady k (varM j) := by
  cases k with
  | own i =>
    intro env d' env' h
    unfold varM at h
    cases q : env[j]? with
    | none => rw [q] at h; cases h
    | some o =>
      rw [q] at h
      cases o with
      | none => cases h
      | some v => cases v <;> cases h <;> rfl
  | _ => trivial
theorem steady_ovar {j : Nat} : Steady k (ovarM j) := by
  cases k with
  | own i =>
    intro env d' env' h
    unfold ovarM at h
    cases q : env[j]? with
    | none => rw [q] at h; cases h
    | some o =>
      rw [q] at h
      cases o with
      | none => cases h
      | some v => cases v <;> cases h <;> rfl
  | _ => trivial
theorem Steady.bind {α β : Type} {r : Env → R α} {f : α → Env → R β} (h : Steady k r) (h2 : ∀ a, Steady k (f a)) : Steady k (fun env => (r env).bind f) := by
  cases k with
  | own i =>
    intro env b env' e
    have e : (r env).bind f = .ok b env' := e
    cases q : r env with
    | ok a e1 => rw [q] at e; exact (h2 a e1 b env' e).trans (h env a e1 q)
    | exc c fs e1 => rw [q] at e; cases e
    | stk => rw [q] at e; cases e
  | _ => trivial
theorem steady_lift {o : Option D} : Steady k (liftO o) := by
  cases k with
  | own i => intro env b env' e; cases o <;> cases e; rfl
  | _ => trivial
theorem steady_liftB {o : Option Bool} : Steady k (liftB o) := by
  cases k with
  | own i => intro env b env' e; cases o <;> cases e; rfl
  | _ => trivial
theorem steady_op2 {g : D → D → Option D} (h : Steady k ma) (h2 : Steady k mb) : Steady k (op2M g ma mb) := h.bind fun _ => h2.bind fun _ => steady_lift
theorem steady_op1 {g : D → Option D} (h : Steady k ma) : Steady k (op1M g ma) := h.bind fun _ => steady_lift
theorem steady_cmp {g : D → D → Option Bool} (h : Steady k ma) (h2 : Steady k mb) : Steady k (cmpM g ma mb) := h.bind fun _ => h2.bind fun _ => steady_liftB
theorem steady_args : ∀ {ms : List M}, (∀ m ∈ ms, Steady k m) → Steady k (argsM ms)
  | [], _ => by
    cases k with
    | own i => intro env b env' e; cases e; rfl
    | _ => trivial
  | m :: ms, h => Steady.bind (h m List.mem_cons_self) fun d => Steady.bind (steady_args fun m hm => h m (List.mem_cons_of_mem _ hm)) fun ds => by
    cases k with
    | own i => intro env b env' e; cases e; rfl
    | _ => trivial
theorem steady_call {g : List D → Option D} {ms : List M} (h : ∀ m ∈ ms, Steady k m) : Steady k (callM g ms) := (steady_args h).bind fun _ => steady_lift
theorem steady_nil : ∀ m ∈ ([] : List M), Steady k m := fun _ h => nomatch h
theorem steady_cons {ms : List M} (h : Steady k m) (h2 : ∀ m ∈ ms, Steady k m) : ∀ x ∈ (m :: ms), Steady k x := fun x hx => by
  rcases List.mem_cons.mp hx with rfl | hx
  · exact h
  · exact h2 x hx
/-! ### own lists change -/
theorem Rel.updO {i : Nat} {ds ds' : List D} {a : Addr} {vs' : List V} (RR : Rel T env σ P H) (e : env[i]? = some (some (.own ds))) (hs : σ[i]? = some (some (V.ref a))) (r : Reps T P ds' vs') :
    Rel T (env.set i (some (.own ds'))) σ P (upd H a (.lst vs')) ∧ Fr env σ P H (env.set i (some (.own ds'))) σ P (upd H a (.lst vs')) := by
  have own_a : Own env σ a := ⟨i, _, e, rfl, hs⟩
  obtain ⟨o, ho, pa⟩ := RR.ownAt own_a
  have key : ∀ (j : Nat) (f : EV), (env.set i (some (.own ds')))[j]? = some (some f) → (j = i ∧ f = .own ds') ∨ (j ≠ i ∧ env[j]? = some (some f)) := fun j f h => by
    by_cases q : j = i
    · subst q; rw [set_get e] at h; cases h; exact .inl ⟨rfl, rfl⟩
    · rw [List.getElem?_set_ne (fun z => q z.symm)] at h; exact .inr ⟨q, h⟩
  have back : ∀ (j : Nat) (f : EV), (env.set i (some (.own ds')))[j]? = some (some f) → f.isOwn = true → ∃ g, env[j]? = some (some g) ∧ g.isOwn = true := fun j f h o => by
    rcases key j f h with ⟨rfl, rfl⟩ | ⟨_, q⟩
    · exact ⟨_, e, rfl⟩
    · exact ⟨f, q, o⟩
  refine ⟨⟨fun b u h => ?_, fun j f h => ?_, fun j l f g b n h1 h2 o1 o2 s1 s2 => ?_, by rw [List.length_set]; exact RR.len⟩, fun b u h n => ?_, fun b _ n z => ?_, PSub.refl _, fun b h => .inl h, fun b h => ?_⟩
  · rw [upd_ne (ne_of_none h pa)]; exact RR.sub b u h
  · rcases key j f h with ⟨rfl, rfl⟩ | ⟨q, h⟩
    · exact ⟨_, hs, a, vs', rfl, upd_same, pa, r⟩
    · obtain ⟨v, hv, rv⟩ := RR.ent j f h
      refine ⟨v, hv, rv.grow (PSub.refl _) fun b u h1 h2 h3 h4 => ⟨?_, h2⟩⟩
      have hb : b ≠ a := by
        rintro rfl
        subst h4
        exact RR.dis j i f _ b q h e h3 rfl hv hs
      rw [upd_ne hb]; exact h1
  · obtain ⟨f', h1', o1'⟩ := back j f h1 o1
    obtain ⟨g', h2', o2'⟩ := back l g h2 o2
    exact RR.dis j l f' g' b n h1' h2' o1' o2' s1 s2
  · rw [upd_ne (fun z => n (by rw [z]; exact own_a))]; exact h
  · obtain ⟨j, f, h1, h2, h3⟩ := z
    obtain ⟨g, h4, h5⟩ := back j f h1 h2
    exact n ⟨j, g, h4, h5, h3⟩
  · by_cases hb : b = a
    · subst hb; rw [upd_same]; exact fun z => nomatch z
    · rw [upd_ne hb]; exact h
/-- a method of an own list: what it gives, what stands then -/
def MtD (T : Tab) (r : V → List V → Hp → VK → Prop) (g : List D → List D → Option (D × List D)) : Prop :=
  ∀ (P H : Hp) (a : Addr) (vs : List V) (ds es : List D) (xs : List V) (d : D) (ds' : List D) (Q : VK), H a = some (.lst vs) → Reps T P ds vs → Reps T P es xs → g ds es = some (d, ds') →
    (∀ x vs', Rep T P d x → Reps T P ds' vs' → Q x (upd H a (.lst vs'))) → r (.ref a) xs H Q
def mtM (i : Nat) (g : List D → List D → Option (D × List D)) (ms : List M) : M := fun env => match env[i]? with
  | some (some (.own _)) => (argsM ms env).bind fun es e => match e[i]? with
    | some (some (.own ds)) => (match g ds es with | some (d, ds') => .ok d (e.set i (some (.own ds'))) | none => .stk)
    | _ => .stk
  | _ => .stk
theorem rd_mt {i : Nat} {r : V → List V → Hp → VK → Prop} {g : List D → List D → Option (D × List D)} {ms : List M} {ks : List Kd} (hD : MtD T r g) (hp : ∀ k ∈ ks, k = Kd.pure) {Q : VK} (h : rdE T W .pure (mtM i g ms) σ H Q) :
    tBM T.K "list" r (tVar i) (rdA T W ks ms) σ H Q := by
  obtain ⟨env, P, RR, h⟩ := h
  unfold mtM at h
  cases e0 : env[i]? with
  | none => rw [e0] at h; exact False.elim h
  | some o =>
    cases o with
    | none => rw [e0] at h; exact False.elim h
    | some v =>
      cases v with
      | own d0 =>
        rw [e0] at h
        obtain ⟨u, hu, r0⟩ := RR.ent i _ e0
        obtain ⟨a, vs0, rfl, q0, p0, _⟩ := r0
        refine ⟨_, hu, .inl ⟨rfl, vs0, .of q0⟩, env, P, RR, After.at h.bind fun es env1 P1 H1 _ R1 F1 h1 xs kxs => ?_⟩
        cases e1 : env1[i]? with
        | none => rw [e1] at h1; exact False.elim h1
        | some o =>
          cases o with
          | none => rw [e1] at h1; exact False.elim h1
          | some v =>
            cases v with
            | own ds =>
              rw [e1] at h1
              obtain ⟨u, hu2, r1⟩ := R1.ent i _ e1
              rw [hu] at hu2; cases hu2
              obtain ⟨a', vs, ea, q1, p1, w1⟩ := r1
              cases ea
              cases e2 : g ds es with
              | none => simp only [e2] at h1; exact False.elim h1
              | some p =>
                obtain ⟨d, ds'⟩ := p
                simp only [e2] at h1
                refine hD P1 H1 a vs ds es xs d ds' Q q1 w1 (kxs.pures hp) e2 fun x vs' rx rvs => ?_
                obtain ⟨R2, F2⟩ := R1.updO (vs' := vs') e1 hu rvs
                exact h1 _ _ R2 F2 x rx trivial
            | _ => rw [e1] at h1; exact False.elim h1
      | _ => rw [e0] at h; exact False.elim h
theorem de_mt {i : Nat} {x name : Str} {id : String} {r : V → List V → Hp → VK → Prop} {g : List D → List D → Option (D × List D)} {ms : List M} {ks : List Kd} {es : List Expr} {p apos cpos : Pos} (hK : X.K = T.K) (pa : PlainAttrs "list") (slot : Slot "list" name id)
    (hty : typeOf (.builtin id) = pure (.type "method_descriptor")) (hm : MtR X id r) (hD : MtD T r g) (hv : PE X (.Name x p) (tVar i)) (ha : DA T W X (e :: es) ks ms) (hp : ∀ k ∈ ks, k = Kd.pure)
    (hfew : ((backTo cpos (starEach (e :: es) X.env)).all (fun x => !x.1) && (backToKw cpos (keywordEach [] X.env)).all (fun x => x.1.isSome)
      && decide ((e :: es).length + ([] : List Keyword).length + (if ([] : List Keyword).isEmpty then 0 else 1) < 30)) = true := by rfl)
    (hline : (apos.endLine == cpos.line) = true := by rfl) (hs : starEach (e :: es) X.env = (false, eval e X.env) :: starEach es X.env := by rfl) (hplain : (backTo cpos (starEach es X.env)).any (·.1) = false := by rfl) :
    DE T W X (.Call (.Attribute (.Name x p) name apos) (e :: es) [] cpos) .pure (mtM i g ms) :=
  pe_imp (pe_bm pa slot hty hm hv ha (by rfl) hfew hline hs hplain) fun σ H Q h => by rw [hK]; exact rd_mt hD hp h
def appG (ds es : List D) : Option (D × List D) := match es with | [d] => if ds.length < sizeLine then some (.non, ds ++ [d]) else none | _ => none
theorem md_append : MtD T rAppend appG := fun P H a vs ds es xs d ds' Q h1 h2 h3 e k => by
  match es, h3, e with
  | [d0], h3, e =>
    rw [Reps] at h3
    obtain ⟨v, r, rfl, h4, h5⟩ := h3
    rw [Reps] at h5; subst h5
    have e : (if ds.length < sizeLine then some (D.non, ds ++ [d0]) else none) = some (d, ds') := e
    by_cases z : ds.length < sizeLine
    · rw [if_pos z] at e; cases e
      exact ⟨a, vs, v, rfl, rfl, h1, by rw [h2.length]; exact z, k _ _ rep_non (h2.append (Reps.cons h4 Reps.nil))⟩
    · rw [if_neg z] at e; cases e
def popAtI (ds : List D) (i : Int) : Option (D × List D) := if -(2 ^ 63) ≤ i ∧ i < 2 ^ 63 then (ixN ds.length i).bind fun j => (ds[j]?).map fun d => (d, ds.eraseIdx j) else none
def popAtG (ds es : List D) : Option (D × List D) := match es with
  | [.int i] => popAtI ds i
  | _ => none
theorem Reps.erase {ds : List D} {vs : List V} (h : Reps T P ds vs) (j : Nat) : Reps T P (ds.eraseIdx j) (vs.eraseIdx j) := by
  rw [List.eraseIdx_eq_take_drop_succ, List.eraseIdx_eq_take_drop_succ]
  exact (h.take j).append (h.drop (j + 1))
theorem popAtI_some {ds ds' : List D} {i : Int} {d : D} (h : popAtI ds i = some (d, ds')) : (-(2 ^ 63) ≤ i ∧ i < 2 ^ 63) ∧ ∃ j, ixN ds.length i = some j ∧ ds[j]? = some d ∧ ds' = ds.eraseIdx j := by
  unfold popAtI at h
  by_cases z : -(2 ^ 63) ≤ i ∧ i < 2 ^ 63
  · rw [if_pos z] at h
    refine ⟨z, ?_⟩
    cases q : ixN ds.length i with
    | none => rw [q] at h; cases h
    | some j =>
      rw [q] at h
      have h : (ds[j]?).map (fun d => (d, ds.eraseIdx j)) = some (d, ds') := h
      cases q2 : ds[j]? with
      | none => rw [q2] at h; cases h
      | some d0 => rw [q2] at h; cases h; exact ⟨j, rfl, q2, rfl⟩
  · rw [if_neg z] at h; cases h
theorem md_popAt : MtD T rPopAt popAtG := fun P H a vs ds es xs d ds' Q h1 h2 h3 e k => by
  cases es with
  | nil => cases e
  | cons d0 es =>
    cases es with
    | cons _ _ => cases d0 <;> cases e
    | nil =>
      cases d0 with
      | int i =>
        rw [Reps] at h3
        obtain ⟨v, r, rfl, h4, h5⟩ := h3
        rw [Reps] at h5; subst h5
        rw [Rep] at h4; subst h4
        obtain ⟨z, j, q, q2, rfl⟩ := popAtI_some (show popAtI ds i = some (d, ds') from e)
        obtain ⟨v, hv, rv⟩ := h2.get q2
        exact ⟨a, vs, i, j, v, rfl, rfl, h1, z.1, z.2, by rw [h2.length]; exact (ixN_seq q).1, hv, k _ _ rv (h2.erase j)⟩
      | _ => cases e
/-- xs[i] = e of an own list -/
def setI2 (i : Nat) (d n : D) (e : Env) : SR := match e[i]?, n with
  | some (some (.own ds)), .int j => (match ixN ds.length j with | some q => .nx (e.set i (some (.own (ds.set q d)))) | none => .stk)
  | _, _ => .stk
def setIM (i : Nat) (m mi : M) : MS := fun env => (m env).toS fun d e => match e[i]? with
  | some (some (.own _)) => (mi e).toS fun n e => setI2 i d n e
  | _ => .stk
theorem ds_setI {i : Nat} {x : Str} {ie : Expr} {mi : M} {p tpos : Pos} {ki : Kd} (hv : PE X (.Name x p) (tVar i)) (he : DE T W X e .pure m) (hi : DE T W X ie ki mi)
    (hs : swapsWithSole [.Subscript (.Name x p) ie tpos] e pos.line X.env = pure false := by rfl) (hw : swappedStores [.Subscript (.Name x p) ie tpos] e X.env = pure none := by rfl)
    (h1 : (assignEach [.Subscript (.Name x p) ie tpos] X.env).map (·.2) = [assign (.Subscript (.Name x p) ie tpos) X.env] := by rfl)
    (ha : ∀ v, assign (.Subscript (.Name x p) ie tpos) X.env v = (do let ov ← holding [v] (eval (.Name x p) X.env); let iv ← holding [v, ov] (eval ie X.env); standAt tpos; holding [v, ov, iv] (setItem ov iv v); release [v, ov, iv] []) := by intro _; rfl) :
    DS T W kr pins X (.Assign [.Subscript (.Name x p) ie tpos] e pos) (setIM i m mi) := by
  refine ps_imp (ps_asg he (pg_sub hv hi set_list ha) hs hw h1) fun D σ H h => ?_
  obtain ⟨env, P, RR, h⟩ := h
  refine ⟨env, P, RR, After.mono h.ofR fun d env1 P1 H1 R1 F1 h1 y ky ny => ?_⟩
  cases e0 : env1[i]? with
  | none => rw [e0] at h1; exact False.elim h1
  | some o =>
    cases o with
    | none => rw [e0] at h1; exact False.elim h1
    | some v =>
      cases v with
      | own d0 =>
        rw [e0] at h1
        obtain ⟨u, hu, r0⟩ := R1.ent i _ e0
        obtain ⟨a, vs0, rfl, _, _, _⟩ := r0
        refine ⟨_, hu, env1, P1, R1, After.mono h1.ofR fun n env2 P2 H2 R2 F2 h2 z kz nz => ?_⟩
        have ky' : Rep T P2 d y := Rep.sub F2.mono d y ky
        unfold setI2 at h2
        cases e2 : env2[i]? with
        | none => rw [e2] at h2; exact False.elim h2
        | some o =>
          cases o with
          | none => rw [e2] at h2; exact False.elim h2
          | some v =>
            cases v with
            | own ds =>
              rw [e2] at h2
              cases n with
              | int j =>
                simp only at h2
                obtain ⟨u, hu2, r1⟩ := R2.ent i _ e2
                rw [hu] at hu2; cases hu2
                obtain ⟨a', vs, ea, q1, p1, w1⟩ := r1
                cases ea
                cases e3 : ixN ds.length j with
                | none => rw [e3] at h2; exact False.elim h2
                | some q =>
                  rw [e3] at h2
                  refine ⟨a, vs, j, q, rfl, (kz.rdb R2).intE, q1, by rw [w1.length]; exact e3, ?_⟩
                  obtain ⟨R3, F3⟩ := R2.updO (vs' := vs.set q y) e2 hu (w1.set q ky')
                  exact h2 σ P2 _ R3 F3 FrP.refl
              | _ => exact False.elim h2
            | _ => rw [e2] at h2; exact False.elim h2
      | _ => rw [e0] at h1; exact False.elim h1
/-! ### x += e -/
def augM (i : Nat) (g : D → D → Option D) (m : M) : MS := fun env => match env[i]? with
  | some (some (.v d0)) => (m env).toS fun d e => (match g d0 d with | some r => .nx (e.set i (some (.v r))) | none => .stk)
  | _ => .stk
theorem ds_aug {i : Nat} {x : Str} {op : Operator} {r : R2} {g : D → D → Option D} {pos' : Pos} (hN : X.N.Nodup) (hi : X.N[i]? = some x) (hx : Loc X.env.scope x) (he : DE T W X e k m) (ho : PIp X op r) (hD : OpD T r .pure g) (hp : i ∉ pins := by decide)
    (hf : X.fn x = true ∨ X.env.scope.names.lookup x = some .local := by first | exact .inl rfl | exact .inr rfl | assumption) : DS T W kr pins X (.AugAssign (.Name x pos') op e pos) (augM i g m) := by
  refine ps_imp (ps_aug hN hi hx he ho hf) fun D σ H h => ?_
  obtain ⟨env, P, RR, h⟩ := h
  unfold augM at h
  cases e0 : env[i]? with
  | none => rw [e0] at h; exact False.elim h
  | some o =>
    cases o with
    | none => rw [e0] at h; exact False.elim h
    | some v =>
      cases v with
      | v d0 =>
        rw [e0] at h
        obtain ⟨u, hu, r0⟩ := RR.ent i _ e0
        refine ⟨u, hu, env, P, RR, After.mono (AfterS.ofR h) fun d env1 P1 H1 R1 F1 h1 y ky ny => ?_⟩
        cases e1 : g d0 d with
        | none => rw [e1] at h1; exact False.elim h1
        | some d2 =>
          rw [e1] at h1
          refine hD env1 σ P1 H1 d0 d u y d2 _ R1 (.inl (Rep.sub F1.mono _ _ r0)) (ky.rdb R1) e1 fun z P' H' R' F' kz nz => ?_
          obtain ⟨R2, F2⟩ := R'.setV (i := i) (d := d2) (x := z) kz
          exact h1 _ P' H' R2 (F'.trans F2) (FrP.set hp)
      | _ => rw [e0] at h; exact False.elim h
/-! ### a, b = e1, e2 -/
def parM (i j : Nat) (ma mb : M) : MS := fun env => (ma env).toS fun d1 e1 => (mb e1).toS fun d2 e2 => .nx ((e2.set i (some (.v d1))).set j (some (.v d2)))
theorem ds_par {i j : Nat} {x y : Str} {px py pt : Pos} {kt k2 : Nat} {pt2 : Pos} (hc : X.calm = true) (hN : X.N.Nodup) (hi : X.N[i]? = some x) (hj : X.N[j]? = some y) (hij : i ≠ j)
    (hx : X.env.scope.names.lookup x = some .local) (hy : X.env.scope.names.lookup y = some .local) (ha : DE T W X a .pure ma) (hb : DE T W X b .pure mb) (hpi : i ∉ pins := by decide) (hpj : j ∉ pins := by decide)
    (hw : swappedStores [.Tuple [.Name x px, .Name y py] kt pt] (.Tuple [a, b] k2 pt2) X.env = pure (some [x, y]) := by rfl)
    (hs : swapsWithSole [.Tuple [.Name x px, .Name y py] kt pt] (.Tuple [a, b] k2 pt2) pos.line X.env = pure false := by rfl)
    (h1 : starEach [a, b] X.env = (false, eval a X.env) :: starEach [b] X.env := by rfl) (h2 : starEach [b] X.env = (false, eval b X.env) :: starEach [] X.env := by rfl) :
    DS T W kr pins X (.Assign [.Tuple [.Name x px, .Name y py] kt pt] (.Tuple [a, b] k2 pt2) pos) (parM i j ma mb) := by
  refine ps_imp (ps_par hc hN hi hj hij hx hy (da_cons ha (da_cons hb da_nil trivial h2) trivial h1) hw hs) fun D σ H h => ?_
  obtain ⟨env, P, RR, h⟩ := h
  refine ⟨env, P, RR, ?_⟩
  have e0 : argsM [ma, mb] env = (ma env).bind fun d e1 => (mb e1).bind fun d' e2 => .ok [d, d'] e2 := by
    show ((ma env).bind fun d e1 => ((mb e1).bind fun d' e2 => (argsM [] e2).bind fun ds e3 => .ok (d' :: ds) e3).bind fun ds e2 => .ok (d :: ds) e2) = _
    cases ma env with
    | ok d e1 =>
      show ((mb e1).bind fun d' e2 => .ok [d'] e2).bind (fun ds e2 => .ok (d :: ds) e2) = (mb e1).bind fun d' e2 => .ok [d, d'] e2
      cases mb e1 <;> rfl
    | _ => rfl
  rw [e0]
  have h3 : After T W σ env P H ((ma env).bind fun d e1 => (mb e1).bind fun d' e2 => R.ok [d, d'] e2) (fun ds env' P' H' => ∃ d1 d2, ds = [d1, d2] ∧ AfterS T W kr pins env' σ P' H' (.nx ((env'.set i (some (.v d1))).set j (some (.v d2)))) D) := by
    have h4 := h.ofR
    cases q1 : ma env with
    | ok d1 env1 =>
      unfold parM at h
      rw [q1] at h
      show After T W σ env P H ((mb env1).bind fun d' e2 => R.ok [d1, d'] e2) _
      have h : AfterS T W kr pins env σ P H ((mb env1).toS fun d2 e2 => .nx ((e2.set i (some (.v d1))).set j (some (.v d2)))) D := h
      have h5 := h.ofR
      cases q2 : mb env1 with
      | ok d2 env2 => rw [q2] at h5; exact fun P2 H2 R2 F2 => ⟨d1, d2, rfl, h5 P2 H2 R2 F2⟩
      | exc c fs env2 => rw [q2] at h5; exact h5
      | stk => rw [q2] at h5; exact h5
    | exc c fs env1 => rw [q1] at h4; exact h4
    | stk => rw [q1] at h4; exact h4
  refine After.mono h3 fun ds env1 P1 H1 R1 F1 hq xs kxs => ?_
  obtain ⟨d1, d2, rfl, h6⟩ := hq
  have rs := kxs.pures (pures_cons (pures_cons pures_nil))
  rw [Reps] at rs
  obtain ⟨v, r, rfl, r1, rs⟩ := rs
  rw [Reps] at rs
  obtain ⟨w, r, rfl, r2, rs⟩ := rs
  rw [Reps] at rs; subst rs
  refine ⟨v, w, rfl, ?_⟩
  obtain ⟨R2, F2⟩ := R1.setV (i := i) r1
  obtain ⟨R3, F3⟩ := R2.setV (i := j) r2
  exact h6 _ P1 H1 R3 (F2.trans F3) ((FrP.set hpi).trans (FrP.set hpj))
end
end Ue

set_option linter.all false
set_option Elab.async false
set_option maxRecDepth 100000
set_option maxHeartbeats 4000000
namespace Ue
open PySem L2
/-! ### comprehensions -/
def wipeE : Env → List Nat → Env
  | env, [] => env
  | env, v :: vs => (wipeE env vs).set v none
theorem wipeE_length (env : Env) : ∀ vs, (wipeE env vs).length = env.length
  | [] => rfl
  | v :: vs => by unfold wipeE; rw [List.length_set, wipeE_length env vs]
theorem wipeE_get {env : Env} {i : Nat} {e : EV} : ∀ {vs : List Nat}, (wipeE env vs)[i]? = some (some e) → env[i]? = some (some e) ∧ i ∉ vs
  | [], h => ⟨h, by simp⟩
  | v :: vs, h => by
    unfold wipeE at h
    by_cases q : v = i
    · subst q
      by_cases hv : v < (wipeE env vs).length
      · rw [List.getElem?_set_self hv] at h; cases h
      · rw [List.getElem?_eq_none (by simpa using hv)] at h; cases h
    · rw [List.getElem?_set_ne q] at h
      obtain ⟨h1, h2⟩ := wipeE_get h
      exact ⟨h1, by simp only [List.mem_cons, not_or]; exact ⟨fun z => q z.symm, h2⟩⟩
theorem wipeE_out {env : Env} {i : Nat} : ∀ {vs : List Nat}, i ∉ vs → (wipeE env vs)[i]? = env[i]?
  | [], _ => rfl
  | v :: vs, h => by
    unfold wipeE
    simp only [List.mem_cons, not_or] at h
    rw [List.getElem?_set_ne (fun z => h.1 z.symm), wipeE_out h.2]
theorem wipe_in {σ : L2.St} {i : Nat} : ∀ {vs : List Nat}, i ∈ vs → (wipe σ vs)[i]? = if i < σ.length then some none else none
  | [], h => by cases h
  | v :: vs, h => by
    unfold wipe
    by_cases q : v = i
    · subst q
      by_cases hv : v < σ.length
      · rw [List.getElem?_set_self (by rw [wipe_length]; exact hv), if_pos hv]
      · rw [List.getElem?_eq_none (by simpa [wipe_length] using hv), if_neg hv]
    · rw [List.getElem?_set_ne q]
      rcases List.mem_cons.mp h with e | e
      · exact absurd e.symm q
      · exact wipe_in e
theorem wipe_same {σ σ' : L2.St} {vs sl : List Nat} (h : Out sl σ σ') (hs : ∀ i ∈ sl, i ∈ vs) : wipe σ' vs = wipe σ vs := by
  refine List.ext_getElem? fun i => ?_
  by_cases hi : i ∈ vs
  · rw [wipe_in hi, wipe_in hi, h.1]
  · rw [wipe_out hi, wipe_out hi]
    exact h.2 i fun z => hi (hs i z)
/-- the outer slots again, behind a turn -/
def restE (env env' : Env) (vs : List Nat) : Env := (List.range env.length).map fun i => if i ∈ vs then (env[i]?).getD none else (env'[i]?).getD none
/-- the block's names hold no own list -/
def vsOk (env : Env) (vs : List Nat) : Bool := vs.all fun i => match env[i]? with | some (some e) => !e.isOwn | _ => true
def compL (vs : List Nat) (g : TGM) (tt : MT) (te : M) : List D → Env → R (List D)
  | [], e => .ok [] e
  | d :: ds, e => if vsOk e vs then
      (match g d (wipeE e vs) with
       | none => .stk
       | some e1 => match tt e1 with
         | .ok true e2 => (match te e2 with
           | .ok y e3 => (compL vs g tt te ds (restE e e3 vs)).bind fun ys e' => .ok (y :: ys) e'
           | _ => .stk)
         | .ok false e2 => compL vs g tt te ds (restE e e2 vs)
         | _ => .stk)
    else .stk
def compM (vs : List Nat) (mi : MI) (g : TGM) (tt : MT) (te : M) : M := fun env => (mi env).bind fun ds e => if ds.length ≤ sizeLine then (compL vs g tt te ds e).bind fun ys e' => .ok (.lst ys) e' else .stk
def yesT : MT := fun env => .ok true env
section
variable {T : Tab} {W : WX} {kr : Kd} {pins : List Nat} {env env' : Env} {σ σ' : L2.St} {P H P' H' : Hp} {X : Cx} {pos : Pos} {tg e a b : Expr} {k ka kb : Kd} {m ma mb : M} {vs : List Nat}
theorem wipe_get {i : Nat} {x : V} (h : σ[i]? = some (some x)) (hi : i ∉ vs) : (wipe σ vs)[i]? = some (some x) := by rw [wipe_out hi]; exact h
theorem Rel.wiped (RR : Rel T env σ P H) (hv : vsOk env vs = true) : Rel T (wipeE env vs) (wipe σ vs) P H ∧ (∀ b, Own (wipeE env vs) (wipe σ vs) b ↔ Own env σ b) := by
  have nown : ∀ i e, env[i]? = some (some e) → e.isOwn = true → i ∉ vs := fun i e h o z => by
    have := List.all_eq_true.mp hv i z
    rw [h] at this
    simp [o] at this
  have w1 : ∀ b, Own (wipeE env vs) (wipe σ vs) b → Own env σ b := fun b ⟨i, e, h1, h2, h3⟩ => by
    obtain ⟨g1, g2⟩ := wipeE_get h1
    exact ⟨i, e, g1, h2, (wipe_some h3).1⟩
  have w2 : ∀ b, Own env σ b → Own (wipeE env vs) (wipe σ vs) b := fun b ⟨i, e, h1, h2, h3⟩ => by
    have ni := nown i e h1 h2
    exact ⟨i, e, by rw [wipeE_out ni]; exact h1, h2, wipe_get h3 ni⟩
  refine ⟨⟨RR.sub, fun i e h => ?_, fun i j e f a n h1 h2 o1 o2 s1 s2 => ?_, by rw [wipeE_length, wipe_length]; exact RR.len⟩, fun b => ⟨w1 b, w2 b⟩⟩
  · obtain ⟨g1, g2⟩ := wipeE_get h
    obtain ⟨v, hv, r⟩ := RR.ent i e g1
    exact ⟨v, wipe_get hv g2, r⟩
  · exact RR.dis i j e f a n (wipeE_get h1).1 (wipeE_get h2).1 o1 o2 (wipe_some s1).1 (wipe_some s2).1
theorem restE_get {env env' : Env} {i : Nat} {e : EV} (hl : env'.length = env.length) (h : (restE env env' vs)[i]? = some (some e)) : (i ∈ vs ∧ env[i]? = some (some e)) ∨ (i ∉ vs ∧ env'[i]? = some (some e)) := by
  have hi : i < env.length := by
    rcases Nat.lt_or_ge i env.length with q | q
    · exact q
    · rw [List.getElem?_eq_none (by simpa [restE] using q)] at h; cases h
  have e1 : (restE env env' vs)[i]? = some (if i ∈ vs then (env[i]?).getD none else (env'[i]?).getD none) := by simp [restE, hi]
  rw [e1] at h
  have h := Option.some.inj h
  by_cases z : i ∈ vs
  · rw [if_pos z] at h
    rw [List.getElem?_eq_getElem hi] at h ⊢
    exact .inl ⟨z, congrArg some h⟩
  · rw [if_neg z] at h
    have hi' : i < env'.length := by omega
    rw [List.getElem?_eq_getElem hi'] at h ⊢
    exact .inr ⟨z, congrArg some h⟩
/-- behind a turn: the outer names again -/
theorem Rel.rest {env2 : Env} {σ2 : L2.St} {P2 H2 : Hp} (RR : Rel T env σ P H) (hv : vsOk env vs = true) (R2 : Rel T env2 σ2 P2 H2) (F2 : Fr (wipeE env vs) (wipe σ vs) P H env2 σ2 P2 H2) (hw : wipe σ2 vs = wipe σ vs) :
    Rel T (restE env env2 vs) σ P2 H2 ∧ Fr env σ P H (restE env env2 vs) σ P2 H2 := by
  obtain ⟨R1, o1⟩ := RR.wiped hv
  have hl2 : env2.length = env.length := by
    have h1 := congrArg List.length hw
    rw [wipe_length, wipe_length] at h1
    rw [R2.len, RR.len, h1]
  have hσ : ∀ i, i ∉ vs → σ2[i]? = σ[i]? := fun i hi => by
    have q : (wipe σ2 vs)[i]? = (wipe σ vs)[i]? := by rw [hw]
    rwa [wipe_out hi, wipe_out hi] at q
  have nown : ∀ i e, env[i]? = some (some e) → i ∈ vs → e.isOwn = false := fun i e h z => by
    have := List.all_eq_true.mp hv i z
    rw [h] at this
    simpa using this
  have ob : ∀ b, Own (restE env env2 vs) σ b → Own env2 σ2 b := fun b ⟨i, e, h1, h2, h3⟩ => by
    rcases restE_get hl2 h1 with ⟨z, q⟩ | ⟨z, q⟩
    · rw [nown i e q z] at h2; cases h2
    · exact ⟨i, e, q, h2, by rw [hσ i z]; exact h3⟩
  refine ⟨⟨R2.sub, fun i e h => ?_, fun i j e f a n h1 h2 o1 o2 s1 s2 => ?_, by simp only [restE, List.length_map, List.length_range]; exact RR.len⟩, fun b u h n => ?_, fun b h n z => ?_, F2.mono, fun b h => ?_, F2.there⟩
  · rcases restE_get hl2 h with ⟨z, q⟩ | ⟨z, q⟩
    · obtain ⟨v, hv, r⟩ := RR.ent i e q
      refine ⟨v, hv, r.grow F2.mono fun b u _ _ o _ => ?_⟩
      rw [nown i e q z] at o; cases o
    · obtain ⟨v, hv, r⟩ := R2.ent i e q
      exact ⟨v, by rw [← hσ i z]; exact hv, r⟩
  · rcases restE_get hl2 h1 with ⟨z, q⟩ | ⟨z, q⟩
    · rw [nown i e q z] at o1; cases o1
    · rcases restE_get hl2 h2 with ⟨z', q'⟩ | ⟨z', q'⟩
      · rw [nown j f q' z'] at o2; cases o2
      · exact R2.dis i j e f a n q q' o1 o2 (by rw [hσ i z]; exact s1) (by rw [hσ j z']; exact s2)
  · exact F2.keep b u h fun z => n ((o1 b).mp z)
  · exact F2.own b h (fun z => n ((o1 b).mp z)) (ob b z)
  · rcases F2.new b h with q | q | q
    · exact .inl q
    · exact .inr (.inl q)
    · exact .inr (.inr ((o1 b).mp q))
theorem Rel.poke {L : Addr} {o : HO} (RR : Rel T env σ P H) (hp : P L = none) (no : ¬ Own env σ L) : Rel T env σ P (upd H L o) := by
  refine ⟨fun b u h => ?_, fun i e h => ?_, RR.dis, RR.len⟩
  · rw [upd_ne (ne_of_none h hp)]; exact RR.sub b u h
  · obtain ⟨v, hv, r⟩ := RR.ent i e h
    refine ⟨v, hv, r.grow (PSub.refl _) fun b u h1 h2 h3 h4 => ⟨?_, h2⟩⟩
    have hb : b ≠ L := by rintro rfl; exact no ⟨i, e, h, h3, by rw [hv, h4]⟩
    rw [upd_ne hb]; exact h1
theorem Fr.poke {L : Addr} {o : HO} (F : Fr env σ P H env' σ' P' H') (hL : H L = none) : Fr env σ P H env' σ' P' (upd H' L o) := by
  refine ⟨fun b u h n => ?_, F.own, F.mono, F.new, fun b h => ?_⟩
  · rw [upd_ne (ne_of_none h hL)]; exact F.keep b u h n
  · by_cases hb : b = L
    · subst hb; rw [upd_same]; exact fun z => nomatch z
    · rw [upd_ne hb]; exact F.there b h
/-- the invariant of a comprehension: so many taken, the list so far at L -/
def LcInv (T : Tab) (W : WX) (vs : List Nat) (g : TGM) (tt : MT) (te : M) (σ : L2.St) (ds : List D) (env1 : Env) (P1 H1 : Hp) (L : Addr) (Qf : D → Env → Hp → Hp → Prop) (i : Nat) (H : Hp) : Prop :=
  ∃ (e : Env) (P2 : Hp) (vs2 : List V) (ys : List D), Rel T e σ P2 H ∧ Fr env1 σ P1 H1 e σ P2 H ∧ ¬ Own e σ L ∧ P2 L = none ∧ H L = some (.lst vs2) ∧ Reps T P2 ys vs2 ∧ ys.length ≤ i ∧
    After T W σ env1 P1 H1 ((compL vs g tt te (ds.drop i) e).bind fun zs e' => .ok (.lst (ys ++ zs)) e') Qf
theorem rd_lc {mi : MI} {g : TGM} {tt : MT} {te : M} {sl : List Nat} (hsl : ∀ i ∈ sl, i ∈ vs) {Q : VK} (h : rdE T W .fresh (compM vs mi g tt te) σ H Q) :
    tLc (rdI T W mi) (rdG T sl g) (rdT T (fun _ _ _ _ => False) tt) (rdE T (fun _ _ _ _ => False) .pure te) vs σ H Q := by
  obtain ⟨env, P, RR, h⟩ := h
  refine ⟨env, P, RR, After.mono h.bind fun ds env1 P1 H1 R1 F1 h1 J hJ => ?_⟩
  intro L hL
  by_cases hz : ¬ ds.length ≤ sizeLine
  · rw [if_neg hz] at h1; exact False.elim h1
  have hz : ds.length ≤ sizeLine := Classical.not_not.mp hz
  rw [if_pos hz] at h1
  have hLH : H L = none := Classical.byContradiction fun z => F1.there L z hL
  refine ⟨fun i m H2 => m = ds.length - i ∧ LcInv T W vs g tt te σ ds env1 P1 H1 L (fun d env' P' H' => ∀ x, KRep T .fresh env' σ P' H' d x → NewV .fresh H x → Q x H') i H2, ?_, ?_⟩
  · obtain ⟨R2, F2, no, pn⟩ := R1.newF (o := .lst []) hL
    exact ⟨ds.length, by simp, env1, P1, [], [], R2, F2, no, pn, upd_same, Reps.nil, Nat.zero_le _, h1⟩
  · rintro i m H3 ⟨rfl, e, P3, vs3, ys, R3, F3, nownL, pL, hD, rys, hy, h3⟩
    obtain ⟨j1, j2⟩ := hJ P3 H3 F3.mono R3.sub
    cases c : ds[i]? with
    | none =>
      have hi : ds.length ≤ i := List.getElem?_eq_none_iff.mp c
      rw [List.drop_eq_nil_of_le hi] at h3
      refine .inl ⟨j2 i hi, ?_⟩
      have h3 : After T W σ env1 P1 H1 (R.ok (D.lst (ys ++ [])) e) _ := h3
      rw [List.append_nil] at h3
      exact h3 P3 H3 R3 F3 _ ⟨L, vs3, ys, rfl, hD, pL, nownL, rys, rfl⟩ ⟨L, rfl, hLH⟩
    | some d =>
      have hi : i < ds.length := by
        rcases Nat.lt_or_ge i ds.length with q | q
        · exact q
        · rw [List.getElem?_eq_none q] at c; cases c
      have ed : ds.drop i = d :: ds.drop (i + 1) := by
        rw [List.drop_eq_getElem_cons hi]
        rw [List.getElem?_eq_getElem hi] at c
        rw [Option.some.inj c]
      rw [ed] at h3
      unfold compL at h3
      by_cases hv : ¬ vsOk e vs = true
      · rw [if_neg hv] at h3; exact False.elim h3
      have hv : vsOk e vs = true := Classical.not_not.mp hv
      rw [if_pos hv] at h3
      obtain ⟨j3, j4⟩ := j1 i d c
      refine .inr ⟨j3, LcInv T W vs g tt te σ ds env1 P1 H1 L (fun d env' P' H' => ∀ x, KRep T .fresh env' σ P' H' d x → NewV .fresh H x → Q x H') (i + 1), fun H' q => ⟨ds.length - (i + 1), by omega, rfl, q⟩, fun x H' y => ?_⟩
      obtain ⟨P4, r4, g4⟩ := j4 x H' y
      obtain ⟨R4, F4⟩ := R3.grow1 g4
      obtain ⟨R5, o5⟩ := R4.wiped hv
      cases c2 : g d (wipeE e vs) with
      | none => rw [c2] at h3; exact False.elim h3
      | some e6 =>
        rw [c2] at h3
        refine ⟨wipeE e vs, P4, d, R5, r4, e6, c2, fun σ6 R6 F6 p6 => ?_⟩
        have hw0 : wipe σ6 vs = wipe (wipe σ vs) vs := wipe_same p6 hsl
        have hww : wipe (wipe σ vs) vs = wipe σ vs := by
          refine List.ext_getElem? fun j => ?_
          by_cases hj : j ∈ vs
          · rw [wipe_in hj, wipe_in hj, wipe_length]
          · rw [wipe_out hj]
        have hw : wipe σ6 vs = wipe σ vs := hw0.trans hww
        refine ⟨hw, e6, P4, R6, ?_⟩
        cases c3 : tt e6 with
        | exc _ _ _ => simp only [c3] at h3; exact False.elim h3
        | stk => simp only [c3] at h3; exact False.elim h3
        | ok b e7 =>
          intro P7 H7 R7 F7
          cases b with
          | false =>
            simp only [c3] at h3
            refine iteF ?_
            obtain ⟨R8, F8⟩ := R4.rest hv R7 (F6.trans F7) hw
            have FF := F4.trans F8
            have hD8 : H7 L = some (.lst vs3) := FF.keep L _ hD nownL
            have n8 : ¬ Own (restE e e7 vs) σ L := FF.own L (by rw [hD]; exact fun z => nomatch z) nownL
            have p8 : P7 L = none := by
              refine Classical.byContradiction fun z => ?_
              rcases FF.new L z with q | q | q
              · exact q pL
              · rw [hD] at q; cases q
              · exact nownL q
            exact ⟨restE e e7 vs, P7, vs3, ys, R8, F3.trans FF, n8, p8, hD8, Reps.sub FF.mono _ _ rys, Nat.le_succ_of_le hy, h3⟩
          | true =>
            simp only [c3] at h3
            refine iteT ⟨e7, P7, R7, ?_⟩
            cases c4 : te e7 with
            | exc _ _ _ => simp only [c4] at h3; exact False.elim h3
            | stk => simp only [c4] at h3; exact False.elim h3
            | ok z e8 =>
              simp only [c4] at h3
              intro P9 H9 R9 F9 v kv nv
              have kv : Rep T P9 z v := kv
              obtain ⟨R8, F8⟩ := R4.rest hv R9 (F6.trans (F7.trans F9)) hw
              have FF := F4.trans F8
              have hD8 : H9 L = some (.lst vs3) := FF.keep L _ hD nownL
              have n8 : ¬ Own (restE e e8 vs) σ L := FF.own L (by rw [hD]; exact fun z => nomatch z) nownL
              have p8 : P9 L = none := by
                refine Classical.byContradiction fun z => ?_
                rcases FF.new L z with q | q | q
                · exact q pL
                · rw [hD] at q; cases q
                · exact nownL q
              have rys9 := Reps.sub FF.mono _ _ rys
              refine ⟨vs3, hD8, by rw [rys.length]; omega, restE e e8 vs, P9, vs3 ++ [v], ys ++ [z], R8.poke p8 n8, (F3.trans FF).poke hL, n8, p8, upd_same, rys9.append (Reps.cons kv Reps.nil), by simp; omega, ?_⟩
              have ea : ((compL vs g tt te (List.drop (i + 1) ds) (restE e e8 vs)).bind fun ys_1 e' => (R.ok (z :: ys_1) e' : Ue.R (List D))).bind (fun zs e' => (R.ok (D.lst (ys ++ zs)) e' : Ue.R D)) = (compL vs g tt te (List.drop (i + 1) ds) (restE e e8 vs)).bind fun zs e' => R.ok (D.lst (ys ++ [z] ++ zs)) e' := by
                cases compL vs g tt te (List.drop (i + 1) ds) (restE e e8 vs) with
                | ok zs e' => show R.ok (D.lst (ys ++ (z :: zs))) e' = R.ok (D.lst (ys ++ [z] ++ zs)) e'; rw [List.append_assoc]; rfl
                | _ => rfl
              rw [ea] at h3
              exact h3
/-- [elt for tg in iter if t] -/
def DTs (T : Tab) (W : WX) (X : Cx) (ifs : List Expr) (m : MT) : Prop := PTs X ifs (rdT T W m)
theorem dts_nil : DTs T W X [] yesT := ⟨fun pins s σ H Q I h => pts_nil.run pins s σ H Q I (by
  obtain ⟨env, P, RR, h⟩ := h
  exact h.here RR (Fr.refl _ _ _ _))⟩
theorem dts_one {c : Expr} {t : MT} (h : DT T W X c t) : DTs T W X [c] t := pts_one h
abbrev W0 : WX := fun _ _ _ _ => False
theorem de_lc {elt iter : Expr} {ifs : List Expr} {scope : Scope} {own : List (Str × Nat)} {mi : MI} {g : TGM} {tt : MT} {te : M} {sl : List Nat} (hc : X.calm = true) (hN : X.N.Nodup) (hi : DI T W X tg iter mi) (ok : BlkOk X.N X.env.scope scope own)
    (hg : ∀ (s : Shared) (H : Hp) (C : Addr) (cl : List (Str × Addr)) (fp : List Addr), DG T sl (X.blk s H scope (compEnvC scope cl C X.env) fp) tg g)
    (ht : ∀ (s : Shared) (H : Hp) (C : Addr) (cl : List (Str × Addr)) (fp : List Addr), DTs T W0 (X.blk s H scope (compEnvC scope cl C X.env) fp) ifs tt)
    (he : ∀ (s : Shared) (H : Hp) (C : Addr) (cl : List (Str × Addr)) (fp : List Addr), DE T W0 (X.blk s H scope (compEnvC scope cl C X.env) fp) elt .pure te)
    (hsl : ∀ i ∈ sl, i ∈ own.map (·.2) := by decide) (hs : ∀ x, foldedSetIterable iter X.env x = pure x := by intro _; rfl) : DE T W X (.ListComp elt [⟨tg, iter, ifs, 0⟩] scope pos) .fresh (compM (own.map (·.2)) mi g tt te) :=
  pe_imp (pe_lc hc hN hi ok hg ht he hs) fun _ _ _ h => rd_lc hsl h
section
variable {i : Nat} {y : Str} {py spos : Pos} {elt iter : Expr} {ifs : List Expr} {scope : Scope} {own : List (Str × Nat)} {mi : MI} {g : TGM} {tt : MT} {te : M} {sl : List Nat}
theorem ds_setLcO (hc : X.calm = true) (hN : X.N.Nodup) (hy : X.N[i]? = some y) (hyl : X.env.scope.names.lookup y = some .local)
    (hsw : swapsWith (.ListComp elt [⟨tg, iter, ifs, 0⟩] scope pos) (some (.Name y py)) spos.line X.env = pure true) (hi : DI T W X tg iter mi) (ok : BlkOk X.N X.env.scope scope own)
    (hg : ∀ (s : Shared) (H : Hp) (C : Addr) (cl : List (Str × Addr)) (fp : List Addr), DG T sl (X.blk s H scope (compEnvC scope cl C X.env) fp) tg g)
    (ht : ∀ (s : Shared) (H : Hp) (C : Addr) (cl : List (Str × Addr)) (fp : List Addr), DTs T W0 (X.blk s H scope (compEnvC scope cl C X.env) fp) ifs tt)
    (he : ∀ (s : Shared) (H : Hp) (C : Addr) (cl : List (Str × Addr)) (fp : List Addr), DE T W0 (X.blk s H scope (compEnvC scope cl C X.env) fp) elt .pure te)
    (hp : i ∉ pins := by decide) (hsl : ∀ i ∈ sl, i ∈ own.map (·.2) := by decide) (hs : ∀ x, foldedSetIterable iter X.env x = pure x := by intro _; rfl) :
    DS T W kr pins X (.Assign [.Name y py] (.ListComp elt [⟨tg, iter, ifs, 0⟩] scope pos) spos) (setOM i (compM (own.map (·.2)) mi g tt te)) :=
  ps_imp (ps_setLc hc hN hy hyl hsw hi ok hg ht he hs) fun D σ H h => rd_lc hsl (rd_setO hp h)
/-- .. that stays -/
theorem ds_setLc (hc : X.calm = true) (hN : X.N.Nodup) (hy : X.N[i]? = some y) (hyl : X.env.scope.names.lookup y = some .local)
    (hsw : swapsWith (.ListComp elt [⟨tg, iter, ifs, 0⟩] scope pos) (some (.Name y py)) spos.line X.env = pure true) (hi : DI T W X tg iter mi) (ok : BlkOk X.N X.env.scope scope own)
    (hg : ∀ (s : Shared) (H : Hp) (C : Addr) (cl : List (Str × Addr)) (fp : List Addr), DG T sl (X.blk s H scope (compEnvC scope cl C X.env) fp) tg g)
    (ht : ∀ (s : Shared) (H : Hp) (C : Addr) (cl : List (Str × Addr)) (fp : List Addr), DTs T W0 (X.blk s H scope (compEnvC scope cl C X.env) fp) ifs tt)
    (he : ∀ (s : Shared) (H : Hp) (C : Addr) (cl : List (Str × Addr)) (fp : List Addr), DE T W0 (X.blk s H scope (compEnvC scope cl C X.env) fp) elt .pure te)
    (hp : i ∉ pins := by decide) (hsl : ∀ i ∈ sl, i ∈ own.map (·.2) := by decide) (hs : ∀ x, foldedSetIterable iter X.env x = pure x := by intro _; rfl) :
    DS T W kr pins X (.Assign [.Name y py] (.ListComp elt [⟨tg, iter, ifs, 0⟩] scope pos) spos) (setM i (compM (own.map (·.2)) mi g tt te)) :=
  ps_imp (ps_setLc hc hN hy hyl hsw hi ok hg ht he hs) fun D σ H h => rd_lc hsl (rd_frz (rd_set hp h))
end
end
end Ue

set_option linter.all false
set_option Elab.async false
set_option maxRecDepth 100000
set_option maxHeartbeats 4000000
namespace Ue
open PySem L2
/-! ### defs -/
inductive CRes where
  | ok (d : D) (as : List EV) | exc (c : Nat) (fs : List D) (as : List EV) | stk
abbrev FM := List EV → CRes
def spF (T : Tab) (kr : Kd) (n : Nat) (F : FM) : Sp := fun vs H Q E => ∃ (as : List EV) (P : Hp), Rel T (as.map some) (vs.map some) P H ∧ vs.length = n ∧
  match F as with
  | .ok d as' => ∀ P' H' x, Rel T (as'.map some) (vs.map some) P' H' → Fr (as.map some) (vs.map some) P H (as'.map some) (vs.map some) P' H' → KRep T kr (as'.map some) (vs.map some) P' H' d x → NewV kr H x → Q x H'
  | .exc c fs as' => ∀ P' H' cls dd, Rel T (as'.map some) (vs.map some) P' H' → Fr (as.map some) (vs.map some) P H (as'.map some) (vs.map some) P' H' → ExRep T P' H' c fs cls dd → E cls dd H'
  | .stk => False
/-- the parameters behind the body: the own lists as they stand then -/
def finA (pins : List Nat) : Nat → List EV → Env → Option (List EV)
  | _, [], _ => some []
  | i, .own _ :: as, e => (if i ∈ pins then (match e[i]? with | some (some (.own ds)) => (finA pins (i + 1) as e).map (.own ds :: ·) | _ => none) else none)
  | i, .v d :: as, e => (finA pins (i + 1) as e).map (.v d :: ·)
  | _, _ :: _, _ => none
def envOf (n : Nat) (as : List EV) : Env := as.map some ++ List.replicate (n - as.length) none
def kdOf (fr : Bool) : Kd := if fr then .fresh else .pure
def endF (fr : Bool) (pins : List Nat) (as : List EV) (r : SR) : CRes :=
  match r with
  | .nx e => if fr then .stk else (match finA pins 0 as e with | some as' => .ok .non as' | none => .stk)
  | .ret d e => (match finA pins 0 as e with | some as' => .ok d as' | none => .stk)
  | .exc c fs e => (match finA pins 0 as e with | some as' => .exc c fs as' | none => .stk)
  | _ => .stk
def runF (fr : Bool) (n : Nat) (pins : List Nat) (body : MS) : FM := fun as => endF fr pins as (body (envOf n as))
section
variable {T : Tab} {pins : List Nat} {env env' : Env} {σ σ' : L2.St} {P H P' H' : Hp} {as as' : List EV} {vs : List V} {N : List Str}
theorem start_get {i : Nat} {x : V} (h : (L2.start N vs)[i]? = some (some x)) : (vs.map some)[i]? = some (some x) := by
  unfold L2.start at h
  by_cases hi : i < vs.length
  · rw [List.getElem?_append_left (by simpa using hi)] at h; exact h
  · rw [List.getElem?_append_right (by simpa using hi), List.getElem?_replicate] at h
    split at h <;> cases h
theorem start_lt {i : Nat} (hi : i < vs.length) : (L2.start N vs)[i]? = (vs.map some)[i]? := by
  unfold L2.start; rw [List.getElem?_append_left (by simpa using hi)]
theorem envOf_get {n i : Nat} {e : EV} (h : (envOf n as)[i]? = some (some e)) : (as.map some)[i]? = some (some e) ∧ i < as.length := by
  unfold envOf at h
  by_cases hi : i < as.length
  · rw [List.getElem?_append_left (by simpa using hi)] at h; exact ⟨h, hi⟩
  · rw [List.getElem?_append_right (by simpa using hi), List.getElem?_replicate] at h
    split at h <;> cases h
theorem envOf_lt {n i : Nat} (hi : i < as.length) : (envOf n as)[i]? = (as.map some)[i]? := by
  unfold envOf; rw [List.getElem?_append_left (by simpa using hi)]
theorem Rel.pad (R1 : Rel T (as.map some) (vs.map some) P H) (hn : as.length ≤ N.length) : Rel T (envOf N.length as) (L2.start N vs) P H ∧ ∀ b, Own (envOf N.length as) (L2.start N vs) b ↔ Own (as.map some) (vs.map some) b := by
  have hl : as.length = vs.length := by simpa using R1.len
  refine ⟨⟨R1.sub, fun i e h => ?_, fun i j e f a n h1 h2 o1 o2 s1 s2 => ?_, ?_⟩, fun b => ⟨fun ⟨i, e, h1, h2, h3⟩ => ⟨i, e, (envOf_get h1).1, h2, start_get h3⟩, fun ⟨i, e, h1, h2, h3⟩ => ?_⟩⟩
  · obtain ⟨h1, h2⟩ := envOf_get h
    obtain ⟨v, hv, r⟩ := R1.ent i e h1
    exact ⟨v, by rw [start_lt (by omega)]; exact hv, r⟩
  · exact R1.dis i j e f a n (envOf_get h1).1 (envOf_get h2).1 o1 o2 (start_get s1) (start_get s2)
  · unfold envOf L2.start; simp [hl]
  · have hi : i < as.length := by
      rcases Nat.lt_or_ge i as.length with q | q
      · exact q
      · rw [List.getElem?_eq_none (by simpa using q)] at h1; cases h1
    exact ⟨i, e, by rw [envOf_lt hi]; exact h1, h2, by rw [start_lt (by omega)]; exact h3⟩
theorem finA_get : ∀ {as as' : List EV} {j : Nat} {e : Env}, finA pins j as e = some as' → as'.length = as.length ∧ ∀ i f, as'[i]? = some f → (∃ d, f = .v d ∧ as[i]? = some (.v d)) ∨ (∃ ds ds0, f = .own ds ∧ as[i]? = some (.own ds0) ∧ j + i ∈ pins ∧ e[j + i]? = some (some (.own ds)))
  | [], as', j, e, h => by cases h; exact ⟨rfl, fun i f h => by simp at h⟩
  | .own d0 :: as, as', j, e, h => by
    unfold finA at h
    by_cases hp : j ∈ pins
    · rw [if_pos hp] at h
      cases q : e[j]? with
      | none => rw [q] at h; cases h
      | some o =>
        cases o with
        | none => rw [q] at h; cases h
        | some v =>
          cases v with
          | own ds =>
            rw [q] at h
            have h : (finA pins (j + 1) as e).map (EV.own ds :: ·) = some as' := h
            cases q2 : finA pins (j + 1) as e with
            | none => rw [q2] at h; cases h
            | some as2 =>
              rw [q2] at h; cases h
              obtain ⟨l, k⟩ := finA_get q2
              refine ⟨by simp [l], fun i f hf => ?_⟩
              cases i with
              | zero => simp at hf; subst hf; exact .inr ⟨ds, d0, rfl, rfl, hp, q⟩
              | succ i =>
                simp only [List.getElem?_cons_succ] at hf ⊢
                have := k i f hf
                rwa [show j + 1 + i = j + (i + 1) by omega] at this
          | _ => rw [q] at h; cases h
    · rw [if_neg hp] at h; cases h
  | .v d :: as, as', j, e, h => by
    have h : (finA pins (j + 1) as e).map (EV.v d :: ·) = some as' := h
    cases q2 : finA pins (j + 1) as e with
    | none => rw [q2] at h; cases h
    | some as2 =>
      rw [q2] at h; cases h
      obtain ⟨l, k⟩ := finA_get q2
      refine ⟨by simp [l], fun i f hf => ?_⟩
      cases i with
      | zero => simp at hf; subst hf; exact .inl ⟨d, rfl, rfl⟩
      | succ i =>
        simp only [List.getElem?_cons_succ] at hf ⊢
        have := k i f hf
        rwa [show j + 1 + i = j + (i + 1) by omega] at this
  | .new _ _ :: as, as', j, e, h => by cases h
  | .ex _ _ :: as, as', j, e, h => by cases h
/-- behind the body: the caller's view -/
theorem Rel.out (R1 : Rel T (as.map some) (vs.map some) P H) (hn : as.length ≤ N.length) (hf : finA pins 0 as env' = some as') (R2 : Rel T env' σ' P' H') (F2 : Fr (envOf N.length as) (L2.start N vs) P H env' σ' P' H') (hp : FrP pins (L2.start N vs) σ') :
    Rel T (as'.map some) (vs.map some) P' H' ∧ Fr (as.map some) (vs.map some) P H (as'.map some) (vs.map some) P' H' ∧ ∀ b, Own (as'.map some) (vs.map some) b → Own env' σ' b := by
  obtain ⟨hl, hk⟩ := finA_get hf
  have hlv : as.length = vs.length := by simpa using R1.len
  obtain ⟨_, o1⟩ := R1.pad hn
  have get : ∀ i e, (as'.map some)[i]? = some (some e) → as'[i]? = some e := fun i e h => by
    rw [List.getElem?_map] at h
    cases q : as'[i]? with
    | none => rw [q] at h; cases h
    | some f => rw [q] at h; cases h; rfl
  have σeq : ∀ i, i ∈ pins → i < vs.length → σ'[i]? = (vs.map some)[i]? := fun i hi hv => by rw [hp i hi, start_lt hv]
  have lt : ∀ i e, as'[i]? = some e → i < vs.length := fun i e h => by
    rcases Nat.lt_or_ge i as'.length with q | q
    · omega
    · rw [List.getElem?_eq_none q] at h; cases h
  have ow : ∀ b, Own (as'.map some) (vs.map some) b → Own env' σ' b ∧ Own (as.map some) (vs.map some) b := fun b ⟨i, e, h1, h2, h3⟩ => by
    have h1 := get i e h1
    rcases hk i e h1 with ⟨d, rfl, _⟩ | ⟨ds, ds0, rfl, q1, q2, q3⟩
    · cases h2
    · rw [Nat.zero_add] at q2 q3
      exact ⟨⟨i, _, q3, rfl, by rw [σeq i q2 (lt i _ h1)]; exact h3⟩, i, .own ds0, by rw [List.getElem?_map, q1]; rfl, rfl, h3⟩
  refine ⟨⟨R2.sub, fun i e h => ?_, fun i j e f a n h1 h2 o1 o2 s1 s2 => ?_, by simp [hl, hlv]⟩, ⟨fun b u h n => ?_, fun b h n z => ?_, F2.mono, fun b h => ?_, F2.there⟩, fun b z => (ow b z).1⟩
  · have h := get i e h
    have hi := lt i e h
    rcases hk i e h with ⟨d, rfl, q⟩ | ⟨ds, ds0, rfl, q1, q2, q3⟩
    · obtain ⟨v, hv, r⟩ := R1.ent i (.v d) (by rw [List.getElem?_map, q]; rfl)
      exact ⟨v, hv, Rep.sub F2.mono _ _ r⟩
    · rw [Nat.zero_add] at q2 q3
      obtain ⟨v, hv, r⟩ := R2.ent i _ q3
      exact ⟨v, by rw [← σeq i q2 hi]; exact hv, r⟩
  · have h1 := get i e h1
    have h2 := get j f h2
    rcases hk i e h1 with ⟨d, rfl, _⟩ | ⟨ds, ds0, rfl, q1, q2, q3⟩
    · cases o1
    · rcases hk j f h2 with ⟨d, rfl, _⟩ | ⟨es, es0, rfl, w1, w2, w3⟩
      · cases o2
      · rw [Nat.zero_add] at q2 q3 w2 w3
        exact R2.dis i j _ _ a n q3 w3 rfl rfl (by rw [σeq i q2 (lt i _ h1)]; exact s1) (by rw [σeq j w2 (lt j _ h2)]; exact s2)
  · exact F2.keep b u h fun z => n ((o1 b).mp z)
  · exact F2.own b h (fun q => n ((o1 b).mp q)) (ow b z).1
  · rcases F2.new b h with q | q | q
    · exact .inl q
    · exact .inr (.inl q)
    · exact .inr (.inr ((o1 b).mp q))
/-- a def keeps its promise, by its body -/
theorem fn_ok {prog : Program} {w : World} {K : PySem.W.Frag} {mg : Str → Option Value} {base : Heap} {x qual : Str} {params : Arguments} {body : List Stmt} {scope : Scope} {dvs : List V} {kws : List (Str × V)} {f : Addr} {fd : FuncData} {ps : List Str} {k : Nat} {fr : Bool} {m : MS}
    (F : FunD K x qual params body scope dvs kws f fd) (S : FnScope N ps scope) (hps : ps.length ≤ N.length)
    (hb : ∀ (cdv : Value) (A : Around) (outer : List PySem.Env) (s : Shared) (H : Hp) (E : XK), Room k (A.deeper (PyProof.Rows.envOfC qual scope s.heap.objs.size f cdv)) →
      DSs T (fun cls d _ H => E cls d H) (kdOf fr) pins (cxOf (CX prog w) prog w K mg base N qual scope f cdv A outer s H E) body m) : FnOk prog w K mg base (CX prog w) (k + 1) f fd ps (spF T (kdOf fr) ps.length (runF fr N.length pins m)) := by
  refine F.ok S (fun vs H Q E h => ?_) fun cdv A outer s H vs Q E hr h => ?_
  · obtain ⟨as, P, _, hl, _⟩ := h
    exact hl
  · obtain ⟨as, P, R1, hl, h⟩ := h
    have hla : as.length = vs.length := by simpa using R1.len
    have hn : as.length ≤ N.length := by omega
    refine ⟨_, hb cdv A outer s H E hr, envOf N.length as, P, (R1.pad hn).1, ?_⟩
    unfold runF endF at h
    cases e1 : m (envOf N.length as) with
    | nx e2 =>
      rw [e1] at h
      cases fr with
      | true => exact False.elim h
      | false =>
      intro σ' P' H' R2 F2 p2
      cases e3 : finA pins 0 as e2 with
      | none => (simp only [e3] at h) <;> exact False.elim h
      | some as' =>
        simp only [e3] at h
        obtain ⟨R3, F3, o3⟩ := R1.out hn e3 R2 F2 p2
        exact h P' H' .non R3 F3 (show Rep T P' .non .non from rep_non) trivial
    | ret d e2 =>
      rw [e1] at h
      intro σ' P' H' x R2 F2 p2 kx nx
      cases e3 : finA pins 0 as e2 with
      | none => (simp only [e3] at h) <;> exact False.elim h
      | some as' =>
        simp only [e3] at h
        obtain ⟨R3, F3, o3⟩ := R1.out hn e3 R2 F2 p2
        cases fr with
        | false => exact h P' H' x R3 F3 kx trivial
        | true =>
          obtain ⟨a, ws, ds, q1, q2, q3, q4, q5, q6⟩ := kx
          refine h P' H' x R3 F3 ⟨a, ws, ds, q1, q2, q3, fun z => q4 (o3 a z), q5, q6⟩ ⟨a, q1, ?_⟩
          obtain ⟨a', ea, ha⟩ := nx
          rw [q1] at ea; cases ea
          rcases ha with ha | ha
          · exact ha
          · obtain ⟨_, o1⟩ := R1.pad hn
            obtain ⟨j, f, z1, z2, z3⟩ := (o1 a).mp ha
            obtain ⟨hl2, hk2⟩ := finA_get e3
            have hj : j < as'.length := by
              rcases Nat.lt_or_ge j as.length with q | q
              · omega
              · rw [List.getElem?_eq_none (by simpa using q)] at z1; cases z1
            exfalso
            have hj2 := List.getElem?_eq_getElem hj
            rcases hk2 j _ hj2 with ⟨d0, w1, w2⟩ | ⟨ds1, ds0, w1, w2, w3, w4⟩
            · rw [List.getElem?_map, w2] at z1; cases z1; cases z2
            · refine q4 (o3 a ⟨j, .own ds1, ?_, rfl, z3⟩)
              rw [List.getElem?_map, hj2, w1]; rfl
    | exc c fs e2 =>
      rw [e1] at h
      intro σ' P' H' cls dd R2 F2 p2 x
      cases e3 : finA pins 0 as e2 with
      | none => (simp only [e3] at h) <;> exact False.elim h
      | some as' =>
        simp only [e3] at h
        obtain ⟨R3, F3, o3⟩ := R1.out hn e3 R2 F2 p2
        exact h P' H' cls dd R3 F3 x
    | brk e2 => rw [e1] at h; exact False.elim h
    | cnt e2 => rw [e1] at h; exact False.elim h
    | stk => rw [e1] at h; exact False.elim h
end
end Ue

set_option linter.all false
set_option Elab.async false
set_option maxRecDepth 100000
set_option maxHeartbeats 4000000
namespace Ue
open PySem L2
/-! ### calls of the text's own defs -/
/-- an argument: a value, or the own list of a slot -/
inductive Ag where
  | p (m : M) | o (i : Nat)
inductive AD where
  | d (x : D) | s (i : Nat)
def argG : List Ag → Env → R (List AD)
  | [], e => .ok [] e
  | .p m :: as, e => (m e).bind fun d e1 => (argG as e1).bind fun ds e2 => .ok (.d d :: ds) e2
  | .o i :: as, e => match e[i]? with
    | some (some (.own _)) => (argG as e).bind fun ds e2 => .ok (.s i :: ds) e2
    | _ => .stk
def resA : List AD → Env → Option (List EV)
  | [], _ => some []
  | .d x :: as, e => (resA as e).map (.v x :: ·)
  | .s i :: as, e => match e[i]? with
    | some (some (.own ds)) => (resA as e).map (.own ds :: ·)
    | _ => none
/-- where the own list stands among the arguments; at most one -/
def ownIx : Nat → List AD → Option (Nat × Nat)
  | _, [] => none
  | j, .d _ :: as => ownIx (j + 1) as
  | j, .s i :: _ => some (j, i)
def fewO : List AD → Bool
  | [] => true
  | .d _ :: as => fewO as
  | .s _ :: as => as.all fun a => match a with | .d _ => true | .s _ => false
def putA (ss : List AD) (as : List EV) (e : Env) : Env := match ownIx 0 ss with
  | none => e
  | some (j, i) => match as[j]? with
    | some a => e.set i (some a)
    | none => e
def fnM (F : FM) (ags : List Ag) (dfl : List D) : M := fun env => (argG ags env).bind fun ss e => match resA ss e with
  | none => .stk
  | some as => if fewO ss then (match F (as ++ dfl.map EV.v) with
    | .ok d as' => .ok d (putA ss as' e)
    | .exc c fs as' => .exc c fs (putA ss as' e)
    | .stk => .stk) else .stk
inductive SReps (T : Tab) (σ : L2.St) (P : Hp) : List AD → List V → Prop where
  | nil : SReps T σ P [] []
  | d {x : D} {v : V} {as : List AD} {vs : List V} : Rep T P x v → SReps T σ P as vs → SReps T σ P (.d x :: as) (v :: vs)
  | s {i : Nat} {v : V} {as : List AD} {vs : List V} : σ[i]? = some (some v) → SReps T σ P as vs → SReps T σ P (.s i :: as) (v :: vs)
theorem SReps.sub {T : Tab} {σ : L2.St} {P P' : Hp} (hs : PSub P P') : ∀ {as : List AD} {vs : List V}, SReps T σ P as vs → SReps T σ P' as vs
  | _, _, .nil => .nil
  | _, _, .d h t => .d (Rep.sub hs _ _ h) (t.sub hs)
  | _, _, .s h t => .s h (t.sub hs)
def rdP (T : Tab) (W : WX) (ags : List Ag) : TA := fun σ H Q => ∃ env P, Rel T env σ P H ∧ After T W σ env P H (argG ags env) (fun ss env' P' H' => ∀ xs, SReps T σ P' ss xs → Q xs H')
def GA (T : Tab) (W : WX) (X : Cx) (es : List Expr) (ags : List Ag) : Prop := PA X es (rdP T W ags)
section
variable {T : Tab} {W : WX} {kr : Kd} {pins : List Nat} {env env' : Env} {σ σ' : L2.St} {P H P' H' : Hp} {X : Cx} {pos : Pos} {e : Expr} {es : List Expr} {m : M} {ags : List Ag}
theorem ga_nil : GA T W X [] [] := pa_imp pa_nil fun σ H Q h => by
  obtain ⟨env, P, RR, h⟩ := h
  exact h.here RR (Fr.refl _ _ _ _) _ .nil
theorem ga_p (h : DE T W X e .pure m) (h' : GA T W X es ags) (hst : starEach (e :: es) X.env = (false, eval e X.env) :: starEach es X.env := by rfl) : GA T W X (e :: es) (.p m :: ags) := pa_imp (pa_cons h h' hst) fun σ H Q h => by
  obtain ⟨env, P, RR, h⟩ := h
  refine ⟨env, P, RR, After.mono h.bind fun d env1 P1 H1 R1 F1 h1 x kx nx => ?_⟩
  refine ⟨env1, P1, R1, After.mono h1.bind fun ss env2 P2 H2 R2 F2 h2 xs kxs => ?_⟩
  exact h2.here R2 (Fr.refl _ _ _ _) _ (.d (Rep.sub F2.mono _ _ kx) kxs)
theorem ga_o {i : Nat} {x : Str} {p : Pos} (h : PE X (.Name x p) (tVar i)) (h' : GA T W X es ags) (hst : starEach ((.Name x p) :: es) X.env = (false, eval (.Name x p) X.env) :: starEach es X.env := by rfl) : GA T W X ((.Name x p) :: es) (.o i :: ags) := pa_imp (pa_cons h h' hst) fun σ H Q h => by
  obtain ⟨env, P, RR, h⟩ := h
  unfold argG at h
  cases e0 : env[i]? with
  | none => rw [e0] at h; exact False.elim h
  | some o =>
    cases o with
    | none => rw [e0] at h; exact False.elim h
    | some v =>
      cases v with
      | own ds =>
        rw [e0] at h
        obtain ⟨u, hu, _⟩ := RR.ent i _ e0
        refine ⟨u, hu, env, P, RR, After.mono h.bind fun ss env2 P2 H2 R2 F2 h2 xs kxs => ?_⟩
        exact h2.here R2 (Fr.refl _ _ _ _) _ (.s hu kxs)
      | _ => rw [e0] at h; exact False.elim h
/-- the arguments as the def sees them -/
theorem resA_get : ∀ {ss : List AD} {as : List EV} {xs : List V} {j : Nat} {f : EV}, resA ss env = some as → SReps T σ P ss xs → as[j]? = some f →
    (∃ d v, f = .v d ∧ xs[j]? = some v ∧ Rep T P d v) ∨ (∃ i ds v, f = .own ds ∧ ss[j]? = some (.s i) ∧ env[i]? = some (some (.own ds)) ∧ xs[j]? = some v ∧ σ[i]? = some (some v))
  | [], as, _, j, f, h, _, hf => by cases h; simp at hf
  | .d x :: ss, as, _, j, f, h, .d hr hs, hf => by
    have h : (resA ss env).map (EV.v x :: ·) = some as := h
    cases q : resA ss env with
    | none => rw [q] at h; cases h
    | some as2 =>
      rw [q] at h; cases h
      cases j with
      | zero => simp at hf; subst hf; exact .inl ⟨x, _, rfl, rfl, hr⟩
      | succ j =>
        simp only [List.getElem?_cons_succ] at hf ⊢
        exact resA_get q hs hf
  | .s i :: ss, as, _, j, f, h, .s hi hs, hf => by
    unfold resA at h
    cases e0 : env[i]? with
    | none => rw [e0] at h; cases h
    | some o =>
      cases o with
      | none => rw [e0] at h; cases h
      | some v =>
        cases v with
        | own ds =>
          rw [e0] at h
          have h : (resA ss env).map (EV.own ds :: ·) = some as := h
          cases q : resA ss env with
          | none => rw [q] at h; cases h
          | some as2 =>
            rw [q] at h; cases h
            cases j with
            | zero => simp at hf; subst hf; exact .inr ⟨i, ds, _, rfl, rfl, e0, rfl, hi⟩
            | succ j =>
              simp only [List.getElem?_cons_succ] at hf ⊢
              exact resA_get q hs hf
        | _ => rw [e0] at h; cases h
theorem resA_len : ∀ {ss : List AD} {as : List EV}, resA ss env = some as → as.length = ss.length
  | [], as, h => by cases h; rfl
  | .d x :: ss, as, h => by
    have h : (resA ss env).map (EV.v x :: ·) = some as := h
    cases q : resA ss env with
    | none => rw [q] at h; cases h
    | some as2 => rw [q] at h; cases h; simp [resA_len q]
  | .s i :: ss, as, h => by
    unfold resA at h
    cases e0 : env[i]? with
    | none => rw [e0] at h; cases h
    | some o =>
      cases o with
      | none => rw [e0] at h; cases h
      | some v =>
        cases v with
        | own ds =>
          rw [e0] at h
          have h : (resA ss env).map (EV.own ds :: ·) = some as := h
          cases q : resA ss env with
          | none => rw [q] at h; cases h
          | some as2 => rw [q] at h; cases h; simp [resA_len q]
        | _ => rw [e0] at h; cases h
theorem SReps.len : ∀ {ss : List AD} {xs : List V}, SReps T σ P ss xs → xs.length = ss.length
  | _, _, .nil => rfl
  | _, _, .d _ t => by simp [t.len]
  | _, _, .s _ t => by simp [t.len]
theorem all_d : ∀ {as : List AD} {j i : Nat}, (as.all fun a => match a with | .d _ => true | .s _ => false) = true → as[j]? = some (.s i) → False
  | [], j, i, _, h => by simp at h
  | a :: as, 0, i, h, h2 => by simp at h2; subst h2; simp at h
  | a :: as, j + 1, i, h, h2 => by
    simp only [List.getElem?_cons_succ] at h2
    rw [List.all_cons, Bool.and_eq_true] at h
    exact all_d h.2 h2
theorem few_one : ∀ {ss : List AD} {k j i : Nat}, fewO ss = true → ss[j]? = some (.s i) → ownIx k ss = some (k + j, i) ∧ ∀ j' i', ss[j']? = some (.s i') → j' = j
  | [], k, j, i, _, h => by simp at h
  | .d x :: ss, k, 0, i, _, h => by simp at h
  | .d x :: ss, k, j + 1, i, h, h2 => by
    simp only [List.getElem?_cons_succ] at h2
    obtain ⟨a, b⟩ := few_one (k := k + 1) (show fewO ss = true from h) h2
    refine ⟨by show ownIx (k + 1) ss = _; rw [a]; congr 2; omega, fun j' i' h3 => ?_⟩
    cases j' with
    | zero => simp at h3
    | succ j' => simp only [List.getElem?_cons_succ] at h3; rw [b j' i' h3]
  | .s i0 :: ss, k, 0, i, h, h2 => by
    simp at h2; subst h2
    refine ⟨rfl, fun j' i' h3 => ?_⟩
    cases j' with
    | zero => rfl
    | succ j' => simp only [List.getElem?_cons_succ] at h3; exact (all_d (show _ = true from h) h3).elim
  | .s i0 :: ss, k, j + 1, i, h, h2 => by
    simp only [List.getElem?_cons_succ] at h2
    exact (all_d (show _ = true from h) h2).elim
theorem own_none : ∀ {ss : List AD} {k : Nat}, ownIx k ss = none → ∀ (j i : Nat), ss[j]? ≠ some (AD.s i)
  | [], k, _, j, i => by simp
  | .d x :: ss, k, h, j, i => by
    cases j with
    | zero => simp
    | succ j => simp only [List.getElem?_cons_succ]; exact own_none (show ownIx (k + 1) ss = none from h) j i
  | .s i0 :: ss, k, h, j, i => by cases h
/-- what the def is handed -/
theorem Rel.call {ss : List AD} {as : List EV} {xs dvs : List V} {dfl : List D} (RR : Rel T env σ P H) (hr : resA ss env = some as) (hf : fewO ss = true) (hs : SReps T σ P ss xs) (hd : Reps T P dfl dvs) :
    Rel T ((as ++ dfl.map EV.v).map some) ((xs ++ dvs).map some) P H ∧ ∀ b, Own ((as ++ dfl.map EV.v).map some) ((xs ++ dvs).map some) b → ∃ (j i : Nat) (ds : List D), ss[j]? = some (AD.s i) ∧ as[j]? = some (EV.own ds) ∧ env[i]? = some (some (EV.own ds)) ∧ σ[i]? = some (some (V.ref b)) := by
  have la := resA_len hr
  have lx := hs.len
  have get : ∀ (j : Nat) (f : EV), ((as ++ dfl.map EV.v).map some)[j]? = some (some f) → (as[j]? = some f ∧ j < as.length) ∨ (∃ d, f = .v d ∧ dfl[j - as.length]? = some d ∧ as.length ≤ j) := fun j f h => by
    rw [List.getElem?_map] at h
    cases q : (as ++ dfl.map EV.v)[j]? with
    | none => rw [q] at h; cases h
    | some g =>
      rw [q] at h; cases h
      by_cases hj : j < as.length
      · rw [List.getElem?_append_left hj] at q; exact .inl ⟨q, hj⟩
      · rw [List.getElem?_append_right (by omega), List.getElem?_map] at q
        cases q2 : dfl[j - as.length]? with
        | none => rw [q2] at q; cases q
        | some d => rw [q2] at q; cases q; exact .inr ⟨d, rfl, rfl, by omega⟩
  have getx : ∀ (j : Nat) (v : V), xs[j]? = some v → ((xs ++ dvs).map some)[j]? = some (some v) := fun j v h => by
    have hj : j < xs.length := by
      rcases Nat.lt_or_ge j xs.length with q | q
      · exact q
      · rw [List.getElem?_eq_none q] at h; cases h
    rw [List.getElem?_map, List.getElem?_append_left hj, h]; rfl
  have ow : ∀ (j : Nat) (f : EV) (b : Addr), ((as ++ dfl.map EV.v).map some)[j]? = some (some f) → f.isOwn = true → ((xs ++ dvs).map some)[j]? = some (some (V.ref b)) → ∃ (i : Nat) (ds : List D), ss[j]? = some (.s i) ∧ as[j]? = some (.own ds) ∧ env[i]? = some (some (.own ds)) ∧ σ[i]? = some (some (V.ref b)) := fun j f b h o s => by
    rcases get j f h with ⟨q, hj⟩ | ⟨d, rfl, _⟩
    · rcases resA_get hr hs q with ⟨d, v, rfl, _⟩ | ⟨i, ds, v, rfl, q1, q2, q3, q4⟩
      · cases o
      · rw [getx j v q3] at s
        cases s
        exact ⟨i, ds, q1, q, q2, q4⟩
    · cases o
  refine ⟨⟨RR.sub, fun j f h => ?_, fun j l f g b n h1 h2 o1 o2 s1 s2 => ?_, ?_⟩, fun b ⟨j, f, h1, h2, h3⟩ => ?_⟩
  · rcases get j f h with ⟨q, hj⟩ | ⟨d, rfl, q, hj⟩
    · rcases resA_get hr hs q with ⟨d, v, rfl, q1, q2⟩ | ⟨i, ds, v, rfl, q1, q2, q3, q4⟩
      · exact ⟨v, getx j v q1, q2⟩
      · obtain ⟨u, hu, r⟩ := RR.ent i _ q2
        rw [q4] at hu; cases hu
        exact ⟨v, getx j v q3, r⟩
    · obtain ⟨v, hv, r⟩ := hd.get q
      refine ⟨v, ?_, r⟩
      rw [List.getElem?_map, List.getElem?_append_right (by omega), show j - xs.length = j - as.length by omega, hv]; rfl
  · obtain ⟨i1, ds1, a1, _, _, _⟩ := ow j f b h1 o1 s1
    obtain ⟨i2, ds2, a2, _, _, _⟩ := ow l g b h2 o2 s2
    exact n ((few_one (k := 0) hf a2).2 j i1 a1)
  · simp [la, lx, hd.length]
  · obtain ⟨i, ds, a⟩ := ow j f b h1 h2 h3
    exact ⟨j, i, ds, a⟩
/-- behind the call -/
theorem Rel.back {ss : List AD} {as as' : List EV} {xs dvs : List V} {dfl : List D} (RR : Rel T env σ P H) (hr : resA ss env = some as) (hf : fewO ss = true) (hs : SReps T σ P ss xs) (hd : Reps T P dfl dvs)
    (R2 : Rel T (as'.map some) ((xs ++ dvs).map some) P' H') (F2 : Fr ((as ++ dfl.map EV.v).map some) ((xs ++ dvs).map some) P H (as'.map some) ((xs ++ dvs).map some) P' H') :
    Rel T (putA ss as' env) σ P' H' ∧ Fr env σ P H (putA ss as' env) σ P' H' ∧ ∀ b, Own (putA ss as' env) σ b → Own env σ b := by
  obtain ⟨R1, o1⟩ := RR.call hr hf hs hd
  have la := resA_len hr
  have lx := hs.len
  have l2 : as'.length = (xs ++ dvs).length := by simpa using R2.len
  have getx : ∀ (j : Nat) (v : V), xs[j]? = some v → ((xs ++ dvs).map some)[j]? = some (some v) := fun j v h => by
    have hj : j < xs.length := by
      rcases Nat.lt_or_ge j xs.length with q | q
      · exact q
      · rw [List.getElem?_eq_none q] at h; cases h
    rw [List.getElem?_map, List.getElem?_append_left hj, h]; rfl
  -- the slots: the one that was handed, all others
  have key : ∀ (l : Nat) (f : EV), (putA ss as' env)[l]? = some (some f) → (∃ (j : Nat) (ds : List D) (v : V), ss[j]? = some (AD.s l) ∧ as'[j]? = some f ∧ env[l]? = some (some (.own ds)) ∧ xs[j]? = some v ∧ σ[l]? = some (some v)) ∨ (env[l]? = some (some f) ∧ ∀ (j : Nat), ss[j]? ≠ some (AD.s l)) := fun l f h => by
    unfold putA at h
    cases q : ownIx 0 ss with
    | none => rw [q] at h; exact .inr ⟨h, fun j => own_none q j l⟩
    | some p =>
      obtain ⟨j, i⟩ := p
      rw [q] at h
      have hj : ss[j]? = some (.s i) := by
        have : ∀ (ss : List AD) (k j i : Nat), ownIx k ss = some (j, i) → k ≤ j ∧ ss[j - k]? = some (.s i) := by
          intro ss
          induction ss with
          | nil => intro k j i h; cases h
          | cons a ss ih =>
            intro k j i h
            cases a with
            | d x =>
              obtain ⟨h1, h2⟩ := ih (k + 1) j i h
              refine ⟨by omega, ?_⟩
              rw [show j - k = (j - (k + 1)) + 1 by omega, List.getElem?_cons_succ]; exact h2
            | s i0 => cases h; simp
        have := (this ss 0 j i q).2
        simpa using this
      have hja : j < as.length := by
        rcases Nat.lt_or_ge j ss.length with z | z
        · omega
        · rw [List.getElem?_eq_none z] at hj; cases hj
      have hj' : j < as'.length := by rw [l2, List.length_append]; omega
      simp only [List.getElem?_eq_getElem hj'] at h
      by_cases z : l = i
      · subst z
        rcases resA_get hr hs (List.getElem?_eq_getElem hja) with ⟨d, v, e0, q1, q2⟩ | ⟨i2, ds, v, e0, q1, q2, q3, q4⟩
        · exfalso
          have : ∀ (ss : List AD) (as : List EV) (j : Nat) (i : Nat) (d : D), resA ss env = some as → ss[j]? = some (.s i) → as[j]? = some (.v d) → False := by
            intro ss
            induction ss with
            | nil => intro as j i d _ h; simp at h
            | cons a ss ih =>
              intro as j i d h1 h2 h3
              cases a with
              | d x =>
                have h1 : (resA ss env).map (EV.v x :: ·) = some as := h1
                cases c : resA ss env with
                | none => rw [c] at h1; cases h1
                | some as2 =>
                  rw [c] at h1; cases h1
                  cases j with
                  | zero => simp at h2
                  | succ j => simp only [List.getElem?_cons_succ] at h2 h3; exact ih as2 j i d c h2 h3
              | s i0 =>
                unfold resA at h1
                cases e0 : env[i0]? with
                | none => rw [e0] at h1; cases h1
                | some o =>
                  cases o with
                  | none => rw [e0] at h1; cases h1
                  | some v =>
                    cases v with
                    | own ds =>
                      rw [e0] at h1
                      have h1 : (resA ss env).map (EV.own ds :: ·) = some as := h1
                      cases c : resA ss env with
                      | none => rw [c] at h1; cases h1
                      | some as2 =>
                        rw [c] at h1; cases h1
                        cases j with
                        | zero => simp at h3
                        | succ j => simp only [List.getElem?_cons_succ] at h2 h3; exact ih as2 j i d c h2 h3
                    | _ => rw [e0] at h1; cases h1
          exact this ss as j l d hr hj (by rw [List.getElem?_eq_getElem hja, e0])
        · rw [hj] at q1; cases q1
          have hil : l < env.length := by
            rcases Nat.lt_or_ge l env.length with z | z
            · exact z
            · rw [List.getElem?_eq_none z] at q2; cases q2
          rw [List.getElem?_set_self hil] at h
          have h := Option.some.inj h
          exact .inl ⟨j, ds, v, hj, by rw [List.getElem?_eq_getElem hj']; exact h, q2, q3, q4⟩
      · rw [List.getElem?_set_ne (fun w => z w.symm)] at h
        refine .inr ⟨h, fun j' h' => ?_⟩
        have h3 := (few_one (k := 0) hf hj).2 j' l h'
        subst h3
        rw [hj] at h'; cases h'; exact z rfl
  have low : (putA ss as' env).length = env.length := by
    unfold putA
    split
    · rfl
    · split
      · rw [List.length_set]
      · rfl
  have ownA : ∀ b, Own ((as ++ dfl.map EV.v).map some) ((xs ++ dvs).map some) b → Own env σ b := fun b h => by
    obtain ⟨j, i, ds, _, _, h1, h2⟩ := o1 b h
    exact ⟨i, _, h1, rfl, h2⟩
  have ow : ∀ b, Own (putA ss as' env) σ b → Own env σ b := fun b ⟨l, f, h1, h2, h3⟩ => by
    rcases key l f h1 with ⟨j, ds, v, a1, a2, a3, a4, a5⟩ | ⟨a1, _⟩
    · exact ⟨l, _, a3, rfl, h3⟩
    · exact ⟨l, f, a1, h2, h3⟩
  refine ⟨⟨R2.sub, fun l f h => ?_, fun l1 l2 f g b n h1 h2 o1' o2' s1 s2 => ?_, by rw [low]; exact RR.len⟩, ⟨fun b u h n => F2.keep b u h fun z => n (ownA b z), fun b h n z => n (ow b z), F2.mono, fun b h => ?_, F2.there⟩, ow⟩
  · rcases key l f h with ⟨j, ds, v, a1, a2, a3, a4, a5⟩ | ⟨a1, a2⟩
    · obtain ⟨u, hu, r⟩ := R2.ent j f (by rw [List.getElem?_map, a2]; rfl)
      rw [getx j v a4] at hu
      have hu := Option.some.inj (Option.some.inj hu)
      subst hu
      exact ⟨v, a5, r⟩
    · obtain ⟨v, hv, r⟩ := RR.ent l f a1
      refine ⟨v, hv, r.grow F2.mono fun b u h1 h2 h3 h4 => ?_⟩
      subst h4
      have nb : ¬ Own ((as ++ dfl.map EV.v).map some) ((xs ++ dvs).map some) b := fun z => by
        obtain ⟨j, i, ds, c1, _, c2, c3⟩ := o1 b z
        by_cases w : l = i
        · subst w; exact a2 j c1
        · exact RR.dis l i f _ b w a1 c2 h3 rfl hv c3
      refine ⟨F2.keep b u h1 nb, Classical.byContradiction fun z => ?_⟩
      rcases F2.new b z with q | q | q
      · exact q h2
      · rw [h1] at q; cases q
      · exact nb q
  · have w : ∀ (l : Nat) (f : EV), (putA ss as' env)[l]? = some (some f) → f.isOwn = true → ∃ (g : EV), env[l]? = some (some g) ∧ g.isOwn = true := fun l f h o => by
      rcases key l f h with ⟨j, ds, v, a1, a2, a3, a4, a5⟩ | ⟨a1, _⟩
      · exact ⟨_, a3, rfl⟩
      · exact ⟨f, a1, o⟩
    obtain ⟨f', h1', o1''⟩ := w l1 f h1 o1'
    obtain ⟨g', h2', o2''⟩ := w l2 g h2 o2'
    exact RR.dis l1 l2 f' g' b n h1' h2' o1'' o2'' s1 s2
  · rcases F2.new b h with q | q | q
    · exact .inl q
    · exact .inr (.inl q)
    · exact .inr (.inr (ownA b q))
end
end Ue

set_option linter.all false
set_option Elab.async false
set_option maxRecDepth 100000
set_option maxHeartbeats 4000000
namespace Ue
open PySem L2
section
variable {T : Tab} {W : WX} {kr : Kd} {pins : List Nat} {env env' : Env} {σ σ' : L2.St} {P H P' H' : Hp} {X : Cx} {pos : Pos} {e : Expr} {es : List Expr} {m : M} {ags : List Ag}
/-! ### f(e, ..) -/
theorem rd_fn {F : FM} {n : Nat} {dfl : List D} {dvs : List V} {Q : VK} (hkr : kr = .pure ∨ kr = .fresh) (hdr : ∀ P, Reps T P dfl dvs) (hn : ags.length + dfl.length = n) (h : rdE T W kr (fnM F ags dfl) σ H Q) :
    tCallSD (spF T kr n F) dvs (fun σ cls d H => W cls d σ H) (rdP T W ags) σ H Q := by
  obtain ⟨env, P, RR, h⟩ := h
  refine ⟨env, P, RR, After.at h.bind fun ss env1 P1 H1 es1 R1 F1 h1 xs kxs => ?_⟩
  cases e1 : resA ss env1 with
  | none => simp only [e1] at h1; exact False.elim h1
  | some as =>
    simp only [e1] at h1
    by_cases hf : ¬ fewO ss = true
    · rw [if_neg hf] at h1; exact False.elim h1
    have hf : fewO ss = true := Classical.not_not.mp hf
    rw [if_pos hf] at h1
    obtain ⟨R2, o2⟩ := R1.call e1 hf kxs (hdr P1)
    have hlen : ∀ (ags : List Ag) (env env1 : Env) (ss : List AD), argG ags env = .ok ss env1 → ss.length = ags.length := by
      intro ags
      induction ags with
      | nil => intro env env1 ss h; cases h; rfl
      | cons a ags ih =>
        intro env env1 ss h
        cases a with
        | p m =>
          have h : (m env).bind (fun d e1 => (argG ags e1).bind fun ds e2 => R.ok (AD.d d :: ds) e2) = .ok ss env1 := h
          cases c : m env with
          | ok d e1 =>
            rw [c] at h
            have h : (argG ags e1).bind (fun ds e2 => R.ok (AD.d d :: ds) e2) = .ok ss env1 := h
            cases c2 : argG ags e1 with
            | ok ds e2 => rw [c2] at h; cases h; simp [ih _ _ _ c2]
            | exc _ _ _ => rw [c2] at h; cases h
            | stk => rw [c2] at h; cases h
          | exc _ _ _ => rw [c] at h; cases h
          | stk => rw [c] at h; cases h
        | o i =>
          unfold argG at h
          cases e0 : env[i]? with
          | none => rw [e0] at h; cases h
          | some o =>
            cases o with
            | none => rw [e0] at h; cases h
            | some v =>
              cases v with
              | own ds =>
                rw [e0] at h
                have h : (argG ags env).bind (fun ds e2 => R.ok (AD.s i :: ds) e2) = .ok ss env1 := h
                cases c2 : argG ags env with
                | ok ds e2 => rw [c2] at h; cases h; simp [ih _ _ _ c2]
                | exc _ _ _ => rw [c2] at h; cases h
                | stk => rw [c2] at h; cases h
              | _ => rw [e0] at h; cases h
    refine ⟨as ++ dfl.map EV.v, P1, R2, ?_, ?_⟩
    · rw [List.length_append, kxs.len, (hdr P1).length, hlen ags env env1 ss es1]; exact hn
    · cases e2 : F (as ++ dfl.map EV.v) with
      | ok d as' =>
        simp only [e2] at h1
        intro P2 H2 x R3 F3 kx nx
        obtain ⟨R4, F4, o4⟩ := R1.back e1 hf kxs (hdr P1) R3 F3
        refine h1 P2 H2 R4 F4 x ?_ (nx.back F1)
        rcases hkr with rfl | rfl
        · exact kx
        · obtain ⟨a, ws, ds, q1, q2, q3, q4, q5, q6⟩ := kx
          refine ⟨a, ws, ds, q1, q2, q3, fun z => ?_, q5, q6⟩
          obtain ⟨a', ea, ha⟩ := nx
          rw [q1] at ea; cases ea
          obtain ⟨o, ho, _⟩ := R1.ownAt (o4 a z)
          rw [ha] at ho; cases ho
      | exc c fs as' =>
        simp only [e2] at h1
        intro P2 H2 cls dd R3 F3 x
        obtain ⟨R4, F4, o4⟩ := R1.back e1 hf kxs (hdr P1) R3 F3
        exact h1 P2 H2 cls dd R4 F4 x
      | stk => simp only [e2] at h1; exact False.elim h1
theorem de_call {F : FM} {n k : Nat} {f : Addr} {fd : FuncData} {ps : List Str} {dfl : List D} {dvs : List V} {ds : List Value} {x : Str} {p : Pos} (G : FnOk X.prog X.w X.K X.mg X.base (L2.CX X.prog X.w) k f fd ps (spF T kr n F)) (hkr : kr = .pure ∨ kr = .fresh) (hr : Room k X.A) (hg : Gl X x) (hm : X.mg x = some (.ref f))
    (hk : PySem.W.keepIn X.K (.ref f) = true) (hb : Binds X.K fd ps ds) (hd : Vals dvs ds) (hdr : ∀ P, Reps T P dfl dvs) (tk : Takes X W) (ha : GA T W X (e :: es) ags) (hn : ags.length + dfl.length = n := by rfl)
    (hdb : (x == ("__debug__" : Str)) = false := by decide) (he : starEach (e :: es) X.env = (false, eval e X.env) :: starEach es X.env := by rfl) (hpl : (backTo pos (starEach es X.env)).any (·.1) = false := by rfl) :
    DE T W X (.Call (.Name x p) (e :: es) [] pos) kr (fnM F ags dfl) :=
  pe_imp (pe_callSD (E := fun σ cls d H => W cls d σ H) G hr hg hm hk hb hd (fun σ => passAt tk σ) ha hdb he hpl) fun _ _ _ h => rd_fn hkr hdr hn h
/-! ### errors made and raised -/
/-- what the written part says of an error's class -/
structure ExcC (X : Cx) (C : Addr) : Prop where
  ox : OexC X.K C
/-- D.__init__(self, '..') where D has ValueError's -/
theorem pe_dinit {D : Addr} {x : Str} {ta : TA} {p1 p2 : Pos} {pl : Sem Bool} (hg : Gl X x) (hm : X.mg x = some (.ref D)) (r : ClX.CRead X.K D (.type "type")) (vV : PySem.W.findCls X.K (.ref D) (.type "type") "__init__" = some (.val (.builtin "ValueError.__init__"))) (ha : PA X (e :: es) ta)
    (hdb : (x == ("__debug__" : Str)) = false := by decide)
    (hc : eval (.Call (.Attribute (.Name x p1) "__init__" p2) (e :: es) [] pos) X.env = (do
      let ov ← eval (.Name x p1) X.env
      standAt p2.atName
      let (f, first) ← holding [ov] (getMethod ov "__init__" pl)
      callWith pos f first (backTo pos (starEach (e :: es) X.env)) (backToKw pos (keywordEach [] X.env))) := by rfl)
    (he : starEach (e :: es) X.env = (false, eval e X.env) :: starEach es X.env := by rfl) (hpl : (backTo pos (starEach es X.env)).any (·.1) = false := by rfl) :
    PE X (.Call (.Attribute (.Name x p1) "__init__" p2) (e :: es) [] pos) (tVeI X.K ta) := ⟨fun pins s σ H Q I h => by
  refine PySem.W.methodCall_KW (ld_glob I hg hm ?_ hdb) hc
  refine PySem.W.method_cls I.kIn r.ga (PySem.W.cls_value I.kIn r.rd vV (by decide +kernel) ?_)
  refine PyProof.Rows.callWith_method1 (thn (ha.run pos pins _ σ H _ (I.tok _) h) fun us s1 hh => ?_) he hpl
  obtain ⟨vs, H1, I1, r1, a, C, ws, ev, hl, TT, ea, q⟩ := hh
  subst ev
  cases r1 with
  | @cons _ u0 _ ur ra rr =>
    have e0 : u0 = Value.ref a := ra
    subst e0
    have l1 : ur.length ≤ sizeLine := by
      have l2 := Paired.length rr
      have l3 : (1000 : Nat) ≤ sizeLine := by rw [sizeLine_eq]; decide
      omega
    exact oinit_ok TT I1 ea l1 fun s2 I2 => ⟨.non, H1, I2, rfl, q⟩⟩
end
/-! ### the __init__ of an error: D.__init__(self, '..'), then its fields -/
def spX0 (C : Addr) : Sp := fun vs H Q _ => ∃ a, vs = [.ref a] ∧ H a = some (exo a C none) ∧ Q .non H
def spX1 (C : Addr) (g : Str) : Sp := fun vs H Q _ => ∃ a x, vs = [.ref a, x] ∧ H a = some (exo a C none) ∧ ∀ dx, H dx = none → dx ≠ a → Q .non (upd (upd H dx (exd dx [(g, x)])) a (exo a C (some dx)))
def spX2 (C : Addr) (g1 g2 : Str) : Sp := fun vs H Q _ => ∃ a x y, vs = [.ref a, x, y] ∧ H a = some (exo a C none) ∧ ∀ dx, H dx = none → dx ≠ a → Q .non (upd (upd (upd H dx (exd dx [(g1, x)])) a (exo a C (some dx))) dx (exd dx [(g2, y), (g1, x)]))
section
variable {P : Program} {w : World} {K : PySem.W.Frag} {mg : Str → Option Value} {base : Heap} {nm qual x msg g g1 g2 : Str} {params : Arguments} {scope : Scope} {f D C : Addr} {fd : FuncData} {p1 p2 p3 p4 p5 p6 p7 p8 p9 p10 p11 p12 p13 p14 : Pos} {j : Nat}
/-- how the first row's call goes -/
def InitCall (e : Expr) (es : List Expr) (x : Str) (p1 p2 pos : Pos) : Prop := ∀ env : PySem.Env, ∃ pl : Sem Bool, eval (.Call (.Attribute (.Name x p1) "__init__" p2) (e :: es) [] pos) env = (do
      let ov ← eval (.Name x p1) env
      standAt p2.atName
      let (f, first) ← holding [ov] (getMethod ov "__init__" pl)
      callWith pos f first (backTo pos (starEach (e :: es) env)) (backToKw pos (keywordEach [] env)))
theorem vis_pe {X : Cx} {i : Nat} {y : Str} {pos : Pos} (hN : X.N[i]? = some y) (hv : Vis X.env.scope y) (hd : (y == ("__debug__" : Str)) = false) (hcd : (y == ("__classdict__" : Str)) = false) : PE X (.Name y pos) (tVar i) := pe_var hN hv hd hcd
/-- the facts of an error's class and its base D -/
structure XF (K : PySem.W.Frag) (mg : Str → Option Value) (x : Str) (D C : Addr) : Prop where
  gx : mg x = some (.ref D)
  rd : ClX.CRead K D (.type "type")
  vV : PySem.W.findCls K (.ref D) (.type "type") "__init__" = some (.val (.builtin "ValueError.__init__"))
  ox : OexC K C
def okName (y : Str) : Bool := !(y == ("__debug__" : Str)) && !(y == ("__classdict__" : Str))
theorem okName_ok {y : Str} (h : okName y = true) : (y == ("__debug__" : Str)) = false ∧ (y == ("__classdict__" : Str)) = false := by
  unfold okName at h
  simpa using h
theorem xinit0 (F : FunD K nm qual params [.Expr (.Call (.Attribute (.Name x p1) "__init__" p2) [.Name "self" p3, .Constant (.str msg) j p4] [] p5) p6] scope [] [] f fd) (S : FnScope ["self"] ["self"] scope) (hx : okName x = true)
    (hgx : scope.names.lookup x = some .globalImplicit) (vs : Vis scope "self") (ic : InitCall (.Name "self" p3) [.Constant (.str msg) j p4] x p1 p2 p5) (Z : XF K mg x D C) : FnOk P w K mg base (L2.CX P w) 1 f fd ["self"] (spX0 C) := by
  refine F.ok S (fun vs H Q E h => ?_) fun cdv A outer s H vs Q E hr h => ?_
  · obtain ⟨a, rfl, _⟩ := h; rfl
  · obtain ⟨a, rfl, ha, k⟩ := h
    obtain ⟨pl, hc⟩ := ic (PyProof.Rows.envOfC qual scope s.heap.objs.size f cdv)
    refine ⟨_, pss_one (ps_expr (pe_dinit hgx Z.gx Z.rd Z.vV (pa_cons (vis_pe (i := 0) rfl vs (by decide) (by decide)) (pa_cons pe_str pa_nil)) (okName_ok hx).1 hc)), ?_⟩
    exact ⟨_, rfl, a, C, [.str msg], rfl, by simp, Z.ox, ha, k⟩
theorem xinit1 (F : FunD K nm qual params [.Expr (.Call (.Attribute (.Name x p1) "__init__" p2) [.Name "self" p3, .Constant (.str msg) j p4] [] p5) p6, .Assign [.Attribute (.Name "self" p7) g p8] (.Name g p9) p10] scope [] [] f fd) (S : FnScope ["self", g] ["self", g] scope) (hx : okName x = true)
    (hgx : scope.names.lookup x = some .globalImplicit) (vs : Vis scope "self") (vg : Vis scope g) (hg : okName g = true) (ic : InitCall (.Name "self" p3) [.Constant (.str msg) j p4] x p1 p2 p5) (Z : XF K mg x D C) (hno : PySem.W.findIn K (.ref C) g = some none) :
    FnOk P w K mg base (L2.CX P w) 1 f fd ["self", g] (spX1 C g) := by
  refine F.ok S (fun vs H Q E h => ?_) fun cdv A outer s H vs Q E hr h => ?_
  · obtain ⟨a, y, rfl, _⟩ := h; rfl
  · obtain ⟨a, y, rfl, ha, k⟩ := h
    obtain ⟨pl, hc⟩ := ic (PyProof.Rows.envOfC qual scope s.heap.objs.size f cdv)
    refine ⟨_, pss_cons (ps_expr (pe_dinit hgx Z.gx Z.rd Z.vV (pa_cons (vis_pe (i := 0) rfl vs (by decide) (by decide)) (pa_cons pe_str pa_nil)) (okName_ok hx).1 hc))
      (pss_one (ps_ost (vis_pe (i := 0) rfl vs (by decide) (by decide)) (vis_pe (i := 1) rfl vg (okName_ok hg).1 (okName_ok hg).2))), ?_⟩
    refine ⟨_, rfl, a, C, [.str msg], rfl, by simp, Z.ox, ha, ?_⟩
    refine ⟨_, rfl, _, rfl, a, C, rfl, Z.ox, hno, .inl ⟨ha, fun dx h1 h2 => k dx h1 h2⟩⟩
theorem xinit2 (F : FunD K nm qual params [.Expr (.Call (.Attribute (.Name x p1) "__init__" p2) [.Name "self" p3, .Constant (.str msg) j p4] [] p5) p6, .Assign [.Attribute (.Name "self" p7) g1 p8] (.Name g1 p9) p10, .Assign [.Attribute (.Name "self" p11) g2 p12] (.Name g2 p13) p14] scope [] [] f fd)
    (S : FnScope ["self", g1, g2] ["self", g1, g2] scope) (hx : okName x = true) (hgx : scope.names.lookup x = some .globalImplicit) (vs : Vis scope "self") (vg1 : Vis scope g1) (hg1 : okName g1 = true) (vg2 : Vis scope g2) (hg2 : okName g2 = true)
    (ic : InitCall (.Name "self" p3) [.Constant (.str msg) j p4] x p1 p2 p5) (Z : XF K mg x D C) (hno1 : PySem.W.findIn K (.ref C) g1 = some none) (hno2 : PySem.W.findIn K (.ref C) g2 = some none) :
    FnOk P w K mg base (L2.CX P w) 1 f fd ["self", g1, g2] (spX2 C g1 g2) := by
  refine F.ok S (fun vs H Q E h => ?_) fun cdv A outer s H vs Q E hr h => ?_
  · obtain ⟨a, y, z, rfl, _⟩ := h; rfl
  · obtain ⟨a, y, z, rfl, ha, k⟩ := h
    obtain ⟨pl, hc⟩ := ic (PyProof.Rows.envOfC qual scope s.heap.objs.size f cdv)
    refine ⟨_, pss_cons (ps_expr (pe_dinit hgx Z.gx Z.rd Z.vV (pa_cons (vis_pe (i := 0) rfl vs (by decide) (by decide)) (pa_cons pe_str pa_nil)) (okName_ok hx).1 hc))
      (pss_cons (ps_ost (vis_pe (i := 0) rfl vs (by decide) (by decide)) (vis_pe (i := 1) rfl vg1 (okName_ok hg1).1 (okName_ok hg1).2))
      (pss_one (ps_ost (vis_pe (i := 0) rfl vs (by decide) (by decide)) (vis_pe (i := 2) rfl vg2 (okName_ok hg2).1 (okName_ok hg2).2)))), ?_⟩
    refine ⟨_, rfl, a, C, [.str msg], rfl, by simp, Z.ox, ha, ?_⟩
    refine ⟨_, rfl, _, rfl, a, C, rfl, Z.ox, hno1, .inl ⟨ha, fun dx h1 h2 => ?_⟩⟩
    refine ⟨_, rfl, _, rfl, a, C, rfl, Z.ox, hno2, .inr ⟨dx, [(g1, y)], upd_same, ?_, by simp, k dx h1 h2⟩⟩
    rw [upd_ne h2, upd_same]
end
end Ue

set_option linter.all false
set_option Elab.async false
set_option maxRecDepth 100000
set_option maxHeartbeats 4000000
namespace Ue
open PySem PySem.Spec L2
section
variable {X : Cx} {pins : List (Addr × Obj)} {σ : L2.St} {H1 H2 : Hp} {Q : XK}
/-- an error without fields has been made: it flies, without a dict -/
theorem flyN {hp hp2 h2 : Heap} {g1 g2 : Array GenState} {d1 d2 : Drawn} {t1 t2 : Nat} {os1 os2 : OsState} {a C : Addr} (TT : Raises X (.ref C)) (I1 : L2.Inv X pins σ H1 ⟨hp, g1, d1, t1, os1⟩) (ha : hp.objs.size ≤ a)
    (k : ∀ b o, hp.get? b = some o → hp2.get? b = some o) (un : Un (frs X.stack) [] (upd H1 a (exo a C none)) H2 hp2 h2) (hok : HOk X.prog X.w H2 h2) (ho : os2 = os1) (hb : PyProof.Rows.AllBare g2) (ea : H2 a = some (exo a C none))
    (q : Q (.ref C) none (del H2 a)) : MkP X pins σ Q (.ref a) ⟨h2, g2, d2, t2, os2⟩ := by
  have n1 : H1 a = none := I1.hok.fresh ha
  have old : ∀ {b : Addr} {o : Obj}, hp.get? b = some o → b ≠ a := fun {b o} z => Nat.ne_of_lt (Nat.lt_of_lt_of_le (Heap.lt_size z) ha)
  have un1 : ∀ {b : Addr}, b ≠ a → H1 b = none → (upd H1 a (exo a C none)) b = none := fun {b} hb hn => (upd_ne hb).trans hn
  obtain ⟨t0, ob⟩ := exo_at hok ea
  obtain ⟨G, gin, gout⟩ := restrict h2 (fun b => !decide (b = a))
  have gk : ∀ {b : Addr}, b ≠ a → G.get? b = h2.get? b := fun {b} hb => gin b (by simp [hb])
  have gn : G.get? a = none := gout a (by simp)
  have back : ∀ {b : Addr} {o : HO}, H1 b = some o → (upd H1 a (exo a C none)) b = some o ∧ b ≠ a := fun {b o} z => ⟨(upd_ne (ne_of_none z n1)).trans z, ne_of_none z n1⟩
  have noend : (a : Addr) ∉ ([] : List Addr) := fun z => nomatch z
  have U : Un (frs X.stack) [] H1 (del H2 a) hp G := by
    constructor
    · intro b o z n hf hx
      exact (gk (old z)).trans (un.keep b o (k b o z) (un1 (old z) n) hf hx)
    · intro b o z n hf hx
      obtain ⟨sl, e⟩ := un.slot b o (k b o z) (un1 (old z) n) hf hx
      exact ⟨sl, (gk (old z)).trans e⟩
    · intro b o z n hx
      exact (del_ne (old z)).trans (un.free b o (k b o z) (un1 (old z) n) hx)
    · intro b o z hx
      obtain ⟨o', e⟩ := un.there b o (k b o z) hx
      exact ⟨o', (gk (old z)).trans e⟩
    · intro b xs z
      obtain ⟨z1, z2⟩ := back z
      exact (del_ne z2).trans (un.tups b xs z1)
    · intro b o u z
      obtain ⟨z1, z2⟩ := back z
      exact (del_ne z2).trans (un.frzs b o u z1)
    · intro b ps z
      obtain ⟨z1, z2⟩ := back z
      obtain ⟨m, e⟩ := un.tbls b ps z1
      exact ⟨m, (del_ne z2).trans e⟩
  have hok3 : HOk X.prog X.w (del H2 a) G := fun b o z => by
    have hba : b ≠ a := fun e => by subst e; rw [del_same] at z; cases z
    rw [del_ne hba] at z
    have noa : ∀ {c : Addr}, H2 c = some (.own b) → c ≠ a := fun {c} hc => at_ne ea hc exo_own
    refine (hok b o z).stay (fun c v hc y => ?_) (fun c hc => (del_ne (noa hc)).trans hc) fun c xs hc => (del_ne (at_ne ea hc exo_tup)).trans hc
    rcases hc with hc | hc
    · subst hc; exact (gk hba).trans y
    · exact (gk (noa hc)).trans y
  have J : L2.Inv X pins σ (del H2 a) ⟨G, g2, d2, t2, os2⟩ := I1.call' (ch := []) ho U hok3 hb (fun b z => nomatch z)
  refine ⟨a, _, _, ⟨G, g2, d2, t2, os2⟩, _, .ref C, none, rfl, J, fun b o z => ?_, gn, ob, ⟨rfl, rfl⟩, rfl, rfl, del_same, rfl, hb, TT, q⟩
  have hba : b ≠ a := fun e => by subst e; rw [gn] at z; cases z
  exact (gk hba).symm.trans z
/-- C(), an error without fields -/
def tMk0 (C : Addr) (sp : Sp) : L2.St → Hp → XK → Prop := fun σ H Q => ∀ a, H a = none → sp [.ref a] (upd H a (exo a C none)) (fun v H2 => v = .non ∧ H2 a = some (exo a C none) ∧ Q (.ref C) none (del H2 a)) (fun _ _ _ => False)
theorem pmk0 {CX : CXT} {x : Str} {p pos : Pos} {C fI : Addr} {k : Nat} {fd : FuncData} {sp : Sp} (TT : OexC X.K C) (iC : PySem.W.findIn X.K (.ref C) "__init__" = some (some (.ref fI))) (tI : PySem.W.typeIn X.K (.ref fI) = some (.type "function"))
    (F1 : FnOk X.prog X.w X.K X.mg X.base CX k fI fd ["self"] sp) (hr : Room (k + 1) X.A) (hb : Binds X.K fd ["self"] []) (hx : Passes CX X (fun _ _ _ => False)) (hg : Gl X x) (hm : X.mg x = some (.ref C)) (hdb : (x == ("__debug__" : Str)) = false := by decide) :
    PMk X (.Call (.Name x p) [] [] pos) (tMk0 C sp) := fun pins s σ H Q I h => by
  obtain ⟨nm, q, N, bs, bm, sn, sub, ab, col, dd, k0, k1, k2, k3, k5, hC, hbm⟩ := TT.cls
  refine wpAny_Call_Name_kw (ld_glob I hg hm ?_ hdb)
  refine PySem.W.callWith_K0 I.kIn TT.kC ?_
  obtain ⟨hp, g, dr, tk, os⟩ := s
  have hsz : hp.objs.size ≤ hp.objs.size + 1 := Nat.le_succ _
  have hq := h (hp.objs.size + 1) (I.hok.fresh hsz)
  have kk : ∀ b o, hp.get? b = some o → ((hp.push (PySem.W.kdv_tup [])).push (PySem.HandSPX.excO C hp.objs.size)).get? b = some o := fun b o e => Heap.get?_push_of_some _ (Heap.get?_push_of_some _ e)
  have hget : ((hp.push (PySem.W.kdv_tup [])).push (PySem.HandSPX.excO C hp.objs.size)).get? (hp.objs.size + 1) = some (PySem.HandSPX.excO C hp.objs.size) := by heap_get
  have I2 := I.laid (t' := tk) (a := hp.objs.size + 1) (o := exo (hp.objs.size + 1) C none) (h' := (hp.push (PySem.W.kdv_tup [])).push (PySem.HandSPX.excO C hp.objs.size)) kk hsz (exo_ok hget)
  have r2 : Vals [V.ref (hp.objs.size + 1)] [Value.ref (hp.objs.size + 1)] := .cons rfl .nil
  have room := hr.make C [] []
  refine wpAny_call (PySem.HandSPX.call_own PySem.F.excBase_ValueError (fun Y => PySem.HandSPX.refsVE_contains Y bm hbm) (I.kIn _ _ hC) (PySem.W.looks_findIn I.kIn iC) (fun self => PySem.W.bind_fn I.kIn self tI) (by simp) (codeAny_mono
    (F1.run _ X.stack _ _ ⟨[Value.ref (hp.objs.size + 1)], []⟩ [Value.ref (hp.objs.size + 1)] _ _ (fun _ _ _ => False) room (I2.env0.make C [] []) (hb _ [Value.ref (hp.objs.size + 1)] I2.kIn rfl) r2 hq) fun r s' hq' => ?_))
  cases r with
  | error er => exact hx pins σ _ _ er s' I2 hq'
  | ok fl =>
    cases fl with
    | ret u =>
      obtain ⟨v, H2, os2, bare2, un2, hok2, rv, ev, ea, q2⟩ := hq'
      subst ev
      obtain ⟨h2, g2, d2, t2, os'⟩ := s'
      exact ⟨rv, flyN (raises_own TT.exC TT.tyC) I hsz kk un2 hok2 os2 bare2 ea q2⟩
    | next => exact False.elim hq'
    | brk => exact False.elim hq'
    | cont => exact False.elim hq'
end
/-! ### raise -/
def raiseM (c : Nat) (ms : List M) : MS := fun env => (argsM ms env).toS fun ds e => .exc c ds e
section
variable {T : Tab} {W : WX} {kr : Kd} {pins : List Nat} {env env' : Env} {σ σ' : L2.St} {P H P' H' : Hp} {X : Cx} {pos : Pos} {e e1 e2 : Expr} {es : List Expr} {m m1 m2 : M}
theorem del_upd {a : Addr} {o : HO} (h : H a = none) : del (upd H a o) a = H := by
  funext b
  by_cases hb : b = a
  · subst hb; rw [del_same, h]
  · rw [del_ne hb, upd_ne hb]
theorem noPasses (hx : ∀ (pins : List (Addr × Obj)) (σ : L2.St) (H : Hp) (s : Shared) (e : Value) (s' : Shared), True) : Passes (L2.CX X.prog X.w) X (fun _ _ _ => False) := fun pins σ H s e s' I h => by
  obtain ⟨a, B, H', cls, d, _, _, _, _, _, _, _, q⟩ := h
  exact q.elim
theorem ds_raise0 {c : Nat} {x : Str} {p cpos : Pos} {fI : Addr} {k : Nat} {fd : FuncData} (hc : X.calm = true) (tk : Takes X W) (TT : OexC X.K (T.excA c)) (iC : PySem.W.findIn X.K (.ref (T.excA c)) "__init__" = some (some (.ref fI))) (tI : PySem.W.typeIn X.K (.ref fI) = some (.type "function"))
    (F1 : FnOk X.prog X.w X.K X.mg X.base (L2.CX X.prog X.w) k fI fd ["self"] (spX0 (T.excA c))) (hr : Room (k + 1) X.A) (hb : Binds X.K fd ["self"] []) (hg : Gl X x) (hm : X.mg x = some (.ref (T.excA c))) (hdb : (x == ("__debug__" : Str)) = false := by decide) :
    DS T W kr pins X (.Raise (some (.Call (.Name x p) [] [] cpos)) none pos) (raiseM c []) := by
  refine ps_imp (ps_raise hc tk (pmk0 TT iC tI F1 hr hb (noPasses fun _ _ _ _ _ _ => True.intro) hg hm hdb)) fun D σ H h => ?_
  obtain ⟨env, P, RR, h⟩ := h
  intro a ha
  refine ⟨a, rfl, upd_same, rfl, upd_same, ?_⟩
  rw [del_upd ha]
  exact h σ P H _ _ RR (Fr.refl _ _ _ _) FrP.refl ⟨rfl, .inl rfl⟩
theorem put_xd {a dx : Addr} {o o' o2 : HO} (ha : H a = none) (hd : H dx = none) (hne : dx ≠ a) : upd (del (upd (upd (upd H a o) dx o') a o2) a) dx (.xd ([] : List (Str × V))) = upd H dx (.xd []) := by
  funext b
  by_cases hb : b = dx
  · subst hb; rw [upd_same, upd_same]
  · rw [upd_ne hb, upd_ne hb]
    by_cases hba : b = a
    · subst hba; rw [del_same, ha]
    · rw [del_ne hba, upd_ne hba, upd_ne hb, upd_ne hba]
theorem put_xd' {a dx : Addr} {o u : HO} {J : Hp} (ha : H a = none) (hd : H dx = none) (hne : dx ≠ a) (hj : ∀ b, b ≠ a → b ≠ dx → J b = H b) : upd (del J a) dx o = upd H dx o := by
  funext b
  by_cases hb : b = dx
  · subst hb; rw [upd_same, upd_same]
  · rw [upd_ne hb, upd_ne hb]
    by_cases hba : b = a
    · subst hba; rw [del_same, ha]
    · rw [del_ne hba, hj b hba hb]
theorem ds_raise1 {c : Nat} {x g : Str} {p cpos : Pos} {fI : Addr} {k : Nat} {fd : FuncData} (hc : X.calm = true) (tk : Takes X W) (TT : OexC X.K (T.excA c)) (iC : PySem.W.findIn X.K (.ref (T.excA c)) "__init__" = some (some (.ref fI))) (tI : PySem.W.typeIn X.K (.ref fI) = some (.type "function"))
    (F1 : FnOk X.prog X.w X.K X.mg X.base (L2.CX X.prog X.w) k fI fd ["self", g] (spX1 (T.excA c) g)) (hr : Room (k + 1) X.A) (hb : Binds X.K fd ["self", g] []) (hg : Gl X x) (hm : X.mg x = some (.ref (T.excA c))) (hF : T.excF c = [g]) (he : DE T W X e .pure m) (hdb : (x == ("__debug__" : Str)) = false := by decide)
    (hst : starEach [e] X.env = (false, eval e X.env) :: starEach [] X.env := by rfl) (hpl : (backTo cpos (starEach [] X.env)).any (·.1) = false := by rfl) :
    DS T W kr pins X (.Raise (some (.Call (.Name x p) [e] [] cpos)) none pos) (raiseM c [m]) := by
  refine ps_imp (ps_raise hc tk (pmk_oex TT iC tI F1 hr hb .nil (noPasses fun _ _ _ _ _ _ => True.intro) hg hm (da_cons he da_nil trivial hst) hdb hst hpl)) fun D σ H h => ?_
  obtain ⟨env, P, RR, h⟩ := h
  refine ⟨env, P, RR, After.mono h.ofR fun ds env1 P1 H1 R1 F1' h1 xs kxs => ?_⟩
  have rs := kxs.pures (pures_cons pures_nil)
  cases ds with
  | nil => rw [Reps] at rs; subst rs; cases kxs
  | cons d0 ds =>
    have rs' := rs
    rw [Reps] at rs
    obtain ⟨v, r, rfl, r1, rs⟩ := rs
    have hl := kxs.rdbs R1
    cases kxs with
    | cons kx kt =>
      cases kt
      refine ⟨by simp, fun a ha => ⟨a, v, by simp, upd_same, fun dx hdx hne => ?_⟩⟩
      have hdx1 : H1 dx = none := by rw [upd_ne hne] at hdx; exact hdx
      refine ⟨rfl, dx, [(g, v)], upd_same, by rw [upd_ne hne, upd_same], hdx1, ?_⟩
      rw [put_xd' (H := H1) (u := .own 0) ha hdx1 hne (fun b h1 h2 => by rw [upd_ne h1, upd_ne h2, upd_ne h1])]
      obtain ⟨R2, F2⟩ := R1.newP (o := .xd [(g, v)]) hdx1
      refine h1 σ _ _ _ _ R2 F2 FrP.refl ⟨rfl, .inr ⟨dx, [(g, v)], [v], rfl, upd_same, fun j f w hj hw => ?_, Reps.sub F2.mono _ _ rs'⟩⟩
      rw [hF] at hj
      cases j with
      | zero => simp at hj hw; subst hj; subst hw; simp
      | succ j => simp at hj
theorem ds_raise2 {c : Nat} {x g1 g2 : Str} {p cpos : Pos} {fI : Addr} {k : Nat} {fd : FuncData} (hc : X.calm = true) (tk : Takes X W) (TT : OexC X.K (T.excA c)) (iC : PySem.W.findIn X.K (.ref (T.excA c)) "__init__" = some (some (.ref fI))) (tI : PySem.W.typeIn X.K (.ref fI) = some (.type "function"))
    (F1 : FnOk X.prog X.w X.K X.mg X.base (L2.CX X.prog X.w) k fI fd ["self", g1, g2] (spX2 (T.excA c) g1 g2)) (hr : Room (k + 1) X.A) (hb : Binds X.K fd ["self", g1, g2] []) (hg : Gl X x) (hm : X.mg x = some (.ref (T.excA c))) (hF : T.excF c = [g1, g2]) (hne12 : (g1 == g2) = false)
    (he1 : DE T W X e1 .pure m1) (he2 : DE T W X e2 .pure m2) (hdb : (x == ("__debug__" : Str)) = false := by decide)
    (hst : starEach [e1, e2] X.env = (false, eval e1 X.env) :: starEach [e2] X.env := by rfl) (hst2 : starEach [e2] X.env = (false, eval e2 X.env) :: starEach [] X.env := by rfl) (hpl : (backTo cpos (starEach [e2] X.env)).any (·.1) = false := by rfl) :
    DS T W kr pins X (.Raise (some (.Call (.Name x p) [e1, e2] [] cpos)) none pos) (raiseM c [m1, m2]) := by
  refine ps_imp (ps_raise hc tk (pmk_oex TT iC tI F1 hr hb .nil (noPasses fun _ _ _ _ _ _ => True.intro) hg hm (da_cons he1 (da_cons he2 da_nil trivial hst2) trivial hst) hdb hst hpl)) fun D σ H h => ?_
  obtain ⟨env, P, RR, h⟩ := h
  refine ⟨env, P, RR, After.mono h.ofR fun ds env1 P1 H1 R1 F1' h1 xs kxs => ?_⟩
  have rs := kxs.pures (pures_cons (pures_cons pures_nil))
  have rs' := rs
  cases kxs with
  | @cons _ _ d1 ds' v _ kx kt =>
    cases kt with
    | @cons _ _ d2 ds'' w _ ky kt =>
      cases kt
      refine ⟨by simp, fun a ha => ⟨a, v, w, by simp, upd_same, fun dx hdx hne => ?_⟩⟩
      have hdx1 : H1 dx = none := by rw [upd_ne hne] at hdx; exact hdx
      refine ⟨rfl, dx, [(g2, w), (g1, v)], by rw [upd_ne (fun z => hne z.symm), upd_same], upd_same, hdx1, ?_⟩
      rw [put_xd' (H := H1) (u := .own 0) ha hdx1 hne (fun b h1 h2 => by rw [upd_ne h2, upd_ne h1, upd_ne h2, upd_ne h1])]
      obtain ⟨R2, F2⟩ := R1.newP (o := .xd [(g2, w), (g1, v)]) hdx1
      refine h1 σ _ _ _ _ R2 F2 FrP.refl ⟨rfl, .inr ⟨dx, [(g2, w), (g1, v)], [v, w], rfl, upd_same, fun j f u hj hw => ?_, Reps.sub F2.mono _ _ rs'⟩⟩
      rw [hF] at hj
      match j, hj, hw with
      | 0, hj, hw => simp at hj hw; subst hj; subst hw; simp [List.lookup, hne12]
      | 1, hj, hw => simp at hj hw; subst hj; subst hw; simp
      | j + 2, hj, hw => simp at hj
end
end Ue

set_option linter.all false
set_option Elab.async false
set_option maxRecDepth 100000
set_option maxHeartbeats 4000000
namespace Ue
open PySem PySem.Spec L2
/-! ### try: .. except X: .. -/
def tryM (body : MS) (caught : Nat → Option Bool) (suite : MS) : MS := fun env => match body env with
  | .exc c fs e => (match caught c with | some true => (match suite e with | .exc _ _ _ => .stk | r => r) | some false => .exc c fs e | none => .stk)
  | r => r
section
variable {T : Tab} {W : WX} {kr : Kd} {pins : List Nat} {env env' : Env} {σ σ' : L2.St} {P H P' H' : Hp} {X : Cx} {pos : Pos}
theorem ds_try {x : Str} {cv : Value} {body suite : List Stmt} {b₀ : Stmt} {np pos' : Pos} {mb ms : MS} {caught : Nat → Option Bool} (hs : X.stack = X.env :: X.outer) (hf : X.env.frame = some X.env.locals) (hc : Names X x cv) (tk : Takes X W)
    (hx : ∀ c b, caught c = some b → PySem.W.exmOne X.K (.ref (T.excA c)) cv = some b)
    (hb : ∀ (W' : WX) (pn : List (Addr × Obj)) (xe : Value → Shared → Prop), Takes (X.tr pn xe) W' → PassesOwn (model X.prog X.w) X.A X.env xe → DSs T W' kr pins (X.tr pn xe) body mb)
    (hsu : ∀ (a : Addr) (oe : Obj) (cls : Value) (d : Option Addr) (pn : List (Addr × Obj)), Zc cls d oe → (∃ vs, oe.data = .fields vs) → DSs T W0 kr pins (X.suite a ((a, oe) :: pn)) (b₀ :: suite) ms) :
    DS T W kr pins X (.Try body [.ExceptHandler (some (.Name x np)) none (b₀ :: suite) pos'] [] [] pos) (tryM mb caught ms) := by
  refine ps_imp (ps_try_only hs hf hc tk (fun W' pn xe t p => hb W' pn xe t p) (fun a oe cls d pn h1 h2 => hsu a oe cls d pn h1 h2)) fun D σ H h => ?_
  obtain ⟨env, P, RR, h⟩ := h
  refine ⟨env, P, RR, ?_⟩
  unfold tryM at h
  cases e : mb env with
  | exc c fs e1 =>
    simp only [e] at h
    intro σ1 P1 H1 cls dd R1 F1 p1 x1
    obtain ⟨rfl, x2⟩ := x1
    cases q : caught c with
    | none => simp only [q] at h; exact False.elim h
    | some b =>
      simp only [q] at h
      refine ⟨b, hx c b q, fun hb a ha => ?_, fun hb => ?_⟩
      · subst hb
        refine ⟨e1, P1, R1, ?_⟩
        have h := AfterS.step h F1 p1
        cases e2 : ms e1 with
        | exc _ _ _ => simp only [e2] at h; exact False.elim h
        | nx e3 => simp only [e2] at h; exact h
        | brk e3 => simp only [e2] at h; exact h
        | cnt e3 => simp only [e2] at h; exact h
        | ret d e3 => simp only [e2] at h; exact h
        | stk => simp only [e2] at h; exact h
      · subst hb
        exact h σ1 P1 H1 _ dd R1 F1 p1 ⟨rfl, x2⟩
  | nx e3 => rw [e] at h; exact h
  | brk e3 => rw [e] at h; exact h
  | cnt e3 => rw [e] at h; exact h
  | ret d e3 => rw [e] at h; exact h
  | stk => rw [e] at h; exact h
end
end Ue

set_option linter.all false
set_option Elab.async false
set_option maxRecDepth 100000
set_option maxHeartbeats 4000000
namespace Ue
open PySem PySem.Spec L2
section
variable {T : Tab} {W : WX} {kr : Kd} {pins : List Nat} {env env' : Env} {σ σ' : L2.St} {P H P' H' : Hp} {X : Cx} {pos : Pos} {e a b c : Expr} {ka kb kc : Kd} {m ma mb mc : M}
/-! ### a < b < c -/
def chainM (g g' : D → D → Option Bool) (ma mb mc : M) : MT := fun env => (ma env).bind fun x e1 => (mb e1).bind fun y e2 => match g x y with
  | some true => (mc e2).bind fun z e3 => liftB (g' y z) e3
  | some false => .ok false e2
  | none => .stk
theorem rd_chain {r r' : R2} {g g' : D → D → Option Bool} (hD : CmpD T r g) (hD' : CmpD T r' g') {Q : Bool → Hp → Prop} (h : rdT T W (chainM g g' ma mb mc) σ H Q) :
    tChain r r' (rdE T W .pure ma) (rdE T W .pure mb) (rdE T W .pure mc) σ H (fun x H' => ∃ k, x = .bl k ∧ Q k H') := by
  obtain ⟨env, P, RR, h⟩ := h
  refine ⟨env, P, RR, After.mono h.bind fun d1 env1 P1 H1 R1 F1 h1 x kx nx => ?_⟩
  refine ⟨env1, P1, R1, After.mono h1.bind fun d2 env2 P2 H2 R2 F2 h2 y ky ny => ?_⟩
  have kx2 : Rep T P2 d1 x := Rep.sub F2.mono _ _ kx
  have ky2 : Rep T P2 d2 y := ky
  cases e : g d1 d2 with
  | none => simp only [e] at h2; exact False.elim h2
  | some b =>
    refine hD P2 H2 d1 d2 x y b _ R2.sub (.inl kx2) (.inl ky2) e ?_
    refine ⟨b, rfl, ?_⟩
    cases b with
    | false =>
      simp only [e] at h2
      exact iteF ⟨false, rfl, h2.here R2 (Fr.refl _ _ _ _)⟩
    | true =>
      simp only [e] at h2
      refine iteT ⟨env2, P2, R2, After.mono h2.bind fun d3 env3 P3 H3 R3 F3 h3 z kz nz => ?_⟩
      have ky3 : Rep T P3 d2 y := Rep.sub F3.mono _ _ ky2
      have kz3 : Rep T P3 d3 z := kz
      cases e2 : g' d2 d3 with
      | none => rw [e2] at h3; exact False.elim h3
      | some b =>
        rw [e2] at h3
        exact hD' P3 H3 d2 d3 y z b _ R3.sub (.inl ky3) (.inl kz3) e2 ⟨b, rfl, h3.here R3 (Fr.refl _ _ _ _)⟩
theorem dt_chain {op op' : CmpOp} {r r' : R2} {g g' : D → D → Option Bool} (ho : OpR X (compareOp op) r) (hD : CmpD T r g) (ho' : OpR X (compareOp op') r') (hD' : CmpD T r' g') (ha : DE T W X a .pure ma) (hb : DE T W X b .pure mb) (hc : DE T W X c .pure mc) (hm : lastMarks [op, op'] [b, c] = false := by rfl) :
    DT T W X (.Compare a [op, op'] [b, c] pos) (chainM g g' ma mb mc) := pt_imp (pt_chain ho ho' ha hb hc hm) fun _ _ _ h => rd_chain hD hD' h
/-- a test's reading as a value's -/
theorem rd_asV {m : MT} {t : TE} {Q : VK} (k : ∀ (Q' : Bool → Hp → Prop), rdT T W m σ H Q' → t σ H (fun x H' => ∃ b, x = .bl b ∧ Q' b H')) (mono : ∀ (Q Q' : VK), (∀ x H, Q x H → Q' x H) → t σ H Q → t σ H Q') (h : rdE T W .pure (bV m) σ H Q) : t σ H Q := by
  obtain ⟨env, P, RR, h⟩ := h
  refine mono _ _ ?_ (k (fun b H' => Q (.bl b) H') ⟨env, P, RR, After.mono h.bind fun b env1 P1 H1 R1 F1 h1 => h1.here R1 (Fr.refl _ _ _ _) _ (show Rep T P1 (.bl b) (.bl b) from rep_bl) trivial⟩)
  rintro x H' ⟨c, rfl, q⟩
  exact q
theorem rdE_mono {k : Kd} {m : M} {Q Q' : VK} (h : ∀ x H, Q x H → Q' x H) (q : rdE T W k m σ H Q) : rdE T W k m σ H Q' := by
  obtain ⟨env, P, RR, q⟩ := q
  exact ⟨env, P, RR, After.mono q fun d e P' H' _ _ z x kx nx => h _ _ (z x kx nx)⟩
theorem de_chain {op op' : CmpOp} {r r' : R2} {g g' : D → D → Option Bool} (ho : OpR X (compareOp op) r) (hD : CmpD T r g) (ho' : OpR X (compareOp op') r') (hD' : CmpD T r' g') (mr : ∀ x y H Q Q', (∀ v H, Q v H → Q' v H) → r x y H Q → r x y H Q') (mr' : ∀ x y H Q Q', (∀ v H, Q v H → Q' v H) → r' x y H Q → r' x y H Q')
    (ha : DE T W X a .pure ma) (hb : DE T W X b .pure mb) (hc : DE T W X c .pure mc) (hm : lastMarks [op, op'] [b, c] = false := by rfl) :
    DE T W X (.Compare a [op, op'] [b, c] pos) .pure (bV (chainM g g' ma mb mc)) := pe_imp (pe_chain ho ho' ha hb hc hm) fun σ H Q h => by
  refine rd_asV (fun Q' q => rd_chain hD hD' q) (fun Q Q' k q => ?_) h
  refine rdE_mono (fun x H1 q => rdE_mono (fun y H2 q => mr _ _ _ _ _ (fun v H3 q => ?_) q) q) q
  obtain ⟨b, e, q⟩ := q
  refine ⟨b, e, ?_⟩
  cases b with
  | true => exact iteT (rdE_mono (fun z H4 q => mr' _ _ _ _ _ k q) q)
  | false => exact iteF (k _ _ q)
theorem mono_rI0 {f : Int → Int → V} : ∀ x y H Q Q', (∀ v H, Q v H → Q' v H) → rI0 f x y H Q → rI0 f x y H Q' := fun x y H Q Q' k ⟨i, j, h1, h2, q⟩ => ⟨i, j, h1, h2, k _ _ q⟩
/-! ### isinstance with a built-in class -/
def tyN : D → Option String
  | .non => some "NoneType" | .bl _ => some "bool" | .int _ => some "int" | .str _ => some "str" | .tup _ => some "tuple" | .lst _ => some "list" | .scr _ => some "list" | .obj _ _ => none
def isiTy (n : String) (d : D) : Option Bool := (tyN d).bind fun s => kitB s n
theorem tyx_of {d : D} {x : V} {s : String} (R1 : PSub P H) (h : Rdb T P H d x) (e : tyN d = some s) : TyX T.K H x (.type s) := by
  cases d with
  | non => cases e; rw [h.nonE]; exact .base .non
  | bl b => cases e; rw [h.blE]; exact .base (.bl b)
  | int i => cases e; rw [h.intE]; exact .base (.int i)
  | str i => cases e; rw [h.strE]; exact .base (.str i)
  | tup ds =>
    cases e
    obtain ⟨a, vs, rfl, q, _⟩ := h.tupE R1
    rcases q with (q | ⟨o, q⟩) | ⟨o, its, n, q1, q2, _⟩
    · exact .base (.tup q)
    · exact .fTuple q
    · exact .kTuple q1 q2
  | lst ds =>
    cases e
    obtain ⟨a, vs, rfl, q, _⟩ := h.lstE R1
    rcases q with q | ⟨o, q⟩
    · exact .base (.lst q)
    · exact .base (.frz q)
  | scr ns =>
    cases e
    obtain ⟨a, rfl, q⟩ := h.scrE R1
    rcases q with (q | ⟨o, q⟩) | ⟨o, its, n, q1, q2, _⟩
    · exact .base (.lst q)
    · exact .base (.frz q)
    · exact .kList q1 q2
  | obj c fs => cases e
def isiM (n : String) (ma : M) : M := fun env => (ma env).bind fun d e => match isiTy n d with | some b => .ok (.bl b) e | none => .stk
theorem rd_isi {n : String} {Q : VK} (hK : X.K = T.K) (h : rdE T W .pure (isiM n ma) σ H Q) : tCB (rIsi X.K) (tCons (rdE T W ka ma) (tCons (tC (.ty n)) tNil)) σ H Q := by
  obtain ⟨env, P, RR, h⟩ := h
  refine ⟨env, P, RR, After.mono h.bind fun d env1 P1 H1 R1 F1 h1 x kx nx => ?_⟩
  cases e : isiTy n d with
  | none => simp only [e] at h1; exact False.elim h1
  | some b =>
    simp only [e] at h1
    unfold isiTy at e
    cases e2 : tyN d with
    | none => rw [e2] at e; cases e
    | some s =>
      rw [e2] at e
      rw [hK]
      exact ⟨x, .ty n, .type s, .type n, b, rfl, .ty n, tyx_of R1.sub (kx.rdb R1) e2, kit_ty e, h1.here R1 (Fr.refl _ _ _ _) _ (show Rep T P1 (.bl b) (.bl b) from rep_bl) trivial⟩
theorem de_isi {n : String} {x : Str} {p p2 : Pos} (hK : X.K = T.K) (hg : Gl X "isinstance") (hm : X.mg "isinstance" = none) (hg2 : Gl X x) (hm2 : X.mg x = none) (hv : bootBuiltins x = some (.type n)) (ha : DE T W X a ka ma) (hn : x ≠ "__name__" := by decide) (hdb : (x == ("__debug__" : Str)) = false := by decide)
    (he : starEach [a, .Name x p2] X.env = (false, eval a X.env) :: starEach [.Name x p2] X.env := by rfl) (hpl : (backTo pos (starEach [.Name x p2] X.env)).any (·.1) = false := by rfl) :
    DE T W X (.Call (.Name "isinstance" p) [a, .Name x p2] [] pos) .pure (isiM n ma) :=
  pe_imp (pe_callB call_isi hg hm (by decide +kernel) (pa_cons ha (pa_cons (pe_bltn (v := .ty n) hg2 hm2 hv rfl hn hdb) pa_nil) he) (by decide) (by decide) he hpl) fun _ _ _ h => rd_isi hK h
theorem tk0 : Takes X W0 := fun u s' h => by
  obtain ⟨a, B, sI, pins, σ, H, cls, d, h⟩ := h
  obtain ⟨_, _, _, _, _, _, _, _, q⟩ := h
  exact q.elim
/-! ### math.gcd -/
theorem cd_gcd : CallD T rGcd .pure (ii gcdI) := fun env σ P H ds xs d Q R1 hx e k => by
  match ds, hx, e with
  | [.int i, .int j], hx, e =>
    obtain ⟨x, y, rfl, hx, hy⟩ := hx.two
    cases e
    exact ⟨i, j, by rw [hx.intE, hy.intE], k _ P H R1 (Fr.refl _ _ _ _) (show Rep T P _ _ from rep_int) trivial⟩
theorem de_callF {x : Str} {id : String} {p : Pos} {es : List Expr} {ks : List Kd} {ms : List M} {k : Kd} {r : List V → Hp → VK → Prop} {g : List D → Option D} (hc : CallR X (.builtin id) r) (hD : CallD T r k g) (hg : Gl X x) (hm : X.mg x = some (.builtin id)) (ha : DA T W X (e :: es) ks ms)
    (hdb : (x == ("__debug__" : Str)) = false := by decide) (he : starEach (e :: es) X.env = (false, eval e X.env) :: starEach es X.env := by rfl) (hpl : (backTo pos (starEach es X.env)).any (·.1) = false := by rfl) : DE T W X (.Call (.Name x p) (e :: es) [] pos) k (callM g ms) :=
  pe_imp (pe_callBfun hc hg hm ha hdb he hpl) fun _ _ _ h => rd_call hD h
end
/-! ### the end: the law's def at the script -/
theorem law_sp {T : Tab} {F : FM} {n : Nat} (hF : ∀ ns : List Int, ns.length ≤ n → ∃ as, F [.v (.scr ns)] = .ok (.bl true) as) : ∀ (H : Hp) (a : Addr) (ns : List Int), ns.length ≤ n → Only H → SqL T.K H a (ns.map V.int) → spF T .pure 1 F [.ref a] H (fun v _ => v = .bl true) fun _ _ _ => False := fun H a ns hl hO hS => by
  obtain ⟨as, e⟩ := hF ns hl
  refine ⟨[.v (.scr ns)], H, ⟨PSub.refl _, fun i e h => ?_, fun i j e f b n h1 h2 o1 o2 => ?_, rfl⟩, rfl, ?_⟩
  · cases i with
    | zero => cases h; exact ⟨_, rfl, by show Rep T H _ _; rw [Rep]; exact ⟨a, rfl, hS⟩⟩
    | succ i => simp at h
  · cases i with
    | zero => cases h1; cases o1
    | succ i => simp at h1
  · rw [e]
    intro P' H' x R2 F2 kx nx
    have kx : Rep T P' (.bl true) x := kx
    rw [Rep] at kx
    exact kx
end Ue
namespace Ue
open PySem PySem.Spec L2
section
variable {T : Tab} {W : WX} {env env' : Env} {σ σ' : L2.St} {P H P' H' : Hp} {X : Cx} {pos : Pos} {tg e a b c : Expr} {m : M}
/-! ### a list or a tuple is walked -/
def asSeq (m : M) : MI := fun env => (m env).bind fun d e => match d with | .lst ds => .ok ds e | .tup ds => .ok ds e | .scr ns => .ok (ns.map D.int) e | _ => .stk
theorem pi_or {w1 w2 : TI} (h1 : PI X tg e w1) (h2 : PI X tg e w2) : PI X tg e (fun σ H Q => w1 σ H Q ∨ w2 σ H Q) := ⟨fun pins s σ H Q I h => h.elim (h1.run pins s σ H Q I) (h2.run pins s σ H Q I)⟩
theorem yl_scr {a : Addr} {ns : List Int} (h : SqL T.K P a (ns.map V.int)) : Yl T (Itl T.K a) P (ns.map D.int) := fun P1 H1 s1 s2 => by
  have q : SqL T.K H1 a (ns.map V.int) := sqL_sub s2 (sqL_sub s1 h)
  refine ⟨fun i d hd => ?_, fun i hi => ⟨_, q, by simpa using hi⟩⟩
  rw [List.getElem?_map] at hd
  cases e : ns[i]? with
  | none => rw [e] at hd; cases hd
  | some n =>
    rw [e] at hd; cases hd
    have hv : (ns.map V.int)[i]? = some (.int n) := by rw [List.getElem?_map, e]; rfl
    refine ⟨⟨_, _, q, hv⟩, fun x H' y => ?_⟩
    obtain ⟨rfl, y⟩ := y
    have := y _ q
    rw [hv] at this; cases this
    exact ⟨P1, rep_int, .inl ⟨rfl, rfl⟩⟩
theorem di_seq (hK : X.K = T.K) (h : DE T W X e .pure m) : DI T W X tg e (asSeq m) := pi_imp (pi_or (pi_list h) (pi_tup h)) fun σ H Q h => by
  obtain ⟨env, P, RR, h⟩ := h
  rw [hK]
  have hb := h.bind
  cases e1 : m env with
  | stk => rw [e1] at hb; exact hb.elim
  | exc c fs e2 =>
    refine .inl ⟨env, P, RR, ?_⟩
    rw [e1] at hb ⊢
    exact hb
  | ok d env1 =>
    cases d with
    | lst ds =>
      refine .inl ⟨env, P, RR, After.at hb fun d' env2 P1 H1 e2 R1 F1 h1 x kx nx => ?_⟩
      rw [e1] at e2; cases e2
      have kx : Rep T P1 (.lst ds) x := kx
      rw [Rep] at kx
      obtain ⟨a, vs, rfl, q1, q2⟩ := kx
      exact ⟨a, rfl, ⟨vs, .inl (Rd.sub R1.sub q1)⟩, h1.here R1 (Fr.refl _ _ _ _) _ (yl_list rfl q1 q2 trivial)⟩
    | scr ns =>
      refine .inl ⟨env, P, RR, After.at hb fun d' env2 P1 H1 e2 R1 F1 h1 x kx nx => ?_⟩
      rw [e1] at e2; cases e2
      have kx : Rep T P1 (.scr ns) x := kx
      rw [Rep] at kx
      obtain ⟨a, rfl, q1⟩ := kx
      exact ⟨a, rfl, ⟨_, sqL_sub R1.sub q1⟩, h1.here R1 (Fr.refl _ _ _ _) _ (yl_scr q1)⟩
    | tup ds =>
      refine .inr ⟨env, P, RR, After.at hb fun d' env2 P1 H1 e2 R1 F1 h1 x kx nx => ?_⟩
      rw [e1] at e2; cases e2
      have kx : Rep T P1 (.tup ds) x := kx
      rw [Rep] at kx
      obtain ⟨a, vs, rfl, q1, q2⟩ := kx
      exact ⟨a, rfl, ⟨vs, sqT_sub R1.sub q1⟩, h1.here R1 (Fr.refl _ _ _ _) _ (yl_tup rfl q1 q2)⟩
    | _ =>
      refine .inl ⟨env, P, RR, After.at hb fun d' env2 P1 H1 e2 R1 F1 h1 x kx nx => ?_⟩
      rw [e1] at e2; cases e2
      exact False.elim h1
theorem hu65 {k : Nat} {A : Around} (hr : Room k A) : A.units + 65 < cLine := by
  have := hr.un
  omega
theorem steady_optN {i : Nat} : Steady (.own i) (optM none) := fun env d env' h => by cases h; rfl
theorem steady_opt {i : Nat} (h : Steady (.own i) m) : Steady (.own i) (optM (some m)) := fun env d env' e => by
  have e : (m env).bind (fun d e1 => match d with | .int i => R.ok (some i) e1 | _ => R.stk) = .ok d env' := e
  cases q : m env with
  | ok d0 e1 =>
    rw [q] at e
    cases d0 with
    | int j =>
      have e : R.ok (some j) e1 = R.ok d env' := e
      cases e; exact h env _ _ q
    | _ => cases e
  | exc c fs e1 => rw [q] at e; cases e
  | stk => rw [q] at e; cases e
end
end Ue

set_option linter.all false
set_option Elab.async false
set_option maxRecDepth 100000
set_option maxHeartbeats 4000000
namespace Ue
open PySem PySem.Spec L2
/-! ### what the written part says of error classes, told by a Bool -/
def oexB (K : PySem.W.Frag) (C : Addr) : Bool := (match K.lookup C with
  | some ⟨.type "type", _, .cls cd, sl⟩ => (match cd.mro, sl.toList with
    | .ref C' :: bm, [_, _, _, _, some (.builtin n), _] => C' == C && n == "ValueError.__new__" && !cd.hasDel && cd.hasDict && PySem.HandSPX.refsVE bm
    | _, _ => false)
  | _ => false) && (decide (PySem.W.findIn K (.ref C) "__setattr__" = some (some (.builtin "object.__setattr__"))) && (decide (PySem.W.subIn K (.ref C) (.type "BaseException") = some true) && (decide (PySem.W.typeIn K (.ref C) = some (.type "type")) && PySem.W.keepIn K (.ref C))))
theorem oexB_ok {K : PySem.W.Frag} {C : Addr} (h : oexB K C = true) : OexC K C := by
  obtain ⟨q, h⟩ := He.ba h
  obtain ⟨h2, h⟩ := He.ba h
  obtain ⟨h3, h⟩ := He.ba h
  obtain ⟨h4, h5⟩ := He.ba h
  refine ⟨?_, of_decide_eq_true h2, of_decide_eq_true h3, of_decide_eq_true h4, h5⟩
  split at q
  · rename_i dd cd sl ho
    split at q
    · rename_i C' bm k0 k1 k2 k3 n k5 hm hs
      simp only [Bool.and_eq_true, beq_iff_eq, Bool.not_eq_true'] at q
      obtain ⟨⟨⟨⟨e1, e2⟩, hdel⟩, hdc⟩, ht⟩ := q
      subst e1 e2
      obtain ⟨nm, bs, mro, ns, qn, hd, sn, sub, ab, col, del⟩ := cd
      dsimp only at hm hdel hdc
      subst hm hdel hdc
      have hsl : sl = #[k0, k1, k2, k3, some (.builtin "ValueError.__new__"), k5] := by
        obtain ⟨l⟩ := sl
        simp only at hs
        rw [hs]
      subst hsl
      exact ⟨nm, qn, ns, bs, bm, sn, sub, ab, col, dd, k0, k1, k2, k3, k5, ho, ht⟩
    · exact absurd q (by decide)
  · exact absurd q (by decide)
/-- the base D of the errors: without an __init__ of its own -/
def xdB (K : PySem.W.Frag) (D : Addr) : Bool := PySem.W.readsIn K D (.type "type") && (decide (PySem.W.specialIn K (.ref D) "__getattribute__" = some (some (.builtin "type.__getattribute__"))) && (match PySem.W.findCls K (.ref D) (.type "type") "__init__" with
  | some (.val (.builtin n)) => decide (n = "ValueError.__init__")
  | _ => false))
theorem xdB_ok {K : PySem.W.Frag} {D : Addr} (h : xdB K D = true) : ClX.CRead K D (.type "type") ∧ PySem.W.findCls K (.ref D) (.type "type") "__init__" = some (.val (.builtin "ValueError.__init__")) := by
  obtain ⟨h1, h⟩ := He.ba h
  obtain ⟨h2, h3⟩ := He.ba h
  refine ⟨⟨h1, of_decide_eq_true h2⟩, ?_⟩
  split at h3
  · rename_i n e
    rw [e, of_decide_eq_true h3]
  · cases h3
/-- an error's class with its own __init__ -/
def xcB (K : PySem.W.Frag) (C : Addr) (fs : List Str) : Bool := oexB K C && (decide (PySem.W.findIn K (.ref C) "__init__" = some (some (.ref (He.ma K C "__init__")))) && (decide (PySem.W.typeIn K (.ref (He.ma K C "__init__")) = some (.type "function")) && fs.all fun f => decide (PySem.W.findIn K (.ref C) f = some none)))
structure XcF (K : PySem.W.Frag) (C : Addr) (fs : List Str) : Prop where
  o : OexC K C
  i : PySem.W.findIn K (.ref C) "__init__" = some (some (.ref (He.ma K C "__init__")))
  t : PySem.W.typeIn K (.ref (He.ma K C "__init__")) = some (.type "function")
  n : ∀ f ∈ fs, PySem.W.findIn K (.ref C) f = some none
theorem xcB_ok {K : PySem.W.Frag} {C : Addr} {fs : List Str} (h : xcB K C fs = true) : XcF K C fs := by
  obtain ⟨h1, h⟩ := He.ba h
  obtain ⟨h2, h⟩ := He.ba h
  obtain ⟨h3, h4⟩ := He.ba h
  exact ⟨oexB_ok h1, of_decide_eq_true h2, of_decide_eq_true h3, fun f hf => of_decide_eq_true (List.all_eq_true.mp h4 f hf)⟩
/-- which error a handler of the class at A takes, by number -/
def exmB (K : PySem.W.Frag) (A : Addr) (t : List (Addr × Bool)) : Bool := t.all fun q => decide (PySem.W.exmOne K (.ref q.1) (.ref A) = some q.2)
theorem exmB_ok {K : PySem.W.Frag} {A : Addr} {t : List (Addr × Bool)} (h : exmB K A t = true) {C : Addr} {b : Bool} (i : Nat) (e : t[i]? = some (C, b)) : PySem.W.exmOne K (.ref C) (.ref A) = some b := of_decide_eq_true (List.all_eq_true.mp h _ (List.mem_of_getElem? e))
/-- a name of the top that stands for a function of the built-in world -/
def bltB (K : PySem.W.Frag) (x : Str) (id : String) : Bool := decide (PySem.W.nsIn K mainGlobals x = some (some (.builtin id)))
theorem bltB_ok {K : PySem.W.Frag} {x : Str} {id : String} {h : Heap} {mg : Str → Option Value} (X : K.In h) (G : h.Ns mainGlobals mg) (e : bltB K x id = true) : mg x = some (.builtin id) := PySem.W.mg_of X G (of_decide_eq_true e)
def cBody : Stmt → List Stmt
  | .ClassDef _ _ _ b .. => b
  | _ => []
def allB (l : List Bool) : Bool := l.all id
theorem allB_ok {l : List Bool} (h : allB l = true) (i : Nat) {b : Bool} (e : l[i]? = some b) : b = true := List.all_eq_true.mp h b (List.mem_of_getElem? e)
end Ue
namespace Ue
open PySem PySem.Spec PyProof.Rows L2
theorem walk_ofU {lw : PySem.W.OpenLaw} {mx lv : Nat} {pq : Program} {ls : List Str} {XQ : (Str → Option Value) → Heap → Prop} {YQ : World → Heap → Prop} {dr : DefRec} {x : Str}
    (h1 : lw.most = some mx) (h2 : mx ≤ sizeLine) (h3 : dr.params.defaults = []) (h4 : Room lv callerA)
    (Z : ∀ (w : World) (mg : Str → Option Value) (f0 : Addr) (hp : Heap), YQ w hp → hp.Ns mainGlobals mg → mg dr.name = some (.ref f0) →
      ∃ (T : Tab) (fd : FuncData) (F : FM), T.K.In hp ∧ (∀ (s : Shared) (u : Value), BindsTo s fd ⟨[u], []⟩ [(x, u)]) ∧ (∀ ns : List Int, ns.length ≤ mx → ∃ as, F [.v (.scr ns)] = .ok (.bl true) as) ∧
        ∀ base : Heap, T.K.In base → base.Ns mainGlobals mg → FnOk lw.prog w T.K mg base (L2.CX lw.prog w) lv f0 fd [x] (spF T .pure 1 F)) :
    PySem.W.WalkO pq ls XQ YQ lw.row.toRowW dr [] (fun f vs => PySem.call f vs) := by
  refine Att.attach_call h1 h3 ?_
  intro w sA sB mg mb f0 _ _ _ _ a vs ns GG YY _ _ _ hmg hobj hints hlen hg
  obtain ⟨T, fd, F, KX, hb, hF, hok⟩ := Z w mg f0 _ YY GG.T.g hmg
  refine law_call KX GG.T.g GG.T.b GG.T.builtins GG.T.nolimit hg hobj hints (Nat.le_trans hlen h2) h4 hok hb ?_ ?_
  · exact fun H hO hS => law_sp hF H a ns hlen hO hS
  · rintro H e s' ⟨_, _, _, _, _, _, _, _, _, _, _, _, z⟩
    exact z
end Ue
namespace Ue
open PySem PySem.Spec PyProof.Rows L2
/-! ### the Hook: the facts by names, one Bool more, the statics in sight -/
structure SaysU (fa : List He.Fa) (fn : List He.DefD) (ex : PySem.W.Frag → Bool) (K : PySem.W.Frag) : Prop where
  d : He.SaysD fa fn K
  more : ex K = true
abbrev AlU : Type := He.AlD × Bool
def frU (n : Nat) (g : Addr → Option Obj) : PySem.W.Frag := He.frG g (cStatics :: He.asD g n)
def obsK (fa : List He.Fa) (fn : List He.DefD) (ex : PySem.W.Frag → Bool) (K : PySem.W.Frag) : AlU := (He.obsD fa fn K, ex K)
def obsU (n : Nat) (fa : List He.Fa) (fn : List He.DefD) (ex : PySem.W.Frag → Bool) (g : Addr → Option Obj) : AlU := obsK fa fn ex (frU n g)
def hookU (n : Nat) (fa : List He.Fa) (fn : List He.DefD) (ex : PySem.W.Frag → Bool) : PySem.W.Hook where
  α := AlU
  obs := fun s => obsU n fa fn ex s.heap.get?
  val := fun _ => (He.valD fn, true)
  says := fun _ hp => ∃ K : PySem.W.Frag, K.In hp ∧ SaysU fa fn ex K
  of := fun _ _ e => ⟨_, He.frG_in, congrArg (fun z : AlU => z.1) e, congrArg (fun z : AlU => z.2) e⟩
  keeps := fun _ _ _ ⟨K, q1, q2⟩ k => ⟨K, PySem.W.Frag.In.keeps q1 k, q2⟩
theorem obsU_eq {n : Nat} {fa : List He.Fa} {fn : List He.DefD} {ex : PySem.W.Frag → Bool} {g : Addr → Option Obj} {s : Shared} (q : ∀ a, g a = s.heap.get? a) : obsU n fa fn ex g = (hookU n fa fn ex).obs s := by
  have e : g = s.heap.get? := funext q
  subst e; rfl
end Ue

set_option linter.all false
set_option Elab.async false
set_option maxRecDepth 100000
set_option maxHeartbeats 4000000
/-! computing with the combinators -/
namespace Ue
open PySem
section
variable {α β : Type} {a : α} {e env : Env} {c : Nat} {fs : List D} {d x y : D} {i j : Nat} {m ma mb mc : M} {t ta tb : MT} {b : Bool}
def SR.th (r : SR) (k : MS) : SR := match r with | .nx e => k e | r => r
@[simp] theorem th_nx {k : MS} : (SR.nx e).th k = k e := (rfl)
@[simp] theorem th_ret {k : MS} : (SR.ret d e).th k = .ret d e := (rfl)
@[simp] theorem th_exc {k : MS} : (SR.exc c fs e).th k = .exc c fs e := (rfl)
@[simp] theorem th_brk {k : MS} : (SR.brk e).th k = .brk e := (rfl)
@[simp] theorem th_cnt {k : MS} : (SR.cnt e).th k = .cnt e := (rfl)
@[simp] theorem seqM_s (s1 s2 : MS) : seqM s1 s2 env = (s1 env).th s2 := by unfold seqM SR.th; cases s1 env <;> rfl
@[simp] theorem bind_ok {f : α → Env → R β} : (R.ok a e).bind f = f a e := (rfl)
@[simp] theorem bind_exc {f : α → Env → R β} : (R.exc c fs e : R α).bind f = .exc c fs e := (rfl)
@[simp] theorem toS_ok {f : α → Env → SR} : (R.ok a e).toS f = f a e := (rfl)
@[simp] theorem toS_exc {f : α → Env → SR} : (R.exc c fs e : R α).toS f = .exc c fs e := (rfl)
@[simp] theorem liftO_s : liftO (some d) e = .ok d e := (rfl)
@[simp] theorem liftB_s : liftB (some b) e = .ok b e := (rfl)
@[simp] theorem op2M_s {g : D → D → Option D} : op2M g ma mb env = (ma env).bind fun x e1 => (mb e1).bind fun y e2 => liftO (g x y) e2 := (rfl)
@[simp] theorem op1M_s {g : D → Option D} : op1M g ma env = (ma env).bind fun x e1 => liftO (g x) e1 := (rfl)
@[simp] theorem cmpM_s {g : D → D → Option Bool} : cmpM g ma mb env = (ma env).bind fun x e1 => (mb e1).bind fun y e2 => liftB (g x y) e2 := (rfl)
@[simp] theorem bV_s : bV t env = (t env).bind fun b e => .ok (.bl b) e := (rfl)
@[simp] theorem cM_s : cM d env = .ok d env := (rfl)
@[simp] theorem varM_s : varM i env = match env[i]? with | some (some (.v d)) => .ok d env | _ => .stk := (rfl)
@[simp] theorem ovarM_s : ovarM i env = match env[i]? with | some (some (.own ds)) => .ok (.lst ds) env | _ => .stk := (rfl)
@[simp] theorem frzM_s : frzM i env = match env[i]? with | some (some (.own ds)) => .ok (.lst ds) (env.set i (some (.v (.lst ds)))) | _ => .stk := (rfl)
@[simp] theorem trM_s : trM m env = (m env).bind fun d e => liftB (truth d) e := (rfl)
@[simp] theorem andT_s : andT ta tb env = (ta env).bind fun x e => if x then tb e else .ok false e := (rfl)
@[simp] theorem orT_s : orT ta tb env = (ta env).bind fun x e => if x then .ok true e else tb e := (rfl)
@[simp] theorem notT_s : notT ta env = (ta env).bind fun x e => .ok (!x) e := (rfl)
@[simp] theorem ifM_s {p q : Env → R α} : ifM t p q env = (t env).bind fun x e => if x then p e else q e := (rfl)
@[simp] theorem andV_s : andV ma mb env = (ma env).bind fun d e => match d with | .bl true => mb e | .bl false => .ok (.bl false) e | _ => .stk := (rfl)
@[simp] theorem orV_s : orV ma mb env = (ma env).bind fun d e => match d with | .bl true => .ok (.bl true) e | .bl false => mb e | _ => .stk := (rfl)
@[simp] theorem notV_s : notV ma env = (ma env).bind fun d e => match d with | .bl b => .ok (.bl (!b)) e | _ => .stk := (rfl)
@[simp] theorem argsM_n : argsM [] env = .ok [] env := (rfl)
@[simp] theorem argsM_c {ms : List M} : argsM (m :: ms) env = (m env).bind fun d e1 => (argsM ms e1).bind fun ds e2 => .ok (d :: ds) e2 := (rfl)
@[simp] theorem callM_s {g : List D → Option D} {ms : List M} : callM g ms env = (argsM ms env).bind fun ds e => liftO (g ds) e := (rfl)
@[simp] theorem tupM_s {ms : List M} : tupM ms env = (argsM ms env).bind fun ds e => if ds.length ≤ sizeLine then .ok (.tup ds) e else .stk := (rfl)
@[simp] theorem lstM_s {ms : List M} : lstM ms env = (argsM ms env).bind fun ds e => if ds.length ≤ sizeLine then .ok (.lst ds) e else .stk := (rfl)
@[simp] theorem chainM_s {g g' : D → D → Option Bool} : chainM g g' ma mb mc env = (ma env).bind fun x e1 => (mb e1).bind fun y e2 => match g x y with
  | some true => (mc e2).bind fun z e3 => liftB (g' y z) e3
  | some false => .ok false e2
  | none => .stk := (rfl)
@[simp] theorem isiM_s {n : String} : isiM n ma env = (ma env).bind fun d e => match isiTy n d with | some b => .ok (.bl b) e | none => .stk := (rfl)
@[simp] theorem nilM_s : nilM env = .nx env := (rfl)
@[simp] theorem brkM_s : brkM env = .brk env := (rfl)
@[simp] theorem cntM_s : cntM env = .cnt env := (rfl)
@[simp] theorem retM_s : retM m env = (m env).toS fun d e => .ret d e := (rfl)
@[simp] theorem retNM_s : retNM env = .ret .non env := (rfl)
@[simp] theorem retOM_s : retOM i env = match env[i]? with | some (some (.own ds)) => .ret (.lst ds) (env.set i none) | _ => .stk := (rfl)
@[simp] theorem exprM_s : exprM m env = (m env).toS fun _ e => .nx e := (rfl)
@[simp] theorem setM_s : setM i m env = (m env).toS fun d e => .nx (e.set i (some (.v d))) := (rfl)
@[simp] theorem setOM_s : setOM i m env = (m env).toS fun d e => match d with | .lst ds => .nx (e.set i (some (.own ds))) | _ => .stk := (rfl)
@[simp] theorem iffM_s {p q : MS} : iffM t p q env = (t env).toS fun c e => if c then p e else q e := (rfl)
@[simp] theorem raiseM_s {n : Nat} {ms : List M} : raiseM n ms env = (argsM ms env).toS fun ds e => .exc n ds e := (rfl)
@[simp] theorem asL_s : asL m env = (m env).bind fun d e => match d with | .lst ds => .ok ds e | _ => .stk := (rfl)
@[simp] theorem asT_s : asT m env = (m env).bind fun d e => match d with | .tup ds => .ok ds e | _ => .stk := (rfl)
@[simp] theorem asSeq_s : asSeq m env = (m env).bind fun d e => match d with | .lst ds => .ok ds e | .tup ds => .ok ds e | .scr ns => .ok (ns.map D.int) e | _ => .stk := (rfl)
@[simp] theorem rng1M_s : rng1M m env = (m env).bind fun d e => match d with | .int j => if -(2 ^ 62) ≤ j ∧ j < 2 ^ 62 then .ok (rngL 0 j.toNat) e else .stk | _ => .stk := (rfl)
@[simp] theorem rng2M_s : rng2M ma mb env = (ma env).bind fun d e1 => (mb e1).bind fun d' e => match d, d' with | .int i, .int j => if -(2 ^ 62) ≤ i ∧ i < 2 ^ 62 ∧ -(2 ^ 62) ≤ j ∧ j < 2 ^ 62 then .ok (rngL i (j - i).toNat) e else .stk | _, _ => .stk := (rfl)
@[simp] theorem enumM_s : enumM m env = (m env).bind fun d e => match d with | .lst ds => .ok (enumL ds) e | _ => .stk := (rfl)
@[simp] theorem tgN_s : tgN i d env = some (env.set i (some (.v d))) := (rfl)
@[simp] theorem tgT_s {gs : List TGM} {ds : List D} : tgT gs (.tup ds) env = tgL gs ds env := (rfl)
@[simp] theorem tgL_n : tgL [] [] env = some env := (rfl)
@[simp] theorem tgL_c {g : TGM} {gs : List TGM} {ds : List D} : tgL (g :: gs) (d :: ds) env = (g d env).bind (tgL gs ds) := (rfl)
@[simp] theorem asgM_s {g : TGM} : asgM g m env = (m env).toS fun d e => match g d e with | some e' => .nx e' | none => .stk := (rfl)
@[simp] theorem forM_n {g : TGM} {s : MS} : forM g s [] env = .nx env := (rfl)
theorem forM_c {g : TGM} {s : MS} {ds : List D} : forM g s (d :: ds) env = match g d env with | some e => loopS (s e) (forM g s ds) | none => .stk := (rfl)
theorem whileM_s {n : Nat} {s : MS} : whileM t s (n + 1) env = (t env).toS fun c e => if c then loopS (s e) (whileM t s n) else .nx e := rfl
@[simp] theorem forS_s {mi : MI} {g : TGM} {s : MS} : forS mi g s env = (mi env).toS fun ds e => forM g s ds e := (rfl)
@[simp] theorem loopS_nx {k : MS} : loopS (.nx e) k = k e := (rfl)
@[simp] theorem loopS_cnt {k : MS} : loopS (.cnt e) k = k e := (rfl)
@[simp] theorem loopS_brk {k : MS} : loopS (.brk e) k = .nx e := (rfl)
@[simp] theorem loopS_ret {k : MS} : loopS (.ret d e) k = .ret d e := (rfl)
@[simp] theorem loopS_exc {k : MS} : loopS (.exc c fs e) k = .exc c fs e := (rfl)
@[simp] theorem optM_n : optM none env = .ok none env := (rfl)
@[simp] theorem optM_c : optM (some m) env = (m env).bind fun d e1 => match d with | .int i => .ok (some i) e1 | _ => .stk := (rfl)
@[simp] theorem slLM_s {lo hi : Option M} : slLM m lo hi env = (m env).bind fun d e => (optM lo e).bind fun l e => (optM hi e).bind fun u e => match d with | .lst ds => .ok (.lst (cutD ds l u)) e | .scr ns => .ok (.lst (cutD (ns.map D.int) l u)) e | _ => .stk := (rfl)
@[simp] theorem slTM_s {lo hi : Option M} : slTM m lo hi env = (m env).bind fun d e => (optM lo e).bind fun l e => (optM hi e).bind fun u e => match d with | .tup ds => .ok (.tup (cutD ds l u)) e | _ => .stk := (rfl)
@[simp] theorem mtM_s {g : List D → List D → Option (D × List D)} {ms : List M} : mtM i g ms env = match env[i]? with
  | some (some (.own _)) => (argsM ms env).bind fun es e => match e[i]? with
    | some (some (.own ds)) => (match g ds es with | some (d, ds') => .ok d (e.set i (some (.own ds'))) | none => .stk)
    | _ => .stk
  | _ => .stk := (rfl)
@[simp] theorem setIM_s : setIM i m ma env = (m env).toS fun d e => match e[i]? with
  | some (some (.own _)) => (ma e).toS fun n e => setI2 i d n e
  | _ => .stk := (rfl)
@[simp] theorem setI2_s {n : Int} : setI2 i d (.int n) env = match env[i]? with
  | some (some (.own ds)) => (match L2.ixN ds.length n with | some q => .nx (env.set i (some (.own (ds.set q d)))) | none => .stk)
  | _ => .stk := by unfold setI2; cases h : env[i]? with
  | none => rfl
  | some o => cases o with
    | none => rfl
    | some v => cases v <;> rfl
@[simp] theorem augM_s {g : D → D → Option D} : augM i g m env = match env[i]? with
  | some (some (.v d0)) => (m env).toS fun d e => (match g d0 d with | some r => .nx (e.set i (some (.v r))) | none => .stk)
  | _ => .stk := (rfl)
@[simp] theorem parM_s : parM i j ma mb env = (ma env).toS fun d1 e1 => (mb e1).toS fun d2 e2 => .nx ((e2.set i (some (.v d1))).set j (some (.v d2))) := (rfl)
@[simp] theorem compM_s {vs : List Nat} {mi : MI} {g : TGM} {tt : MT} {te : M} : compM vs mi g tt te env = (mi env).bind fun ds e => if ds.length ≤ sizeLine then (compL vs g tt te ds e).bind fun ys e' => .ok (.lst ys) e' else .stk := (rfl)
@[simp] theorem yesT_s : yesT env = .ok true env := (rfl)
/-! the functions -/
variable {p q : Int}
@[simp] theorem i2_s {f : Int → Int → D} : i2 f (.int p) (.int q) = some (f p q) := (rfl)
@[simp] theorem i2c_s {g : Int → Int → Bool} {f : Int → Int → D} : i2c g f (.int p) (.int q) = if g p q then some (f p q) else none := (rfl)
@[simp] theorem c2_s {f : Int → Int → Bool} : c2 f (.int p) (.int q) = some (f p q) := (rfl)
@[simp] theorem u1_s {f : Int → D} : u1 f (.int p) = some (f p) := (rfl)
@[simp] theorem ii_s {f : Int → Int → Int} : ii f [.int p, .int q] = some (.int (f p q)) := (rfl)
@[simp] theorem eqS_ii : eqS (.int p) (.int q) = some (decide (p = q)) := (rfl)
@[simp] theorem eqS_bb {u v : Bool} : eqS (.bl u) (.bl v) = some (decide (u = v)) := (rfl)
@[simp] theorem eqS_ss {u v : Str} : eqS (.str u) (.str v) = some (decide (u = v)) := (rfl)
@[simp] theorem neS_s : neS x y = (eqS x y).map (!·) := (rfl)
@[simp] theorem isB_s {u v : Bool} : isB (.bl u) (.bl v) = some (decide (u = v)) := (rfl)
@[simp] theorem notB_s : notB x y = (isB x y).map (!·) := (rfl)
@[simp] theorem notN_s : notN x y = (isN x y).map (!·) := (rfl)
@[simp] theorem neD_s : neD x y = (eqD x y).map (!·) := (rfl)
@[simp] theorem notInD_s : notInD x y = (inD x y).map (!·) := (rfl)
@[simp] theorem absD_s : absD [.int p] = some (.int (if p < 0 then -p else p)) := (rfl)
@[simp] theorem intD_s : intD [.int p] = some (.int p) := (rfl)
@[simp] theorem lenD_l {ds : List D} : lenD [.lst ds] = some (.int ds.length) := (rfl)
@[simp] theorem lenD_t {ds : List D} : lenD [.tup ds] = some (.int ds.length) := (rfl)
@[simp] theorem lenD_s {ns : List Int} : lenD [.scr ns] = some (.int ns.length) := (rfl)
@[simp] theorem listD_l {ds : List D} : listD [.lst ds] = some (.lst ds) := (rfl)
@[simp] theorem listD_t {ds : List D} : listD [.tup ds] = some (.lst ds) := (rfl)
@[simp] theorem tupleD_l {ds : List D} : tupleD [.lst ds] = some (.tup ds) := (rfl)
@[simp] theorem tupleD_t {ds : List D} : tupleD [.tup ds] = some (.tup ds) := (rfl)
@[simp] theorem ixD_l {ds : List D} : ixD (.lst ds) (.int p) = L2.atI ds p := (rfl)
@[simp] theorem ixD_t {ds : List D} : ixD (.tup ds) (.int p) = L2.atI ds p := (rfl)
@[simp] theorem ixD_s {ns : List Int} : ixD (.scr ns) (.int p) = (L2.atI ns p).map D.int := (rfl)
@[simp] theorem truth_i : truth (.int p) = some (p != 0) := (rfl)
@[simp] theorem truth_b {u : Bool} : truth (.bl u) = some u := (rfl)
@[simp] theorem truth_n : truth .non = some false := (rfl)
/-! defs -/
@[simp] theorem runF_s {fr : Bool} {n : Nat} {pins : List Nat} {s : MS} {as : List EV} : runF fr n pins s as = endF fr pins as (s (as.map some ++ List.replicate (n - as.length) none)) := (rfl)
@[simp] theorem endF_ret {fr : Bool} {pins : List Nat} {as : List EV} : endF fr pins as (.ret d e) = match finA pins 0 as e with | some as' => .ok d as' | none => .stk := (rfl)
@[simp] theorem endF_nx {pins : List Nat} {as : List EV} : endF false pins as (.nx e) = match finA pins 0 as e with | some as' => .ok .non as' | none => .stk := (rfl)
@[simp] theorem endF_exc {fr : Bool} {pins : List Nat} {as : List EV} : endF fr pins as (.exc c fs e) = match finA pins 0 as e with | some as' => .exc c fs as' | none => .stk := (rfl)
@[simp] theorem finA_n {pins : List Nat} : finA pins i [] e = some [] := (rfl)
@[simp] theorem finA_v {pins : List Nat} {as : List EV} : finA pins i (.v d :: as) e = (finA pins (i + 1) as e).map (.v d :: ·) := (rfl)
@[simp] theorem finA_o {pins : List Nat} {as : List EV} {ds : List D} : finA pins i (.own ds :: as) e = if i ∈ pins then (match e[i]? with | some (some (.own ds)) => (finA pins (i + 1) as e).map (.own ds :: ·) | _ => none) else none := (rfl)
@[simp] theorem argG_n : argG [] env = .ok [] env := (rfl)
@[simp] theorem argG_p {as : List Ag} : argG (.p m :: as) env = (m env).bind fun d e1 => (argG as e1).bind fun ds e2 => .ok (.d d :: ds) e2 := (rfl)
@[simp] theorem argG_o {as : List Ag} : argG (.o i :: as) env = match env[i]? with
  | some (some (.own _)) => (argG as env).bind fun ds e2 => .ok (.s i :: ds) e2
  | _ => .stk := (rfl)
@[simp] theorem resA_n : resA [] e = some [] := (rfl)
@[simp] theorem resA_d {as : List AD} : resA (.d x :: as) e = (resA as e).map (.v x :: ·) := (rfl)
@[simp] theorem resA_s {as : List AD} : resA (.s i :: as) e = match e[i]? with
  | some (some (.own ds)) => (resA as e).map (.own ds :: ·)
  | _ => none := (rfl)
@[simp] theorem fewO_n : fewO [] = true := (rfl)
@[simp] theorem fewO_d {as : List AD} : fewO (.d x :: as) = fewO as := (rfl)
@[simp] theorem fewO_s {as : List AD} : fewO (.s i :: as) = as.all fun a => match a with | .d _ => true | .s _ => false := (rfl)
@[simp] theorem ownIx_n : ownIx j [] = none := (rfl)
@[simp] theorem ownIx_d {as : List AD} : ownIx j (.d x :: as) = ownIx (j + 1) as := (rfl)
@[simp] theorem ownIx_s {as : List AD} : ownIx j (.s i :: as) = some (j, i) := (rfl)
@[simp] theorem putA_s {ss : List AD} {as : List EV} : putA ss as e = match ownIx 0 ss with
  | none => e
  | some (j, i) => match as[j]? with
    | some a => e.set i (some a)
    | none => e := (rfl)
def CRes.go (r : CRes) (ss : List AD) (e : Env) : R D := match r with
  | .ok d as' => .ok d (putA ss as' e)
  | .exc c fs as' => .exc c fs (putA ss as' e)
  | .stk => .stk
@[simp] theorem go_ok {ss : List AD} {as : List EV} : (CRes.ok d as).go ss e = .ok d (putA ss as e) := (rfl)
@[simp] theorem go_exc {ss : List AD} {as : List EV} : (CRes.exc c fs as).go ss e = .exc c fs (putA ss as e) := (rfl)
@[simp] theorem fnM_s {F : FM} {ags : List Ag} {dfl : List D} : fnM F ags dfl env = (argG ags env).bind fun ss e => match resA ss e with
  | none => .stk
  | some as => if fewO ss then (F (as ++ dfl.map EV.v)).go ss e else .stk := rfl
def SR.ca (r : SR) (cg : Nat → Option Bool) (s : MS) : SR := match r with
  | .exc c fs e => (match cg c with | some true => (match s e with | .exc _ _ _ => .stk | r => r) | some false => .exc c fs e | none => .stk)
  | r => r
@[simp] theorem tryM_s {s1 s2 : MS} {cg : Nat → Option Bool} : tryM s1 cg s2 env = (s1 env).ca cg s2 := (rfl)
@[simp] theorem ca_nx {s2 : MS} {cg : Nat → Option Bool} : (SR.nx e).ca cg s2 = .nx e := (rfl)
@[simp] theorem ca_ret {s2 : MS} {cg : Nat → Option Bool} : (SR.ret d e).ca cg s2 = .ret d e := (rfl)
@[simp] theorem ca_exc {s2 : MS} {cg : Nat → Option Bool} : (SR.exc c fs e).ca cg s2 = (match cg c with | some true => (match s2 e with | .exc _ _ _ => .stk | r => r) | some false => .exc c fs e | none => .stk) := (rfl)
end
/-! ### the bounds -/
theorem small_ok {i : Int} (h : i.natAbs < 18446744073709551616) : small64 i = true := decide_eq_true h
theorem mulOk_r {i j : Int} (h : j.natAbs < 18446744073709551616) : mulOk i j = true := by unfold mulOk; rw [small_ok h, Bool.or_true, Bool.true_or]
theorem mulOk_l {i j : Int} (h : i.natAbs < 18446744073709551616) : mulOk i j = true := by unfold mulOk; rw [small_ok h, Bool.true_or, Bool.true_or]
theorem log2_lt_of {n k : Nat} (hk : 0 < k) (h : n < 2 ^ k) : n.log2 < k := by
  by_cases h0 : n = 0
  · subst h0; simpa using hk
  · exact (Nat.log2_lt h0).mpr h
/-- numbers below 2^900 -/
def Mid (i : Int) : Prop := i.natAbs < 2 ^ 900
theorem mulOk_mid {i j : Int} (hi : Mid i) (hj : Mid j) : mulOk i j = true := by
  have h1 := log2_lt_of (by decide) hi
  have h2 := log2_lt_of (by decide) hj
  unfold mulOk
  have : decide (i.natAbs.log2 + j.natAbs.log2 < 100000000) = true := decide_eq_true (by omega)
  rw [this, Bool.or_true]
theorem divOk_mid {i j : Int} (h0 : j ≠ 0) (hj : Mid j) : divOk i j = true := by
  have h2 := log2_lt_of (by decide) hj
  unfold divOk Builtin.divisionGoesByPylong
  have h3 : (j == 0) = false := by simpa using h0
  simp only [h3, Bool.false_eq_true, if_false, h0, ne_eq, not_false_eq_true, decide_true, Bool.true_and]
  have h4 : decide (j.natAbs.log2 / 30 + 1 > 300) = false := decide_eq_false (by omega)
  simp [h4]
end Ue

set_option linter.all false
set_option Elab.async false
set_option maxRecDepth 100000
set_option maxHeartbeats 4000000
/-! plain lemmas for every law -/
namespace Ue
open PySem
/-! ### equality and membership of data -/
theorem toPys_ints : ∀ ns : List Int, toPys (ns.map D.int) = some (ns.map PyData.int)
  | [] => by simp [toPys]
  | n :: ns => by simp [toPys, toPy, toPys_ints ns]
theorem lay_ints : ∀ ns : List Int, PyData.canLayAll0 (ns.map PyData.int) = true
  | [] => by simp [PyData.canLayAll0]
  | n :: ns => by simp [PyData.canLayAll0, PyData.canLay0, lay_ints ns]
theorem depth_ints : ∀ ns : List Int, PyData.depthAll (ns.map PyData.int) = 0
  | [] => by simp [PyData.depthAll]
  | n :: ns => by simp [PyData.depthAll, PyData.depth, depth_ints ns]
theorem shaped_ints (ns : List Int) : SeqAt.shaped (.list (ns.map PyData.int)) = true := by
  unfold SeqAt.shaped; simp [PyData.canLay0, PyData.depth, lay_ints, depth_ints]
theorem shaped_intsT (ns : List Int) : SeqAt.shaped (.tuple (ns.map PyData.int)) = true := by
  unfold SeqAt.shaped; simp [PyData.canLay0, PyData.depth, lay_ints, depth_ints]
theorem shaped_int (n : Int) : SeqAt.shaped (.int n) = true := by
  unfold SeqAt.shaped; simp [PyData.canLay0, PyData.depth]
theorem eqv_ints : ∀ a b : List Int, PyData.eqvAll (a.map PyData.int) (b.map PyData.int) = decide (a = b)
  | [], [] => by simp [PyData.eqvAll]
  | [], _ :: _ => by simp [PyData.eqvAll]
  | _ :: _, [] => by simp [PyData.eqvAll]
  | x :: xs, y :: ys => by
    simp only [List.map_cons, PyData.eqvAll, PyData.eqv, eqv_ints xs ys, List.cons.injEq, Bool.decide_and]
    congr 1
theorem eqD_lst {a b : List Int} : eqD (.lst (a.map D.int)) (.lst (b.map D.int)) = some (decide (a = b)) := by
  simp [eqD, toPy, toPys_ints, shaped_ints, PyData.eqv, eqv_ints]
theorem eqD_tup {a b : List Int} : eqD (.tup (a.map D.int)) (.tup (b.map D.int)) = some (decide (a = b)) := by
  simp [eqD, toPy, toPys_ints, shaped_intsT, PyData.eqv, eqv_ints]
theorem any_ints : ∀ (a : List Int) (n : Int), (a.map PyData.int).any (fun z => PyData.eqv z (.int n)) = decide (n ∈ a)
  | [], n => by simp
  | x :: xs, n => by
    simp only [List.map_cons, List.any_cons, any_ints xs n, List.mem_cons, PyData.eqv, Bool.decide_or]
    by_cases h : n = x
    · subst h; simp
    · have : (x == n) = false := by simpa using fun z => h z.symm
      simp [h, this]
theorem inD_ints {a : List Int} {n : Int} : inD (.int n) (.lst (a.map D.int)) = some (decide (n ∈ a)) := by
  have e : toPy (.lst (a.map D.int)) = some (.list (a.map PyData.int)) := by simp [toPy, toPys_ints]
  unfold inD
  rw [show toPy (.int n) = some (.int n) by simp [toPy], e]
  simp only [shaped_int, shaped_ints, and_self, if_true, any_ints]
theorem dInts_map : ∀ ns : List Int, dInts (ns.map D.int) = some ns
  | [] => rfl
  | n :: ns => by show (dInts (ns.map D.int)).map (n :: ·) = _; rw [dInts_map ns]; rfl
theorem sumD_ints {ns : List Int} : sumD [.lst (ns.map D.int)] = some (.int ns.sum) := by
  show (dInts (ns.map D.int)).map (fun ns => D.int ns.sum) = _; rw [dInts_map]; rfl
theorem atI_nat {α : Type} {xs : List α} {i : Nat} {a : α} (h : xs[i]? = some a) : L2.atI xs (i : Int) = some a := by
  have hi : i < xs.length := by
    rcases Nat.lt_or_ge i xs.length with q | q
    · exact q
    · rw [List.getElem?_eq_none q] at h; cases h
  unfold L2.atI L2.ixN
  rw [if_pos (by omega), if_pos (by omega)]
  simpa using h
/-! ### loops -/
theorem forM_inv {g : TGM} {s : MS} (I : Env → Prop) : ∀ (ds : List D) (env : Env), (∀ d ∈ ds, ∀ e, I e → ∃ e1 e2, g d e = some e1 ∧ (s e1 = .nx e2 ∨ s e1 = .cnt e2) ∧ I e2) → I env → ∃ e2, forM g s ds env = .nx e2 ∧ I e2
  | [], env, _, h => ⟨env, rfl, h⟩
  | d :: ds, env, k, h => by
    obtain ⟨e1, e2, q1, q2, q3⟩ := k d (by simp) env h
    obtain ⟨e3, q4, q5⟩ := forM_inv I ds e2 (fun d hd => k d (by simp [hd])) q3
    refine ⟨e3, ?_, q5⟩
    rw [forM_c, q1]
    rcases q2 with q2 | q2 <;> simp [q2, q4]
/-- .. the i-th state told by i -/
theorem forM_idx {g : TGM} {s : MS} (I : Nat → Env → Prop) : ∀ (ds : List D) (k : Nat) (env : Env), (∀ i d, ds[i]? = some d → ∀ e, I (k + i) e → ∃ e1 e2, g d e = some e1 ∧ (s e1 = .nx e2 ∨ s e1 = .cnt e2) ∧ I (k + i + 1) e2) → I k env → ∃ e2, forM g s ds env = .nx e2 ∧ I (k + ds.length) e2
  | [], k, env, _, h => ⟨env, rfl, h⟩
  | d :: ds, k, env, q, h => by
    obtain ⟨e1, e2, q1, q2, q3⟩ := q 0 d rfl env h
    obtain ⟨e3, q4, q5⟩ := forM_idx I ds (k + 1) e2 (fun i d hd e he => by
      obtain ⟨e1, e2, z1, z2, z3⟩ := q (i + 1) d hd e (by rwa [show k + (i + 1) = k + 1 + i by omega])
      exact ⟨e1, e2, z1, z2, by rwa [show k + (i + 1) + 1 = k + 1 + i + 1 by omega] at z3⟩) q3
    refine ⟨e3, ?_, by rwa [show k + (d :: ds).length = k + 1 + ds.length by simp; omega]⟩
    rw [forM_c, q1]
    rcases q2 with q2 | q2 <;> simp [q2, q4]
/-- a comprehension whose turns are known -/
theorem compL_run {vs : List Nat} {g : TGM} {tt : MT} {te : M} (I : Env → Prop) (R : D → Option D → Prop) : ∀ (ds : List D) (env : Env),
    (∀ d ∈ ds, ∀ e, I e → vsOk e vs = true ∧ ∃ e1 e2, g d (wipeE e vs) = some e1 ∧ ((tt e1 = .ok false e2 ∧ I (restE e e2 vs) ∧ R d none) ∨ (tt e1 = .ok true e2 ∧ ∃ y e3, te e2 = .ok y e3 ∧ I (restE e e3 vs) ∧ R d (some y)))) → I env →
    ∃ (os : List (Option D)) (e' : Env), compL vs g tt te ds env = .ok (os.filterMap id) e' ∧ I e' ∧ os.length = ds.length ∧ ∀ (i : Nat) (d : D) (o : Option D), ds[i]? = some d → os[i]? = some o → R d o
  | [], env, _, h => ⟨[], env, rfl, h, rfl, by simp⟩
  | d :: ds, env, k, h => by
    obtain ⟨hv, e1, e2, q1, q2⟩ := k d (by simp) env h
    rcases q2 with ⟨q2, q3, q4⟩ | ⟨q2, y, e3, q3, q4, q5⟩
    · obtain ⟨os, e', w1, w2, w3, w4⟩ := compL_run I R ds _ (fun d hd => k d (by simp [hd])) q3
      refine ⟨none :: os, e', ?_, w2, by simp [w3], fun i d' o hd ho => ?_⟩
      · unfold compL; simp [hv, q1, q2, w1]
      · cases i with
        | zero => cases hd; cases ho; exact q4
        | succ i => exact w4 i d' o hd ho
    · obtain ⟨os, e', w1, w2, w3, w4⟩ := compL_run I R ds _ (fun d hd => k d (by simp [hd])) q4
      refine ⟨some y :: os, e', ?_, w2, by simp [w3], fun i d' o hd ho => ?_⟩
      · unfold compL; simp [hv, q1, q2, q3, w1]
      · cases i with
        | zero => cases hd; cases ho; exact q5
        | succ i => exact w4 i d' o hd ho
/-- .. some of the walked are kept -/
theorem compL_sub {vs : List Nat} {g : TGM} {tt : MT} {te : M} (I : Env → Prop) (f : D → D) : ∀ (ds : List D) (env : Env),
    (∀ d ∈ ds, ∀ e, I e → vsOk e vs = true ∧ ∃ e1 e2, g d (wipeE e vs) = some e1 ∧ ((tt e1 = .ok false e2 ∧ I (restE e e2 vs)) ∨ (tt e1 = .ok true e2 ∧ ∃ e3, te e2 = .ok (f d) e3 ∧ I (restE e e3 vs)))) → I env →
    ∃ (zs : List D) (e' : Env), compL vs g tt te ds env = .ok (zs.map f) e' ∧ I e' ∧ zs.Sublist ds
  | [], env, _, h => ⟨[], env, rfl, h, List.Sublist.slnil⟩
  | d :: ds, env, k, h => by
    obtain ⟨hv, e1, e2, q1, q2⟩ := k d (by simp) env h
    rcases q2 with ⟨q2, q3⟩ | ⟨q2, e3, q3, q4⟩
    · obtain ⟨os, e', w1, w2, w3⟩ := compL_sub I f ds _ (fun d hd => k d (by simp [hd])) q3
      exact ⟨os, e', by unfold compL; simp [hv, q1, q2, w1], w2, w3.cons _⟩
    · obtain ⟨os, e', w1, w2, w3⟩ := compL_sub I f ds _ (fun d hd => k d (by simp [hd])) q4
      exact ⟨d :: os, e', by unfold compL; simp [hv, q1, q2, q3, w1], w2, w3.cons_cons _⟩
/-- .. by a test that is known, from a state that stays -/
theorem compL_det {vs : List Nat} {g : TGM} {tt : MT} {te : M} {env : Env} (p : D → Bool) (f : D → D) (hv : vsOk env vs = true) : ∀ (ds : List D),
    (∀ d ∈ ds, ∃ e1 e2, g d (wipeE env vs) = some e1 ∧ tt e1 = .ok (p d) e2 ∧ (p d = false → restE env e2 vs = env) ∧ (p d = true → ∃ e3, te e2 = .ok (f d) e3 ∧ restE env e3 vs = env)) →
    compL vs g tt te ds env = .ok ((ds.filter p).map f) env
  | [], _ => rfl
  | d :: ds, k => by
    obtain ⟨e1, e2, q1, q2, q3, q4⟩ := k d (by simp)
    have ih := compL_det p f hv ds fun d hd => k d (by simp [hd])
    cases hp : p d with
    | false => unfold compL; rw [hp] at q2; simp [hv, q1, q2, q3 hp, ih, hp]
    | true =>
      obtain ⟨e3, q5, q6⟩ := q4 hp
      unfold compL; rw [hp] at q2; simp [hv, q1, q2, q5, q6, ih, hp]
/-! ### bits -/
theorem bitAnd_nat (a b : Nat) : Builtin.bitAnd (a : Int) (b : Int) = ((a &&& b : Nat) : Int) := by
  unfold Builtin.bitAnd; simp
theorem bitOr_nat (a b : Nat) : Builtin.bitOr (a : Int) (b : Int) = ((a ||| b : Nat) : Int) := by
  unfold Builtin.bitOr Builtin.bitAnd Builtin.bitNot
  have h1 : decide (0 ≤ -(a : Int) - 1) = false := decide_eq_false (by omega)
  have h2 : decide (0 ≤ -(b : Int) - 1) = false := decide_eq_false (by omega)
  have e1 : (-(-(a : Int) - 1) - 1).toNat = a := by omega
  have e2 : (-(-(b : Int) - 1) - 1).toNat = b := by omega
  simp only [h1, h2, e1, e2, Builtin.bitNot]
  omega
theorem bitAndNot_nat (a b : Nat) : Builtin.bitAnd (a : Int) (Builtin.bitNot (b : Int)) = (a : Int) - ((a &&& b : Nat) : Int) := by
  unfold Builtin.bitAnd Builtin.bitNot
  have h1 : decide (0 ≤ (a : Int)) = true := decide_eq_true (by omega)
  have h2 : decide (0 ≤ -(b : Int) - 1) = false := decide_eq_false (by omega)
  have e2 : (-(-(b : Int) - 1) - 1).toNat = b := by omega
  simp only [h1, h2, e2]
  rfl
theorem or_two_pow {x d : Nat} (h : x.testBit d = false) : x + 2 ^ d = x ||| 2 ^ d := by
  apply Nat.eq_of_testBit_eq
  intro i
  have hx : x = 2 ^ (d + 1) * (x / 2 ^ (d + 1)) + x % 2 ^ (d + 1) := (Nat.div_add_mod _ _).symm
  have hr : x % 2 ^ (d + 1) < 2 ^ d := by
    rw [Nat.testBit_eq_decide_div_mod_eq] at h
    have h := of_decide_eq_false h
    have : x % 2 ^ (d + 1) = x % 2 ^ d + 2 ^ d * (x / 2 ^ d % 2) := by rw [Nat.pow_succ, Nat.mod_mul]
    have h3 : x / 2 ^ d % 2 = 0 := by omega
    rw [this, h3, Nat.mul_zero, Nat.add_zero]
    exact Nat.mod_lt _ (Nat.two_pow_pos d)
  have h2 : x % 2 ^ (d + 1) + 2 ^ d < 2 ^ (d + 1) := by
    have hp : 2 ^ (d + 1) = 2 ^ d * 2 := Nat.pow_succ ..
    omega
  have e1 : x + 2 ^ d = 2 ^ (d + 1) * (x / 2 ^ (d + 1)) + (2 ^ d * 1 + x % 2 ^ (d + 1)) := by omega
  have h2' : 2 ^ d * 1 + x % 2 ^ (d + 1) < 2 ^ (d + 1) := by omega
  have hr' : x % 2 ^ (d + 1) < 2 ^ (d + 1) := by omega
  rw [e1, Nat.two_pow_add_eq_or_of_lt h2', Nat.two_pow_add_eq_or_of_lt hr]
  conv => rhs; rw [hx, Nat.two_pow_add_eq_or_of_lt hr']
  simp only [Nat.testBit_or, Nat.mul_one]
  cases (2 ^ (d + 1) * (x / 2 ^ (d + 1))).testBit i <;> cases (2 ^ d).testBit i <;> cases (x % 2 ^ (d + 1)).testBit i <;> rfl
/-- a set of days, as a number -/
def maskN (l : List Nat) : Nat := l.foldl (fun t d => t ||| 2 ^ d) 0
theorem maskF (l : List Nat) (t i : Nat) : (l.foldl (fun t d => t ||| 2 ^ d) t).testBit i = (t.testBit i || decide (i ∈ l)) := by
  induction l generalizing t with
  | nil => simp
  | cons d l ih =>
    rw [List.foldl_cons, ih, Nat.testBit_or, Nat.testBit_two_pow]
    by_cases h : d = i
    · subst h; simp
    · have : i ≠ d := fun z => h z.symm
      simp [h, this]
theorem mask_bit (l : List Nat) (i : Nat) : (maskN l).testBit i = decide (i ∈ l) := by
  unfold maskN; rw [maskF]; simp
theorem mask_eq {a b : List Nat} (h : ∀ i, i ∈ a ↔ i ∈ b) : maskN a = maskN b := by
  apply Nat.eq_of_testBit_eq
  intro i
  rw [mask_bit, mask_bit]
  simp [h i]
theorem sum_mask : ∀ (l : List Nat) (t : Nat), (∀ d ∈ l, t.testBit d = false) → l.Nodup → t + (l.map (2 ^ ·)).sum = l.foldl (fun t d => t ||| 2 ^ d) t
  | [], t, _, _ => by simp
  | d :: l, t, h, hn => by
    rw [List.nodup_cons] at hn
    rw [List.foldl_cons, List.map_cons, List.sum_cons, ← Nat.add_assoc, or_two_pow (h d (by simp)), sum_mask l _ (fun e he => ?_) hn.2]
    rw [Nat.testBit_or, h e (by simp [he]), Nat.testBit_two_pow]
    have : d ≠ e := fun z => hn.1 (z ▸ he)
    simp [this]
theorem mask_sum {l : List Nat} (hn : l.Nodup) : (l.map (2 ^ ·)).sum = maskN l := by
  have := sum_mask l 0 (by simp) hn
  rw [Nat.zero_add] at this
  exact this
theorem mask_lt {l : List Nat} {n : Nat} (h : ∀ d ∈ l, d < n) : maskN l < 2 ^ n := by
  apply Nat.lt_pow_two_of_testBit
  intro i hi
  rw [mask_bit]
  exact decide_eq_false fun z => by have := h i z; omega
theorem sub_mask {a b : Nat} : (a - (a &&& b) = 0) ↔ ∀ i, a.testBit i = true → b.testBit i = true := by
  have hle : a &&& b ≤ a := Nat.and_le_left
  constructor
  · intro h i hi
    have e : a &&& b = a := by omega
    have : (a &&& b).testBit i = true := by rw [e]; exact hi
    rw [Nat.testBit_and] at this
    exact (Bool.and_eq_true_iff.mp this).2
  · intro h
    have : a &&& b = a := by
      apply Nat.eq_of_testBit_eq
      intro i
      rw [Nat.testBit_and]
      cases q : a.testBit i with
      | true => simp [h i q]
      | false => simp
    omega
theorem nodup_sub {a b : List Nat} (h : a.Sublist b) (hb : b.Nodup) : a.Nodup := h.nodup hb
/-- a part of a sorted list is told by its members -/
theorem sub_filter : ∀ {a b : List Nat}, a.Sublist b → b.Nodup → a = b.filter (fun i => decide (i ∈ a))
  | _, _, .slnil, _ => rfl
  | a, _ :: b, .cons x h, hb => by
    rw [List.nodup_cons] at hb
    have hx : ¬ x ∈ a := fun z => hb.1 (h.subset z)
    rw [List.filter_cons_of_neg (by simpa using hx)]
    exact sub_filter h hb.2
  | x :: a, _ :: b, .cons_cons _ h, hb => by
    rw [List.nodup_cons] at hb
    rw [List.filter_cons_of_pos (by simp)]
    congr 1
    conv => lhs; rw [sub_filter h hb.2]
    apply List.filter_congr
    intro i hi
    have : i ≠ x := fun z => hb.1 (z ▸ hi)
    simp [this]
/-! ### kinds -/
theorem kit_NoneType_int : L2.kitB "NoneType" "int" = some false := by decide +kernel
theorem kit_bool_int : L2.kitB "bool" "int" = some true := by decide +kernel
theorem kit_int_int : L2.kitB "int" "int" = some true := by decide +kernel
theorem kit_str_int : L2.kitB "str" "int" = some false := by decide +kernel
theorem kit_tuple_int : L2.kitB "tuple" "int" = some false := by decide +kernel
theorem kit_list_int : L2.kitB "list" "int" = some false := by decide +kernel
@[simp] theorem isi_NoneType_int  : isiTy "int" .non = some false := kit_NoneType_int
@[simp] theorem isi_bool_int {b : Bool} : isiTy "int" (.bl b) = some true := kit_bool_int
@[simp] theorem isi_int_int {i : Int} : isiTy "int" (.int i) = some true := kit_int_int
@[simp] theorem isi_str_int {s : Str} : isiTy "int" (.str s) = some false := kit_str_int
@[simp] theorem isi_tuple_int {ds : List D} : isiTy "int" (.tup ds) = some false := kit_tuple_int
@[simp] theorem isi_list_int {ds : List D} : isiTy "int" (.lst ds) = some false := kit_list_int
@[simp] theorem isi_list_scr_int {ns : List Int} : isiTy "int" (.scr ns) = some false := kit_list_int
theorem kit_NoneType_bool : L2.kitB "NoneType" "bool" = some false := by decide +kernel
theorem kit_bool_bool : L2.kitB "bool" "bool" = some true := by decide +kernel
theorem kit_int_bool : L2.kitB "int" "bool" = some false := by decide +kernel
theorem kit_str_bool : L2.kitB "str" "bool" = some false := by decide +kernel
theorem kit_tuple_bool : L2.kitB "tuple" "bool" = some false := by decide +kernel
theorem kit_list_bool : L2.kitB "list" "bool" = some false := by decide +kernel
@[simp] theorem isi_NoneType_bool  : isiTy "bool" .non = some false := kit_NoneType_bool
@[simp] theorem isi_bool_bool {b : Bool} : isiTy "bool" (.bl b) = some true := kit_bool_bool
@[simp] theorem isi_int_bool {i : Int} : isiTy "bool" (.int i) = some false := kit_int_bool
@[simp] theorem isi_str_bool {s : Str} : isiTy "bool" (.str s) = some false := kit_str_bool
@[simp] theorem isi_tuple_bool {ds : List D} : isiTy "bool" (.tup ds) = some false := kit_tuple_bool
@[simp] theorem isi_list_bool {ds : List D} : isiTy "bool" (.lst ds) = some false := kit_list_bool
@[simp] theorem isi_list_scr_bool {ns : List Int} : isiTy "bool" (.scr ns) = some false := kit_list_bool
theorem kit_NoneType_str : L2.kitB "NoneType" "str" = some false := by decide +kernel
theorem kit_bool_str : L2.kitB "bool" "str" = some false := by decide +kernel
theorem kit_int_str : L2.kitB "int" "str" = some false := by decide +kernel
theorem kit_str_str : L2.kitB "str" "str" = some true := by decide +kernel
theorem kit_tuple_str : L2.kitB "tuple" "str" = some false := by decide +kernel
theorem kit_list_str : L2.kitB "list" "str" = some false := by decide +kernel
@[simp] theorem isi_NoneType_str  : isiTy "str" .non = some false := kit_NoneType_str
@[simp] theorem isi_bool_str {b : Bool} : isiTy "str" (.bl b) = some false := kit_bool_str
@[simp] theorem isi_int_str {i : Int} : isiTy "str" (.int i) = some false := kit_int_str
@[simp] theorem isi_str_str {s : Str} : isiTy "str" (.str s) = some true := kit_str_str
@[simp] theorem isi_tuple_str {ds : List D} : isiTy "str" (.tup ds) = some false := kit_tuple_str
@[simp] theorem isi_list_str {ds : List D} : isiTy "str" (.lst ds) = some false := kit_list_str
@[simp] theorem isi_list_scr_str {ns : List Int} : isiTy "str" (.scr ns) = some false := kit_list_str
theorem kit_NoneType_tuple : L2.kitB "NoneType" "tuple" = some false := by decide +kernel
theorem kit_bool_tuple : L2.kitB "bool" "tuple" = some false := by decide +kernel
theorem kit_int_tuple : L2.kitB "int" "tuple" = some false := by decide +kernel
theorem kit_str_tuple : L2.kitB "str" "tuple" = some false := by decide +kernel
theorem kit_tuple_tuple : L2.kitB "tuple" "tuple" = some true := by decide +kernel
theorem kit_list_tuple : L2.kitB "list" "tuple" = some false := by decide +kernel
@[simp] theorem isi_NoneType_tuple  : isiTy "tuple" .non = some false := kit_NoneType_tuple
@[simp] theorem isi_bool_tuple {b : Bool} : isiTy "tuple" (.bl b) = some false := kit_bool_tuple
@[simp] theorem isi_int_tuple {i : Int} : isiTy "tuple" (.int i) = some false := kit_int_tuple
@[simp] theorem isi_str_tuple {s : Str} : isiTy "tuple" (.str s) = some false := kit_str_tuple
@[simp] theorem isi_tuple_tuple {ds : List D} : isiTy "tuple" (.tup ds) = some true := kit_tuple_tuple
@[simp] theorem isi_list_tuple {ds : List D} : isiTy "tuple" (.lst ds) = some false := kit_list_tuple
@[simp] theorem isi_list_scr_tuple {ns : List Int} : isiTy "tuple" (.scr ns) = some false := kit_list_tuple
theorem kit_NoneType_list : L2.kitB "NoneType" "list" = some false := by decide +kernel
theorem kit_bool_list : L2.kitB "bool" "list" = some false := by decide +kernel
theorem kit_int_list : L2.kitB "int" "list" = some false := by decide +kernel
theorem kit_str_list : L2.kitB "str" "list" = some false := by decide +kernel
theorem kit_tuple_list : L2.kitB "tuple" "list" = some false := by decide +kernel
theorem kit_list_list : L2.kitB "list" "list" = some true := by decide +kernel
@[simp] theorem isi_NoneType_list  : isiTy "list" .non = some false := kit_NoneType_list
@[simp] theorem isi_bool_list {b : Bool} : isiTy "list" (.bl b) = some false := kit_bool_list
@[simp] theorem isi_int_list {i : Int} : isiTy "list" (.int i) = some false := kit_int_list
@[simp] theorem isi_str_list {s : Str} : isiTy "list" (.str s) = some false := kit_str_list
@[simp] theorem isi_tuple_list {ds : List D} : isiTy "list" (.tup ds) = some false := kit_tuple_list
@[simp] theorem isi_list_list {ds : List D} : isiTy "list" (.lst ds) = some true := kit_list_list
@[simp] theorem isi_list_scr_list {ns : List Int} : isiTy "list" (.scr ns) = some true := kit_list_list
/-! ### comprehensions, turn by turn -/
def R.turn (r : R Bool) (te : M) (k : Option D → Env → R (List D)) : R (List D) := match r with
  | .ok true e2 => (match te e2 with
    | .ok y e3 => k (some y) e3
    | _ => .stk)
  | .ok false e2 => k none e2
  | _ => .stk
def turnE (r : R D) (k : Option D → Env → R (List D)) : R (List D) := match r with
  | .ok y e3 => k (some y) e3
  | _ => .stk
section
variable {vs : List Nat} {g : TGM} {tt : MT} {te : M} {d : D} {ds : List D} {e e1 e2 e3 e' : Env} {k : Option D → Env → R (List D)}
@[simp] theorem compL_n : compL vs g tt te [] e = .ok [] e := rfl
@[simp] theorem turn_t : (R.ok true e2).turn te k = turnE (te e2) k := rfl
@[simp] theorem turn_f : (R.ok false e2).turn te k = k none e2 := rfl
@[simp] theorem turnE_ok {y : D} : turnE (.ok y e3) k = k (some y) e3 := rfl
def putO (o : Option D) (r : R (List D)) : R (List D) := match o with | none => r | some y => r.bind fun ys e' => .ok (y :: ys) e'
@[simp] theorem putO_n {r : R (List D)} : putO none r = r := rfl
@[simp] theorem putO_s {y : D} {r : R (List D)} : putO (some y) r = r.bind fun ys e' => .ok (y :: ys) e' := rfl
theorem compL_c : compL vs g tt te (d :: ds) e = if vsOk e vs then (match g d (wipeE e vs) with | none => .stk | some e1 => (tt e1).turn te fun o e2 => putO o (compL vs g tt te ds (restE e e2 vs))) else .stk := by
  show (if vsOk e vs then _ else _) = _
  by_cases h : vsOk e vs = true
  · rw [if_pos h, if_pos h]
    cases g d (wipeE e vs) with
    | none => rfl
    | some e1 =>
      simp only
      cases tt e1 with
      | ok b e2 =>
        cases b with
        | true => cases h2 : te e2 <;> simp [turnE, h2]
        | false => rfl
      | exc _ _ _ => rfl
      | stk => rfl
  · rw [if_neg h, if_neg h]
theorem rest_one {i : Nat} (hl : e'.length = e.length) : restE e e' [i] = e'.set i ((e[i]?).getD none) := by
  apply List.ext_getElem?
  intro j
  unfold restE
  rw [List.getElem?_map, List.getElem?_set]
  by_cases hj : j < e.length
  · rw [List.getElem?_range hj]
    by_cases h : i = j
    · subst h; simp [hl, hj]
    · have h' : ¬ j = i := fun z => h z.symm
      simp [h, h']
      rw [List.getElem?_eq_getElem (by omega)]; rfl
  · rw [List.getElem?_eq_none (by simpa using hj), List.getElem?_eq_none (show e'.length ≤ j by omega)]
    simp
    by_cases h : i = j
    · subst h; simp; omega
    · simp [h]
@[simp] theorem wipe_n : wipeE e [] = e := rfl
@[simp] theorem wipe_c {i : Nat} : wipeE e (i :: vs) = (wipeE e vs).set i none := rfl
@[simp] theorem vsOk_n : vsOk e [] = true := rfl
@[simp] theorem vsOk_c {i : Nat} : vsOk e (i :: vs) = ((match e[i]? with | some (some x) => !x.isOwn | _ => true) && vsOk e vs) := rfl
end
theorem z_le {n : Nat} (h : n ≤ 1000) : n ≤ sizeLine := Nat.le_trans h (by rw [show sizeLine = _ from sizeLine_eq]; decide)
theorem repL_s {i : List D} {k : Int} : repL (.lst i) (.int k) = if -(2 ^ 63) ≤ k ∧ k < 2 ^ 63 ∧ i.length * k.toNat ≤ sizeLine then some (.lst (List.replicate k.toNat i).flatten) else none := rfl
end Ue

set_option linter.all false
set_option Elab.async false
set_option maxRecDepth 100000
set_option maxHeartbeats 4000000
namespace Lw
open PySem PySem.Spec L2 Ue
def top (i : Nat) : Stmt := PySem.Challenge.pw_usualdays_k01_ratios_and_day_sets.main.body.getD i (.Pass ⟨0, 0, 0, 0⟩)
abbrev s_xBadRatio : Stmt := (cBody (top 3)).getD 0 (.Pass ⟨0, 0, 0, 0⟩)
abbrev s_is_whole : Stmt := top 5
abbrev s_ratio : Stmt := top 6
abbrev s_compare_ratios : Stmt := top 7
abbrev s_ratio_sum : Stmt := top 8
abbrev s_ratio_product : Stmt := top 9
abbrev s_days_in : Stmt := top 11
abbrev s_set_of : Stmt := top 12
abbrev s_size : Stmt := top 13
abbrev s_within : Stmt := top 14
abbrev s_law_bag : Stmt := top 16
abbrev s_law_take : Stmt := top 17
abbrev s_law_of : Stmt := top 18
abbrev s_law_number : Stmt := top 19
abbrev s_law_divisor : Stmt := top 20
abbrev s_law_is_ratio : Stmt := top 21
abbrev s_law_refused : Stmt := top 22
abbrev s_law_ratios : Stmt := top 23
abbrev s_law_wholes : Stmt := top 24
abbrev s_law_day_sets : Stmt := top 25
abbrev s_law : Stmt := top 26
theorem scx_BadRatio : FnScope ["self"] ["self"] (defScope s_xBadRatio) := ⟨rfl, rfl, rfl, by decide +kernel, rfl, by decide +kernel, by decide +kernel⟩
abbrev N_is_whole : List Str := ["thing", "low", "high"]
theorem sc_is_whole : FnScope N_is_whole ["thing", "low", "high"] (defScope s_is_whole) := ⟨rfl, rfl, rfl, by decide +kernel, rfl, by decide +kernel, by decide +kernel⟩
abbrev N_ratio : List Str := ["top", "bottom", "divisor"]
theorem sc_ratio : FnScope N_ratio ["top", "bottom"] (defScope s_ratio) := ⟨rfl, rfl, rfl, by decide +kernel, rfl, by decide +kernel, by decide +kernel⟩
abbrev N_compare_ratios : List Str := ["one", "other", "difference"]
theorem sc_compare_ratios : FnScope N_compare_ratios ["one", "other"] (defScope s_compare_ratios) := ⟨rfl, rfl, rfl, by decide +kernel, rfl, by decide +kernel, by decide +kernel⟩
abbrev N_ratio_sum : List Str := ["one", "other"]
theorem sc_ratio_sum : FnScope N_ratio_sum ["one", "other"] (defScope s_ratio_sum) := ⟨rfl, rfl, rfl, by decide +kernel, rfl, by decide +kernel, by decide +kernel⟩
abbrev N_ratio_product : List Str := ["one", "other"]
theorem sc_ratio_product : FnScope N_ratio_product ["one", "other"] (defScope s_ratio_product) := ⟨rfl, rfl, rfl, by decide +kernel, rfl, by decide +kernel, by decide +kernel⟩
abbrev N_days_in : List Str := ["day_set", "found", "day"]
theorem sc_days_in : FnScope N_days_in ["day_set"] (defScope s_days_in) := ⟨rfl, rfl, rfl, by decide +kernel, rfl, by decide +kernel, by decide +kernel⟩
abbrev N_set_of : List Str := ["days", "total", "day"]
theorem sc_set_of : FnScope N_set_of ["days"] (defScope s_set_of) := ⟨rfl, rfl, rfl, by decide +kernel, rfl, by decide +kernel, by decide +kernel⟩
abbrev N_size : List Str := ["day_set"]
theorem sc_size : FnScope N_size ["day_set"] (defScope s_size) := ⟨rfl, rfl, rfl, by decide +kernel, rfl, by decide +kernel, by decide +kernel⟩
abbrev N_within : List Str := ["one", "other"]
theorem sc_within : FnScope N_within ["one", "other"] (defScope s_within) := ⟨rfl, rfl, rfl, by decide +kernel, rfl, by decide +kernel, by decide +kernel⟩
abbrev N_law_bag : List Str := ["_law_script", "_law_at", "_law_cell", "_law_mix", "_law_k", "_law_each"]
theorem sc_law_bag : FnScope N_law_bag ["_law_script", "_law_at"] (defScope s_law_bag) := ⟨rfl, rfl, rfl, by decide +kernel, rfl, by decide +kernel, by decide +kernel⟩
abbrev N_law_take : List Str := ["_law_bag_here", "_law_many", "_law_digit"]
theorem sc_law_take : FnScope N_law_take ["_law_bag_here", "_law_many"] (defScope s_law_take) := ⟨rfl, rfl, rfl, by decide +kernel, rfl, by decide +kernel, by decide +kernel⟩
abbrev N_law_of : List Str := ["_law_bag_here", "_law_some"]
theorem sc_law_of : FnScope N_law_of ["_law_bag_here", "_law_some"] (defScope s_law_of) := ⟨rfl, rfl, rfl, by decide +kernel, rfl, by decide +kernel, by decide +kernel⟩
abbrev N_law_number : List Str := ["_law_bag_here", "_law_far", "_law_number_here"]
theorem sc_law_number : FnScope N_law_number ["_law_bag_here"] (defScope s_law_number) := ⟨rfl, rfl, rfl, by decide +kernel, rfl, by decide +kernel, by decide +kernel⟩
abbrev N_law_divisor : List Str := ["_law_one", "_law_other", "_law_turn"]
theorem sc_law_divisor : FnScope N_law_divisor ["_law_one", "_law_other"] (defScope s_law_divisor) := ⟨rfl, rfl, rfl, by decide +kernel, rfl, by decide +kernel, by decide +kernel⟩
abbrev N_law_is_ratio : List Str := ["_law_told", "_law_top", "_law_bottom", "_law_number_here"]
theorem sc_law_is_ratio : FnScope N_law_is_ratio ["_law_told", "_law_top", "_law_bottom"] (defScope s_law_is_ratio) := ⟨rfl, rfl, rfl, by decide +kernel, rfl, by decide +kernel, by decide +kernel⟩
abbrev N_law_refused : List Str := ["_law_top"]
theorem sc_law_refused : FnScope N_law_refused ["_law_top"] (defScope s_law_refused) := ⟨rfl, rfl, rfl, by decide +kernel, rfl, by decide +kernel, by decide +kernel⟩
abbrev N_law_ratios : List Str := ["_law_bag_here", "_law_top", "_law_far", "_law_bottom", "_law_below", "_law_one", "_law_other", "_law_gap", "_law_due"]
theorem sc_law_ratios : FnScope N_law_ratios ["_law_bag_here"] (defScope s_law_ratios) := ⟨rfl, rfl, rfl, by decide +kernel, rfl, by decide +kernel, by decide +kernel⟩
abbrev N_law_wholes : List Str := ["_law_bag_here", "_law_low", "_law_high", "_law_middle", "_law_told", "_law_others", "_law_one"]
theorem sc_law_wholes : FnScope N_law_wholes ["_law_bag_here"] (defScope s_law_wholes) := ⟨rfl, rfl, rfl, by decide +kernel, rfl, by decide +kernel, by decide +kernel⟩
abbrev N_law_day_sets : List Str := ["_law_bag_here", "_law_days", "_law_others", "_law_mask", "_law_wide", "_law_turned", "_law_kept", "_law_told", "_law_due", "_law_day", "_law_k"]
theorem sc_law_day_sets : FnScope N_law_day_sets ["_law_bag_here"] (defScope s_law_day_sets) := ⟨rfl, rfl, rfl, by decide +kernel, rfl, by decide +kernel, by decide +kernel⟩
abbrev N_law : List Str := ["_law_script", "_law_place", "_law_bag_here", "_law_turn"]
theorem sc_law : FnScope N_law ["_law_script"] (defScope s_law) := ⟨rfl, rfl, rfl, by decide +kernel, rfl, by decide +kernel, by decide +kernel⟩
def caught_BadRatio (c : Nat) : Option Bool := [false, true][c]?
def B_is_whole' : MS := (retM (andV (isiM "int" (varM 0)) (andV (notV (isiM "bool" (varM 0))) (bV (chainM leI leI (varM 1) (varM 0) (varM 2))))))
def F_is_whole : FM := runF false 3 [] B_is_whole'
theorem u_is_whole (as : List EV) : F_is_whole as = runF false 3 [] (retM (andV (isiM "int" (varM 0)) (andV (notV (isiM "bool" (varM 0))) (bV (chainM leI leI (varM 1) (varM 0) (varM 2)))))) as := rfl
def T_ratio_3 : MS := (retM (tupM [(op2M fdivI (varM 0) (varM 2)), (op2M fdivI (varM 1) (varM 2))]))
def T_ratio_2 : MS := (seqM (iffM (cmpM ltI (varM 1) (cM (.int 0))) (setM 2 (op1M negI (varM 2))) nilM) T_ratio_3)
def T_ratio_1 : MS := (seqM (setM 2 (callM (ii gcdI) [(varM 0), (varM 1)])) T_ratio_2)
def B_ratio' : MS := (seqM (iffM (cmpM eqS (varM 1) (cM (.int 0))) (raiseM 1 []) nilM) T_ratio_1)
def F_ratio : FM := runF false 3 [] B_ratio'
theorem u_ratio (as : List EV) : F_ratio as = runF false 3 [] (seqM (iffM (cmpM eqS (varM 1) (cM (.int 0))) (raiseM 1 []) nilM) (seqM (setM 2 (callM (ii gcdI) [(varM 0), (varM 1)])) (seqM (iffM (cmpM ltI (varM 1) (cM (.int 0))) (setM 2 (op1M negI (varM 2))) nilM) (retM (tupM [(op2M fdivI (varM 0) (varM 2)), (op2M fdivI (varM 1) (varM 2))]))))) as := rfl
def T_compare_ratios_2 : MS := (retM (ifM (cmpM gtI (varM 2) (cM (.int 0))) (cM (.int 1)) (cM (.int 0))))
def T_compare_ratios_1 : MS := (seqM (iffM (cmpM ltI (varM 2) (cM (.int 0))) (retM (op1M negI (cM (.int 1)))) nilM) T_compare_ratios_2)
def B_compare_ratios' : MS := (seqM (setM 2 (op2M subI (op2M mulI (op2M ixD (varM 0) (cM (.int 0))) (op2M ixD (varM 1) (cM (.int 1)))) (op2M mulI (op2M ixD (varM 1) (cM (.int 0))) (op2M ixD (varM 0) (cM (.int 1)))))) T_compare_ratios_1)
def F_compare_ratios : FM := runF false 3 [] B_compare_ratios'
theorem u_compare_ratios (as : List EV) : F_compare_ratios as = runF false 3 [] (seqM (setM 2 (op2M subI (op2M mulI (op2M ixD (varM 0) (cM (.int 0))) (op2M ixD (varM 1) (cM (.int 1)))) (op2M mulI (op2M ixD (varM 1) (cM (.int 0))) (op2M ixD (varM 0) (cM (.int 1)))))) (seqM (iffM (cmpM ltI (varM 2) (cM (.int 0))) (retM (op1M negI (cM (.int 1)))) nilM) (retM (ifM (cmpM gtI (varM 2) (cM (.int 0))) (cM (.int 1)) (cM (.int 0)))))) as := rfl
def B_ratio_sum' : MS := (retM (fnM F_ratio [.p (op2M addI (op2M mulI (op2M ixD (varM 0) (cM (.int 0))) (op2M ixD (varM 1) (cM (.int 1)))) (op2M mulI (op2M ixD (varM 1) (cM (.int 0))) (op2M ixD (varM 0) (cM (.int 1))))), .p (op2M mulI (op2M ixD (varM 0) (cM (.int 1))) (op2M ixD (varM 1) (cM (.int 1))))] []))
def F_ratio_sum : FM := runF false 2 [] B_ratio_sum'
theorem u_ratio_sum (as : List EV) : F_ratio_sum as = runF false 2 [] (retM (fnM F_ratio [.p (op2M addI (op2M mulI (op2M ixD (varM 0) (cM (.int 0))) (op2M ixD (varM 1) (cM (.int 1)))) (op2M mulI (op2M ixD (varM 1) (cM (.int 0))) (op2M ixD (varM 0) (cM (.int 1))))), .p (op2M mulI (op2M ixD (varM 0) (cM (.int 1))) (op2M ixD (varM 1) (cM (.int 1))))] [])) as := rfl
def B_ratio_product' : MS := (retM (fnM F_ratio [.p (op2M mulI (op2M ixD (varM 0) (cM (.int 0))) (op2M ixD (varM 1) (cM (.int 0)))), .p (op2M mulI (op2M ixD (varM 0) (cM (.int 1))) (op2M ixD (varM 1) (cM (.int 1))))] []))
def F_ratio_product : FM := runF false 2 [] B_ratio_product'
theorem u_ratio_product (as : List EV) : F_ratio_product as = runF false 2 [] (retM (fnM F_ratio [.p (op2M mulI (op2M ixD (varM 0) (cM (.int 0))) (op2M ixD (varM 1) (cM (.int 0)))), .p (op2M mulI (op2M ixD (varM 0) (cM (.int 1))) (op2M ixD (varM 1) (cM (.int 1))))] [])) as := rfl
def L_days_in_0 : MS := (seqM (iffM (trM (op2M andI (op2M shrI (varM 0) (varM 2)) (cM (.int 1)))) (exprM (mtM 1 appG [(varM 2)])) nilM) (augM 2 addI (cM (.int 1))))
def T_days_in_3 : MS := (retM (callM tupleD [(frzM 1)]))
def T_days_in_2 : MS := (seqM (whileM (trM (op2M shrI (varM 0) (varM 2))) L_days_in_0 40) T_days_in_3)
def T_days_in_1 : MS := (seqM (setM 2 (cM (.int 0))) T_days_in_2)
def B_days_in' : MS := (seqM (setOM 1 (lstM [])) T_days_in_1)
def F_days_in : FM := runF false 3 [] B_days_in'
theorem u_days_in (as : List EV) : F_days_in as = runF false 3 [] (seqM (setOM 1 (lstM [])) (seqM (setM 2 (cM (.int 0))) (seqM (whileM (trM (op2M shrI (varM 0) (varM 2))) L_days_in_0 40) (retM (callM tupleD [(frzM 1)]))))) as := rfl
def L_set_of_0 : MS := (setM 1 (op2M orI (varM 1) (op2M shlI (cM (.int 1)) (varM 2))))
def T_set_of_2 : MS := (retM (varM 1))
def T_set_of_1 : MS := (seqM (forS (asSeq (varM 0)) (tgN 2) L_set_of_0) T_set_of_2)
def B_set_of' : MS := (seqM (setM 1 (cM (.int 0))) T_set_of_1)
def F_set_of : FM := runF false 3 [] B_set_of'
theorem u_set_of (as : List EV) : F_set_of as = runF false 3 [] (seqM (setM 1 (cM (.int 0))) (seqM (forS (asSeq (varM 0)) (tgN 2) L_set_of_0) (retM (varM 1)))) as := rfl
def B_size' : MS := (retM (callM lenD [(fnM F_days_in [.p (varM 0)] [])]))
def F_size : FM := runF false 1 [] B_size'
theorem u_size (as : List EV) : F_size as = runF false 1 [] (retM (callM lenD [(fnM F_days_in [.p (varM 0)] [])])) as := rfl
def B_within' : MS := (retM (bV (cmpM eqS (op2M andI (varM 0) (op1M invI (varM 1))) (cM (.int 0)))))
def F_within : FM := runF false 2 [] B_within'
theorem u_within (as : List EV) : F_within as = runF false 2 [] (retM (bV (cmpM eqS (op2M andI (varM 0) (op1M invI (varM 1))) (cM (.int 0))))) as := rfl
def L_law_bag_0 : MS := (setM 3 (op2M modI (callM intD [(op2M addI (op2M addI (op2M mulI (varM 3) (cM (.int 40014))) (op2M modI (callM intD [(varM 5)]) (cM (.int 2147483543)))) (op2M mulI (cM (.int 101)) (varM 4)))]) (cM (.int 2147483563))))
def T_law_bag_3 : MS := (retM (lstM [(ifM (cmpM geI (varM 2) (op2M powI (cM (.int 10)) (cM (.int 18)))) (varM 2) (cM (.int 0))), (varM 3), (cM (.int 0))]))
def T_law_bag_2 : MS := (seqM (forS (enumM (slLM (varM 0) none (some (cM (.int 63))))) (tgT [(tgN 4), (tgN 5)]) L_law_bag_0) T_law_bag_3)
def T_law_bag_1 : MS := (seqM (setM 3 (op2M addI (cM (.int 70003)) (op2M mulI (cM (.int 6997)) (varM 1)))) T_law_bag_2)
def B_law_bag' : MS := (seqM (setM 2 (ifM (cmpM ltI (varM 1) (callM lenD [(varM 0)])) (callM absD [(callM intD [(op2M ixD (varM 0) (varM 1))])]) (cM (.int 0)))) T_law_bag_1)
def F_law_bag : FM := runF true 6 [] B_law_bag'
theorem u_law_bag (as : List EV) : F_law_bag as = runF true 6 [] (seqM (setM 2 (ifM (cmpM ltI (varM 1) (callM lenD [(varM 0)])) (callM absD [(callM intD [(op2M ixD (varM 0) (varM 1))])]) (cM (.int 0)))) (seqM (setM 3 (op2M addI (cM (.int 70003)) (op2M mulI (cM (.int 6997)) (varM 1)))) (seqM (forS (enumM (slLM (varM 0) none (some (cM (.int 63))))) (tgT [(tgN 4), (tgN 5)]) L_law_bag_0) (retM (lstM [(ifM (cmpM geI (varM 2) (op2M powI (cM (.int 10)) (cM (.int 18)))) (varM 2) (cM (.int 0))), (varM 3), (cM (.int 0))]))))) as := rfl
def T_law_take_3 : MS := (retM (op2M modI (op2M fdivI (op2M modI (callM intD [(op2M mulI (op2M ixD (ovarM 0) (cM (.int 1))) (cM (.int 16807)))]) (cM (.int 2147483629))) (cM (.int 64))) (varM 1)))
def T_law_take_2 : MS := (seqM (setIM 0 (op2M modI (callM intD [(op2M addI (op2M addI (op2M mulI (op2M ixD (ovarM 0) (cM (.int 1))) (cM (.int 48271))) (op2M mulI (cM (.int 11)) (op2M ixD (ovarM 0) (cM (.int 2))))) (cM (.int 7)))]) (cM (.int 2147483647))) (cM (.int 1))) T_law_take_3)
def T_law_take_1 : MS := (seqM (setIM 0 (op2M addI (op2M ixD (ovarM 0) (cM (.int 2))) (cM (.int 1))) (cM (.int 2))) T_law_take_2)
def B_law_take' : MS := (seqM (iffM (cmpM gtI (op2M ixD (ovarM 0) (cM (.int 0))) (cM (.int 0))) (seqM (setM 2 (op2M modI (callM intD [(op2M ixD (ovarM 0) (cM (.int 0)))]) (varM 1))) (seqM (setIM 0 (op2M fdivI (op2M ixD (ovarM 0) (cM (.int 0))) (varM 1)) (cM (.int 0))) (retM (varM 2)))) nilM) T_law_take_1)
def F_law_take : FM := runF false 3 [0] B_law_take'
theorem u_law_take (as : List EV) : F_law_take as = runF false 3 [0] (seqM (iffM (cmpM gtI (op2M ixD (ovarM 0) (cM (.int 0))) (cM (.int 0))) (seqM (setM 2 (op2M modI (callM intD [(op2M ixD (ovarM 0) (cM (.int 0)))]) (varM 1))) (seqM (setIM 0 (op2M fdivI (op2M ixD (ovarM 0) (cM (.int 0))) (varM 1)) (cM (.int 0))) (retM (varM 2)))) nilM) (seqM (setIM 0 (op2M addI (op2M ixD (ovarM 0) (cM (.int 2))) (cM (.int 1))) (cM (.int 2))) (seqM (setIM 0 (op2M modI (callM intD [(op2M addI (op2M addI (op2M mulI (op2M ixD (ovarM 0) (cM (.int 1))) (cM (.int 48271))) (op2M mulI (cM (.int 11)) (op2M ixD (ovarM 0) (cM (.int 2))))) (cM (.int 7)))]) (cM (.int 2147483647))) (cM (.int 1))) (retM (op2M modI (op2M fdivI (op2M modI (callM intD [(op2M mulI (op2M ixD (ovarM 0) (cM (.int 1))) (cM (.int 16807)))]) (cM (.int 2147483629))) (cM (.int 64))) (varM 1)))))) as := rfl
def B_law_of' : MS := (retM (op2M ixD (varM 1) (fnM F_law_take [.o 0, .p (callM lenD [(varM 1)])] [])))
def F_law_of : FM := runF false 2 [0] B_law_of'
theorem u_law_of (as : List EV) : F_law_of as = runF false 2 [0] (retM (op2M ixD (varM 1) (fnM F_law_take [.o 0, .p (callM lenD [(varM 1)])] []))) as := rfl
def T_law_number_2 : MS := (retM (op2M mulI (varM 2) (fnM F_law_of [.o 0, .p (lstM [(cM (.int 1)), (cM (.int 1)), (cM (.int 1)), (cM (.int 6))])] [])))
def T_law_number_1 : MS := (seqM (setM 2 (op2M subI (fnM F_law_take [.o 0, .p (op2M addI (op2M mulI (cM (.int 2)) (varM 1)) (cM (.int 1)))] []) (varM 1))) T_law_number_2)
def B_law_number' : MS := (seqM (setM 1 (fnM F_law_of [.o 0, .p (lstM [(cM (.int 2)), (cM (.int 6)), (cM (.int 6)), (cM (.int 60)), (op2M powI (cM (.int 10)) (cM (.int 9))), (op2M powI (cM (.int 10)) (cM (.int 30))), (op2M powI (cM (.int 10)) (cM (.int 60)))])] [])) T_law_number_1)
def F_law_number : FM := runF false 3 [0] B_law_number'
theorem u_law_number (as : List EV) : F_law_number as = runF false 3 [0] (seqM (setM 1 (fnM F_law_of [.o 0, .p (lstM [(cM (.int 2)), (cM (.int 6)), (cM (.int 6)), (cM (.int 60)), (op2M powI (cM (.int 10)) (cM (.int 9))), (op2M powI (cM (.int 10)) (cM (.int 30))), (op2M powI (cM (.int 10)) (cM (.int 60)))])] [])) (seqM (setM 2 (op2M subI (fnM F_law_take [.o 0, .p (op2M addI (op2M mulI (cM (.int 2)) (varM 1)) (cM (.int 1)))] []) (varM 1))) (retM (op2M mulI (varM 2) (fnM F_law_of [.o 0, .p (lstM [(cM (.int 1)), (cM (.int 1)), (cM (.int 1)), (cM (.int 6))])] []))))) as := rfl
def L_law_divisor_0 : MS := (seqM (iffM (cmpM eqS (varM 1) (cM (.int 0))) (retM (varM 0)) nilM) (parM 0 1 (varM 1) (op2M modI (callM intD [(varM 0)]) (varM 1))))
def T_law_divisor_2 : MS := (retM (varM 0))
def T_law_divisor_1 : MS := (seqM (forS (rng1M (cM (.int 2000))) (tgN 2) L_law_divisor_0) T_law_divisor_2)
def B_law_divisor' : MS := (seqM (parM 0 1 (callM absD [(varM 0)]) (callM absD [(varM 1)])) T_law_divisor_1)
def F_law_divisor : FM := runF false 3 [] B_law_divisor'
theorem u_law_divisor (as : List EV) : F_law_divisor as = runF false 3 [] (seqM (parM 0 1 (callM absD [(varM 0)]) (callM absD [(varM 1)])) (seqM (forS (rng1M (cM (.int 2000))) (tgN 2) L_law_divisor_0) (retM (varM 0)))) as := rfl
def L_law_is_ratio_0 : MS := (iffM (orT (notT (trM (isiM "int" (varM 3)))) (trM (isiM "bool" (varM 3)))) (retM (cM (.bl false))) nilM)
def T_law_is_ratio_3 : MS := (retM (bV (cmpM eqS (fnM F_law_divisor [.p (op2M ixD (varM 0) (cM (.int 0))), .p (op2M ixD (varM 0) (cM (.int 1)))] []) (cM (.int 1)))))
def T_law_is_ratio_2 : MS := (seqM (iffM (orT (cmpM ltI (op2M ixD (varM 0) (cM (.int 1))) (cM (.int 1))) (cmpM neS (op2M mulI (op2M ixD (varM 0) (cM (.int 0))) (varM 2)) (op2M mulI (op2M ixD (varM 0) (cM (.int 1))) (varM 1)))) (retM (cM (.bl false))) nilM) T_law_is_ratio_3)
def T_law_is_ratio_1 : MS := (seqM (forS (asT (varM 0)) (tgN 3) L_law_is_ratio_0) T_law_is_ratio_2)
def B_law_is_ratio' : MS := (seqM (iffM (orT (notT (trM (isiM "tuple" (varM 0)))) (cmpM neS (callM lenD [(varM 0)]) (cM (.int 2)))) (retM (cM (.bl false))) nilM) T_law_is_ratio_1)
def F_law_is_ratio : FM := runF false 4 [] B_law_is_ratio'
theorem u_law_is_ratio (as : List EV) : F_law_is_ratio as = runF false 4 [] (seqM (iffM (orT (notT (trM (isiM "tuple" (varM 0)))) (cmpM neS (callM lenD [(varM 0)]) (cM (.int 2)))) (retM (cM (.bl false))) nilM) (seqM (forS (asT (varM 0)) (tgN 3) L_law_is_ratio_0) (seqM (iffM (orT (cmpM ltI (op2M ixD (varM 0) (cM (.int 1))) (cM (.int 1))) (cmpM neS (op2M mulI (op2M ixD (varM 0) (cM (.int 0))) (varM 2)) (op2M mulI (op2M ixD (varM 0) (cM (.int 1))) (varM 1)))) (retM (cM (.bl false))) nilM) (retM (bV (cmpM eqS (fnM F_law_divisor [.p (op2M ixD (varM 0) (cM (.int 0))), .p (op2M ixD (varM 0) (cM (.int 1)))] []) (cM (.int 1)))))))) as := rfl
def B_law_refused' : MS := (seqM (tryM (exprM (fnM F_ratio [.p (varM 0), .p (cM (.int 0))] [])) caught_BadRatio (retM (cM (.bl true)))) (retM (cM (.bl false))))
def F_law_refused : FM := runF false 1 [] B_law_refused'
theorem u_law_refused (as : List EV) : F_law_refused as = runF false 1 [] (seqM (tryM (exprM (fnM F_ratio [.p (varM 0), .p (cM (.int 0))] [])) caught_BadRatio (retM (cM (.bl true)))) (retM (cM (.bl false)))) as := rfl
def T_law_ratios_13 : MS := (retM (andV (bV (cmpM eqS (fnM F_compare_ratios [.p (varM 5), .p (varM 6)] []) (varM 8))) (andV (bV (cmpM eqS (fnM F_compare_ratios [.p (varM 6), .p (varM 5)] []) (op1M negI (varM 8)))) (bV (cmpM eqS (fnM F_compare_ratios [.p (varM 5), .p (varM 5)] []) (cM (.int 0)))))))
def T_law_ratios_12 : MS := (seqM (setM 8 (ifM (cmpM eqS (varM 7) (cM (.int 0))) (cM (.int 0)) (ifM (cmpM gtI (varM 7) (cM (.int 0))) (cM (.int 1)) (op1M negI (cM (.int 1)))))) T_law_ratios_13)
def T_law_ratios_11 : MS := (seqM (setM 7 (op2M mulI (op2M subI (op2M mulI (varM 1) (varM 4)) (op2M mulI (varM 2) (varM 3))) (ifM (cmpM gtI (op2M mulI (varM 3) (varM 4)) (cM (.int 0))) (cM (.int 1)) (op1M negI (cM (.int 1)))))) T_law_ratios_12)
def T_law_ratios_10 : MS := (seqM (iffM (notT (trM (fnM F_law_is_ratio [.p (fnM F_ratio_product [.p (varM 5), .p (varM 6)] []), .p (op2M mulI (varM 1) (varM 2)), .p (op2M mulI (varM 3) (varM 4))] []))) (retM (cM (.bl false))) nilM) T_law_ratios_11)
def T_law_ratios_9 : MS := (seqM (iffM (notT (trM (fnM F_law_is_ratio [.p (fnM F_ratio_sum [.p (varM 5), .p (varM 6)] []), .p (op2M addI (op2M mulI (varM 1) (varM 4)) (op2M mulI (varM 2) (varM 3))), .p (op2M mulI (varM 3) (varM 4))] []))) (retM (cM (.bl false))) nilM) T_law_ratios_10)
def T_law_ratios_8 : MS := (seqM (iffM (orT (notT (trM (fnM F_law_refused [.p (varM 1)] []))) (cmpM neD (fnM F_ratio [.p (cM (.int 0)), .p (varM 3)] []) (tupM [(cM (.int 0)), (cM (.int 1))]))) (retM (cM (.bl false))) nilM) T_law_ratios_9)
def T_law_ratios_7 : MS := (seqM (iffM (orT (notT (trM (fnM F_law_is_ratio [.p (varM 5), .p (varM 1), .p (varM 3)] []))) (notT (trM (fnM F_law_is_ratio [.p (varM 6), .p (varM 2), .p (varM 4)] [])))) (retM (cM (.bl false))) nilM) T_law_ratios_8)
def T_law_ratios_6 : MS := (seqM (parM 5 6 (fnM F_ratio [.p (varM 1), .p (varM 3)] []) (fnM F_ratio [.p (varM 2), .p (varM 4)] [])) T_law_ratios_7)
def T_law_ratios_5 : MS := (seqM (iffM (cmpM eqS (fnM F_law_take [.o 0, .p (cM (.int 4))] []) (cM (.int 0))) (parM 2 4 (op2M mulI (varM 1) (cM (.int 3))) (op2M mulI (varM 3) (cM (.int 3)))) nilM) T_law_ratios_6)
def T_law_ratios_4 : MS := (seqM (setM 4 (ifM (cmpM neS (varM 4) (cM (.int 0))) (varM 4) (op1M negI (cM (.int 1))))) T_law_ratios_5)
def T_law_ratios_3 : MS := (seqM (setM 3 (ifM (cmpM neS (varM 3) (cM (.int 0))) (varM 3) (cM (.int 1)))) T_law_ratios_4)
def T_law_ratios_2 : MS := (seqM (setM 4 (fnM F_law_number [.o 0] [])) T_law_ratios_3)
def T_law_ratios_1 : MS := (seqM (setM 3 (fnM F_law_number [.o 0] [])) T_law_ratios_2)
def B_law_ratios' : MS := (seqM (parM 1 2 (fnM F_law_number [.o 0] []) (fnM F_law_number [.o 0] [])) T_law_ratios_1)
def F_law_ratios : FM := runF false 9 [0] B_law_ratios'
theorem u_law_ratios (as : List EV) : F_law_ratios as = runF false 9 [0] (seqM (parM 1 2 (fnM F_law_number [.o 0] []) (fnM F_law_number [.o 0] [])) (seqM (setM 3 (fnM F_law_number [.o 0] [])) (seqM (setM 4 (fnM F_law_number [.o 0] [])) (seqM (setM 3 (ifM (cmpM neS (varM 3) (cM (.int 0))) (varM 3) (cM (.int 1)))) (seqM (setM 4 (ifM (cmpM neS (varM 4) (cM (.int 0))) (varM 4) (op1M negI (cM (.int 1))))) (seqM (iffM (cmpM eqS (fnM F_law_take [.o 0, .p (cM (.int 4))] []) (cM (.int 0))) (parM 2 4 (op2M mulI (varM 1) (cM (.int 3))) (op2M mulI (varM 3) (cM (.int 3)))) nilM) (seqM (parM 5 6 (fnM F_ratio [.p (varM 1), .p (varM 3)] []) (fnM F_ratio [.p (varM 2), .p (varM 4)] [])) (seqM (iffM (orT (notT (trM (fnM F_law_is_ratio [.p (varM 5), .p (varM 1), .p (varM 3)] []))) (notT (trM (fnM F_law_is_ratio [.p (varM 6), .p (varM 2), .p (varM 4)] [])))) (retM (cM (.bl false))) nilM) (seqM (iffM (orT (notT (trM (fnM F_law_refused [.p (varM 1)] []))) (cmpM neD (fnM F_ratio [.p (cM (.int 0)), .p (varM 3)] []) (tupM [(cM (.int 0)), (cM (.int 1))]))) (retM (cM (.bl false))) nilM) (seqM (iffM (notT (trM (fnM F_law_is_ratio [.p (fnM F_ratio_sum [.p (varM 5), .p (varM 6)] []), .p (op2M addI (op2M mulI (varM 1) (varM 4)) (op2M mulI (varM 2) (varM 3))), .p (op2M mulI (varM 3) (varM 4))] []))) (retM (cM (.bl false))) nilM) (seqM (iffM (notT (trM (fnM F_law_is_ratio [.p (fnM F_ratio_product [.p (varM 5), .p (varM 6)] []), .p (op2M mulI (varM 1) (varM 2)), .p (op2M mulI (varM 3) (varM 4))] []))) (retM (cM (.bl false))) nilM) (seqM (setM 7 (op2M mulI (op2M subI (op2M mulI (varM 1) (varM 4)) (op2M mulI (varM 2) (varM 3))) (ifM (cmpM gtI (op2M mulI (varM 3) (varM 4)) (cM (.int 0))) (cM (.int 1)) (op1M negI (cM (.int 1)))))) (seqM (setM 8 (ifM (cmpM eqS (varM 7) (cM (.int 0))) (cM (.int 0)) (ifM (cmpM gtI (varM 7) (cM (.int 0))) (cM (.int 1)) (op1M negI (cM (.int 1)))))) (retM (andV (bV (cmpM eqS (fnM F_compare_ratios [.p (varM 5), .p (varM 6)] []) (varM 8))) (andV (bV (cmpM eqS (fnM F_compare_ratios [.p (varM 6), .p (varM 5)] []) (op1M negI (varM 8)))) (bV (cmpM eqS (fnM F_compare_ratios [.p (varM 5), .p (varM 5)] []) (cM (.int 0)))))))))))))))))))) as := rfl
def T_law_wholes_7 : MS := (retM (andV (bV (cmpM eqD (varM 4) (op2M repL (lstM [(cM (.bl false))]) (cM (.int 7))))) (andV (bV (cmpM isB (fnM F_is_whole [.p (cM (.int 1)), .p (op1M negI (cM (.int 1))), .p (cM (.int 1))] []) (cM (.bl true)))) (bV (cmpM isB (fnM F_is_whole [.p (cM (.int 0)), .p (cM (.int 0)), .p (cM (.int 0))] []) (cM (.bl true)))))))
def T_law_wholes_6 : MS := (seqM (setM 4 (compM [6] (asL (varM 5)) (tgN 6) yesT (fnM F_is_whole [.p (varM 6), .p (op1M negI (cM (.int 1))), .p (cM (.int 1))] []))) T_law_wholes_7)
def T_law_wholes_5 : MS := (seqM (setM 5 (lstM [(cM .non), (cM (.str "1")), (tupM [(cM (.int 1))]), (lstM [(cM (.int 1))]), (cM (.str "")), (cM (.bl true)), (cM (.bl false))])) T_law_wholes_6)
def T_law_wholes_4 : MS := (seqM (iffM (cmpM neD (varM 4) (lstM [(cM (.bl true)), (cM (.bl true)), (cM (.bl true)), (cM (.bl false)), (cM (.bl false))])) (retM (cM (.bl false))) nilM) T_law_wholes_5)
def T_law_wholes_3 : MS := (seqM (setM 4 (compM [6] (asL (lstM [(varM 1), (varM 2), (varM 3), (op2M subI (varM 1) (cM (.int 1))), (op2M addI (varM 2) (cM (.int 1)))])) (tgN 6) yesT (fnM F_is_whole [.p (varM 6), .p (varM 1), .p (varM 2)] []))) T_law_wholes_4)
def T_law_wholes_2 : MS := (seqM (setM 3 (op2M addI (varM 1) (fnM F_law_take [.o 0, .p (op2M addI (op2M subI (varM 2) (varM 1)) (cM (.int 1)))] []))) T_law_wholes_3)
def T_law_wholes_1 : MS := (seqM (setM 2 (op2M addI (varM 1) (fnM F_law_of [.o 0, .p (lstM [(cM (.int 0)), (cM (.int 1)), (cM (.int 5)), (op2M powI (cM (.int 10)) (cM (.int 30)))])] []))) T_law_wholes_2)
def B_law_wholes' : MS := (seqM (setM 1 (fnM F_law_number [.o 0] [])) T_law_wholes_1)
def F_law_wholes : FM := runF false 7 [0] B_law_wholes'
theorem u_law_wholes (as : List EV) : F_law_wholes as = runF false 7 [0] (seqM (setM 1 (fnM F_law_number [.o 0] [])) (seqM (setM 2 (op2M addI (varM 1) (fnM F_law_of [.o 0, .p (lstM [(cM (.int 0)), (cM (.int 1)), (cM (.int 5)), (op2M powI (cM (.int 10)) (cM (.int 30)))])] []))) (seqM (setM 3 (op2M addI (varM 1) (fnM F_law_take [.o 0, .p (op2M addI (op2M subI (varM 2) (varM 1)) (cM (.int 1)))] []))) (seqM (setM 4 (compM [6] (asL (lstM [(varM 1), (varM 2), (varM 3), (op2M subI (varM 1) (cM (.int 1))), (op2M addI (varM 2) (cM (.int 1)))])) (tgN 6) yesT (fnM F_is_whole [.p (varM 6), .p (varM 1), .p (varM 2)] []))) (seqM (iffM (cmpM neD (varM 4) (lstM [(cM (.bl true)), (cM (.bl true)), (cM (.bl true)), (cM (.bl false)), (cM (.bl false))])) (retM (cM (.bl false))) nilM) (seqM (setM 5 (lstM [(cM .non), (cM (.str "1")), (tupM [(cM (.int 1))]), (lstM [(cM (.int 1))]), (cM (.str "")), (cM (.bl true)), (cM (.bl false))])) (seqM (setM 4 (compM [6] (asL (varM 5)) (tgN 6) yesT (fnM F_is_whole [.p (varM 6), .p (op1M negI (cM (.int 1))), .p (cM (.int 1))] []))) (retM (andV (bV (cmpM eqD (varM 4) (op2M repL (lstM [(cM (.bl false))]) (cM (.int 7))))) (andV (bV (cmpM isB (fnM F_is_whole [.p (cM (.int 1)), .p (op1M negI (cM (.int 1))), .p (cM (.int 1))] []) (cM (.bl true)))) (bV (cmpM isB (fnM F_is_whole [.p (cM (.int 0)), .p (cM (.int 0)), .p (cM (.int 0))] []) (cM (.bl true)))))))))))))) as := rfl
def T_law_day_sets_13 : MS := (retM (bV (cmpM eqS (fnM F_within [.p (varM 4), .p (varM 3)] []) (bV (cmpM eqD (compM [9] (asL (varM 2)) (tgN 9) (cmpM notInD (varM 9) (varM 1)) (varM 9)) (lstM []))))))
def T_law_day_sets_12 : MS := (seqM (iffM (orT (cmpM neS (fnM F_within [.p (varM 3), .p (varM 4)] []) (varM 8)) (orT (cmpM notB (fnM F_within [.p (varM 3), .p (varM 3)] []) (cM (.bl true))) (cmpM notB (fnM F_within [.p (cM (.int 0)), .p (varM 4)] []) (cM (.bl true))))) (retM (cM (.bl false))) nilM) T_law_day_sets_13)
def T_law_day_sets_11 : MS := (seqM (setM 8 (bV (cmpM eqD (compM [9] (asL (varM 1)) (tgN 9) (cmpM notInD (varM 9) (varM 2)) (varM 9)) (lstM [])))) T_law_day_sets_12)
def T_law_day_sets_10 : MS := (seqM (iffM (orT (cmpM neS (fnM F_size [.p (varM 3)] []) (callM lenD [(varM 1)])) (cmpM neS (fnM F_size [.p (varM 4)] []) (callM lenD [(varM 2)]))) (retM (cM (.bl false))) nilM) T_law_day_sets_11)
def T_law_day_sets_9 : MS := (seqM (iffM (orT (cmpM neS (fnM F_set_of [.p (varM 5)] []) (varM 3)) (orT (cmpM neS (fnM F_set_of [.p (callM tupleD [(varM 1)])] []) (varM 3)) (orT (cmpM neS (fnM F_set_of [.p (lstM [])] []) (cM (.int 0))) (cmpM neD (varM 5) (varM 6))))) (retM (cM (.bl false))) nilM) T_law_day_sets_10)
def T_law_day_sets_8 : MS := (seqM (iffM (orT (notT (trM (isiM "tuple" (varM 7)))) (orT (cmpM neD (callM listD [(varM 7)]) (varM 1)) (cmpM neD (fnM F_days_in [.p (cM (.int 0))] []) (tupM [])))) (retM (cM (.bl false))) nilM) T_law_day_sets_9)
def T_law_day_sets_7 : MS := (seqM (setM 7 (fnM F_days_in [.p (varM 3)] [])) T_law_day_sets_8)
def T_law_day_sets_6 : MS := (seqM (setM 6 (callM listD [(varM 5)])) T_law_day_sets_7)
def T_law_day_sets_5 : MS := (seqM (setM 5 (op2M catL (compM [10] (rng1M (callM lenD [(varM 1)])) (tgN 10) yesT (op2M ixD (varM 1) (op2M subI (op2M subI (callM lenD [(varM 1)]) (cM (.int 1))) (varM 10)))) (slLM (varM 1) none (some (cM (.int 1)))))) T_law_day_sets_6)
def T_law_day_sets_4 : MS := (seqM (setM 4 (callM sumD [(compM [9] (asL (varM 2)) (tgN 9) yesT (op2M shlI (cM (.int 1)) (varM 9)))])) T_law_day_sets_5)
def T_law_day_sets_3 : MS := (seqM (setM 3 (callM sumD [(compM [9] (asL (varM 1)) (tgN 9) yesT (op2M shlI (cM (.int 1)) (varM 9)))])) T_law_day_sets_4)
def T_law_day_sets_2 : MS := (seqM (iffM (cmpM eqS (fnM F_law_take [.o 0, .p (cM (.int 2))] []) (cM (.int 0))) (setM 2 (op2M catL (varM 2) (compM [9] (asL (varM 1)) (tgN 9) (cmpM notInD (varM 9) (varM 2)) (varM 9)))) nilM) T_law_day_sets_3)
def T_law_day_sets_1 : MS := (seqM (setM 2 (compM [9] (rng1M (cM (.int 16))) (tgN 9) (cmpM gtI (fnM F_law_take [.o 0, .p (cM (.int 3))] []) (cM (.int 0))) (varM 9))) T_law_day_sets_2)
def B_law_day_sets' : MS := (seqM (setM 1 (compM [9] (rng1M (fnM F_law_of [.o 0, .p (lstM [(cM (.int 2)), (cM (.int 4)), (cM (.int 8)), (cM (.int 16))])] [])) (tgN 9) (cmpM eqS (fnM F_law_take [.o 0, .p (cM (.int 2))] []) (cM (.int 0))) (varM 9))) T_law_day_sets_1)
def F_law_day_sets : FM := runF false 11 [0] B_law_day_sets'
theorem u_law_day_sets (as : List EV) : F_law_day_sets as = runF false 11 [0] (seqM (setM 1 (compM [9] (rng1M (fnM F_law_of [.o 0, .p (lstM [(cM (.int 2)), (cM (.int 4)), (cM (.int 8)), (cM (.int 16))])] [])) (tgN 9) (cmpM eqS (fnM F_law_take [.o 0, .p (cM (.int 2))] []) (cM (.int 0))) (varM 9))) (seqM (setM 2 (compM [9] (rng1M (cM (.int 16))) (tgN 9) (cmpM gtI (fnM F_law_take [.o 0, .p (cM (.int 3))] []) (cM (.int 0))) (varM 9))) (seqM (iffM (cmpM eqS (fnM F_law_take [.o 0, .p (cM (.int 2))] []) (cM (.int 0))) (setM 2 (op2M catL (varM 2) (compM [9] (asL (varM 1)) (tgN 9) (cmpM notInD (varM 9) (varM 2)) (varM 9)))) nilM) (seqM (setM 3 (callM sumD [(compM [9] (asL (varM 1)) (tgN 9) yesT (op2M shlI (cM (.int 1)) (varM 9)))])) (seqM (setM 4 (callM sumD [(compM [9] (asL (varM 2)) (tgN 9) yesT (op2M shlI (cM (.int 1)) (varM 9)))])) (seqM (setM 5 (op2M catL (compM [10] (rng1M (callM lenD [(varM 1)])) (tgN 10) yesT (op2M ixD (varM 1) (op2M subI (op2M subI (callM lenD [(varM 1)]) (cM (.int 1))) (varM 10)))) (slLM (varM 1) none (some (cM (.int 1)))))) (seqM (setM 6 (callM listD [(varM 5)])) (seqM (setM 7 (fnM F_days_in [.p (varM 3)] [])) (seqM (iffM (orT (notT (trM (isiM "tuple" (varM 7)))) (orT (cmpM neD (callM listD [(varM 7)]) (varM 1)) (cmpM neD (fnM F_days_in [.p (cM (.int 0))] []) (tupM [])))) (retM (cM (.bl false))) nilM) (seqM (iffM (orT (cmpM neS (fnM F_set_of [.p (varM 5)] []) (varM 3)) (orT (cmpM neS (fnM F_set_of [.p (callM tupleD [(varM 1)])] []) (varM 3)) (orT (cmpM neS (fnM F_set_of [.p (lstM [])] []) (cM (.int 0))) (cmpM neD (varM 5) (varM 6))))) (retM (cM (.bl false))) nilM) (seqM (iffM (orT (cmpM neS (fnM F_size [.p (varM 3)] []) (callM lenD [(varM 1)])) (cmpM neS (fnM F_size [.p (varM 4)] []) (callM lenD [(varM 2)]))) (retM (cM (.bl false))) nilM) (seqM (setM 8 (bV (cmpM eqD (compM [9] (asL (varM 1)) (tgN 9) (cmpM notInD (varM 9) (varM 2)) (varM 9)) (lstM [])))) (seqM (iffM (orT (cmpM neS (fnM F_within [.p (varM 3), .p (varM 4)] []) (varM 8)) (orT (cmpM notB (fnM F_within [.p (varM 3), .p (varM 3)] []) (cM (.bl true))) (cmpM notB (fnM F_within [.p (cM (.int 0)), .p (varM 4)] []) (cM (.bl true))))) (retM (cM (.bl false))) nilM) (retM (bV (cmpM eqS (fnM F_within [.p (varM 4), .p (varM 3)] []) (bV (cmpM eqD (compM [9] (asL (varM 2)) (tgN 9) (cmpM notInD (varM 9) (varM 1)) (varM 9)) (lstM []))))))))))))))))))) as := rfl
def L_law_0 : MS := (iffM (orT (notT (trM (fnM F_law_ratios [.o 2] []))) (orT (notT (trM (fnM F_law_wholes [.o 2] []))) (notT (trM (fnM F_law_day_sets [.o 2] []))))) (retM (cM (.bl false))) nilM)
def L_law_1 : MS := (seqM (setOM 2 (fnM F_law_bag [.p (varM 0), .p (varM 1)] [])) (forS (rng1M (cM (.int 3))) (tgN 3) L_law_0))
def B_law' : MS := (seqM (forS (rng1M (callM max2D [(cM (.int 1)), (callM min2D [(cM (.int 4)), (callM lenD [(varM 0)])])])) (tgN 1) L_law_1) (retM (cM (.bl true))))
def F_law : FM := runF false 4 [] B_law'
theorem u_law (as : List EV) : F_law as = runF false 4 [] (seqM (forS (rng1M (callM max2D [(cM (.int 1)), (callM min2D [(cM (.int 4)), (callM lenD [(varM 0)])])])) (tgN 1) L_law_1) (retM (cM (.bl true)))) as := rfl
def d_ : List He.DefD := []
def dx_BadRatio : He.DefD := ⟨("BadRatio", some "__init__"), "__init__", "BadRatio.__init__", defArgs s_xBadRatio, defBody s_xBadRatio, defScope s_xBadRatio, [], []⟩
def d_is_whole : He.DefD := ⟨("is_whole", none), "is_whole", "is_whole", defArgs s_is_whole, defBody s_is_whole, defScope s_is_whole, [], []⟩
def d_ratio : He.DefD := ⟨("ratio", none), "ratio", "ratio", defArgs s_ratio, defBody s_ratio, defScope s_ratio, [], []⟩
def d_compare_ratios : He.DefD := ⟨("compare_ratios", none), "compare_ratios", "compare_ratios", defArgs s_compare_ratios, defBody s_compare_ratios, defScope s_compare_ratios, [], []⟩
def d_ratio_sum : He.DefD := ⟨("ratio_sum", none), "ratio_sum", "ratio_sum", defArgs s_ratio_sum, defBody s_ratio_sum, defScope s_ratio_sum, [], []⟩
def d_ratio_product : He.DefD := ⟨("ratio_product", none), "ratio_product", "ratio_product", defArgs s_ratio_product, defBody s_ratio_product, defScope s_ratio_product, [], []⟩
def d_days_in : He.DefD := ⟨("days_in", none), "days_in", "days_in", defArgs s_days_in, defBody s_days_in, defScope s_days_in, [], []⟩
def d_set_of : He.DefD := ⟨("set_of", none), "set_of", "set_of", defArgs s_set_of, defBody s_set_of, defScope s_set_of, [], []⟩
def d_size : He.DefD := ⟨("size", none), "size", "size", defArgs s_size, defBody s_size, defScope s_size, [], []⟩
def d_within : He.DefD := ⟨("within", none), "within", "within", defArgs s_within, defBody s_within, defScope s_within, [], []⟩
def d_law_bag : He.DefD := ⟨("_law_bag", none), "_law_bag", "_law_bag", defArgs s_law_bag, defBody s_law_bag, defScope s_law_bag, [], []⟩
def d_law_take : He.DefD := ⟨("_law_take", none), "_law_take", "_law_take", defArgs s_law_take, defBody s_law_take, defScope s_law_take, [], []⟩
def d_law_of : He.DefD := ⟨("_law_of", none), "_law_of", "_law_of", defArgs s_law_of, defBody s_law_of, defScope s_law_of, [], []⟩
def d_law_number : He.DefD := ⟨("_law_number", none), "_law_number", "_law_number", defArgs s_law_number, defBody s_law_number, defScope s_law_number, [], []⟩
def d_law_divisor : He.DefD := ⟨("_law_divisor", none), "_law_divisor", "_law_divisor", defArgs s_law_divisor, defBody s_law_divisor, defScope s_law_divisor, [], []⟩
def d_law_is_ratio : He.DefD := ⟨("_law_is_ratio", none), "_law_is_ratio", "_law_is_ratio", defArgs s_law_is_ratio, defBody s_law_is_ratio, defScope s_law_is_ratio, [], []⟩
def d_law_refused : He.DefD := ⟨("_law_refused", none), "_law_refused", "_law_refused", defArgs s_law_refused, defBody s_law_refused, defScope s_law_refused, [], []⟩
def d_law_ratios : He.DefD := ⟨("_law_ratios", none), "_law_ratios", "_law_ratios", defArgs s_law_ratios, defBody s_law_ratios, defScope s_law_ratios, [], []⟩
def d_law_wholes : He.DefD := ⟨("_law_wholes", none), "_law_wholes", "_law_wholes", defArgs s_law_wholes, defBody s_law_wholes, defScope s_law_wholes, [], []⟩
def d_law_day_sets : He.DefD := ⟨("_law_day_sets", none), "_law_day_sets", "_law_day_sets", defArgs s_law_day_sets, defBody s_law_day_sets, defScope s_law_day_sets, [], []⟩
def d_law : He.DefD := ⟨("law", none), "law", "law", defArgs s_law, defBody s_law, defScope s_law, [], []⟩
def fn : List He.DefD := [dx_BadRatio, d_is_whole, d_ratio, d_compare_ratios, d_ratio_sum, d_ratio_product, d_days_in, d_set_of, d_size, d_within, d_law_bag, d_law_take, d_law_of, d_law_number, d_law_divisor, d_law_is_ratio, d_law_refused, d_law_ratios, d_law_wholes, d_law_day_sets, d_law]
def fa : List He.Fa := [.glo "is_whole", .glo "ratio", .glo "compare_ratios", .glo "ratio_sum", .glo "ratio_product", .glo "days_in", .glo "set_of", .glo "size", .glo "within", .glo "_law_bag", .glo "_law_take", .glo "_law_of", .glo "_law_number", .glo "_law_divisor", .glo "_law_is_ratio", .glo "_law_refused", .glo "_law_ratios", .glo "_law_wholes", .glo "_law_day_sets", .glo "law", .glo "DaysError", .glo "BadRatio", .free "isinstance", .free "int", .free "bool", .free "tuple", .free "len", .free "abs", .free "enumerate", .free "range", .free "sum", .free "list", .free "min", .free "max"]
def excL (K : PySem.W.Frag) : List Addr := [He.ga K "DaysError", He.ga K "BadRatio"]
def ex (K : PySem.W.Frag) : Bool := allB [xdB K (He.ga K "DaysError"), xcB K (He.ga K "BadRatio") [], exmB K (He.ga K "BadRatio") [(He.ga K "DaysError", false), (He.ga K "BadRatio", true)], bltB K "gcd" "math.gcd"]
def tab (K : PySem.W.Frag) : Tab where
  K := K
  clsA := fun _ => 0
  clsF := fun _ => []
  excA := fun c => (excL K).getD c 0
  excF := fun c => ([[], []] : List (List Str)).getD c []
section
variable {P : Program} {w : World} {K : PySem.W.Frag} {h : Heap} {mg : Str → Option Value} {base : Heap}
theorem m_is_whole (KX : K.In h) (G : h.Ns mainGlobals mg) (c : SaysU fa fn ex K) : mg "is_whole" = some (.ref (He.ga K "is_whole")) := He.glo_ok KX G (c.d.fact 0 rfl)
theorem m_ratio (KX : K.In h) (G : h.Ns mainGlobals mg) (c : SaysU fa fn ex K) : mg "ratio" = some (.ref (He.ga K "ratio")) := He.glo_ok KX G (c.d.fact 1 rfl)
theorem m_compare_ratios (KX : K.In h) (G : h.Ns mainGlobals mg) (c : SaysU fa fn ex K) : mg "compare_ratios" = some (.ref (He.ga K "compare_ratios")) := He.glo_ok KX G (c.d.fact 2 rfl)
theorem m_ratio_sum (KX : K.In h) (G : h.Ns mainGlobals mg) (c : SaysU fa fn ex K) : mg "ratio_sum" = some (.ref (He.ga K "ratio_sum")) := He.glo_ok KX G (c.d.fact 3 rfl)
theorem m_ratio_product (KX : K.In h) (G : h.Ns mainGlobals mg) (c : SaysU fa fn ex K) : mg "ratio_product" = some (.ref (He.ga K "ratio_product")) := He.glo_ok KX G (c.d.fact 4 rfl)
theorem m_days_in (KX : K.In h) (G : h.Ns mainGlobals mg) (c : SaysU fa fn ex K) : mg "days_in" = some (.ref (He.ga K "days_in")) := He.glo_ok KX G (c.d.fact 5 rfl)
theorem m_set_of (KX : K.In h) (G : h.Ns mainGlobals mg) (c : SaysU fa fn ex K) : mg "set_of" = some (.ref (He.ga K "set_of")) := He.glo_ok KX G (c.d.fact 6 rfl)
theorem m_size (KX : K.In h) (G : h.Ns mainGlobals mg) (c : SaysU fa fn ex K) : mg "size" = some (.ref (He.ga K "size")) := He.glo_ok KX G (c.d.fact 7 rfl)
theorem m_within (KX : K.In h) (G : h.Ns mainGlobals mg) (c : SaysU fa fn ex K) : mg "within" = some (.ref (He.ga K "within")) := He.glo_ok KX G (c.d.fact 8 rfl)
theorem m__law_bag (KX : K.In h) (G : h.Ns mainGlobals mg) (c : SaysU fa fn ex K) : mg "_law_bag" = some (.ref (He.ga K "_law_bag")) := He.glo_ok KX G (c.d.fact 9 rfl)
theorem m__law_take (KX : K.In h) (G : h.Ns mainGlobals mg) (c : SaysU fa fn ex K) : mg "_law_take" = some (.ref (He.ga K "_law_take")) := He.glo_ok KX G (c.d.fact 10 rfl)
theorem m__law_of (KX : K.In h) (G : h.Ns mainGlobals mg) (c : SaysU fa fn ex K) : mg "_law_of" = some (.ref (He.ga K "_law_of")) := He.glo_ok KX G (c.d.fact 11 rfl)
theorem m__law_number (KX : K.In h) (G : h.Ns mainGlobals mg) (c : SaysU fa fn ex K) : mg "_law_number" = some (.ref (He.ga K "_law_number")) := He.glo_ok KX G (c.d.fact 12 rfl)
theorem m__law_divisor (KX : K.In h) (G : h.Ns mainGlobals mg) (c : SaysU fa fn ex K) : mg "_law_divisor" = some (.ref (He.ga K "_law_divisor")) := He.glo_ok KX G (c.d.fact 13 rfl)
theorem m__law_is_ratio (KX : K.In h) (G : h.Ns mainGlobals mg) (c : SaysU fa fn ex K) : mg "_law_is_ratio" = some (.ref (He.ga K "_law_is_ratio")) := He.glo_ok KX G (c.d.fact 14 rfl)
theorem m__law_refused (KX : K.In h) (G : h.Ns mainGlobals mg) (c : SaysU fa fn ex K) : mg "_law_refused" = some (.ref (He.ga K "_law_refused")) := He.glo_ok KX G (c.d.fact 15 rfl)
theorem m__law_ratios (KX : K.In h) (G : h.Ns mainGlobals mg) (c : SaysU fa fn ex K) : mg "_law_ratios" = some (.ref (He.ga K "_law_ratios")) := He.glo_ok KX G (c.d.fact 16 rfl)
theorem m__law_wholes (KX : K.In h) (G : h.Ns mainGlobals mg) (c : SaysU fa fn ex K) : mg "_law_wholes" = some (.ref (He.ga K "_law_wholes")) := He.glo_ok KX G (c.d.fact 17 rfl)
theorem m__law_day_sets (KX : K.In h) (G : h.Ns mainGlobals mg) (c : SaysU fa fn ex K) : mg "_law_day_sets" = some (.ref (He.ga K "_law_day_sets")) := He.glo_ok KX G (c.d.fact 18 rfl)
theorem m_law (KX : K.In h) (G : h.Ns mainGlobals mg) (c : SaysU fa fn ex K) : mg "law" = some (.ref (He.ga K "law")) := He.glo_ok KX G (c.d.fact 19 rfl)
theorem m_DaysError (KX : K.In h) (G : h.Ns mainGlobals mg) (c : SaysU fa fn ex K) : mg "DaysError" = some (.ref (He.ga K "DaysError")) := He.glo_ok KX G (c.d.fact 20 rfl)
theorem m_BadRatio (KX : K.In h) (G : h.Ns mainGlobals mg) (c : SaysU fa fn ex K) : mg "BadRatio" = some (.ref (He.ga K "BadRatio")) := He.glo_ok KX G (c.d.fact 21 rfl)
theorem m_isinstance (KX : K.In h) (G : h.Ns mainGlobals mg) (c : SaysU fa fn ex K) : mg "isinstance" = none := He.free_ok KX G (c.d.fact 22 rfl)
theorem m_int (KX : K.In h) (G : h.Ns mainGlobals mg) (c : SaysU fa fn ex K) : mg "int" = none := He.free_ok KX G (c.d.fact 23 rfl)
theorem m_bool (KX : K.In h) (G : h.Ns mainGlobals mg) (c : SaysU fa fn ex K) : mg "bool" = none := He.free_ok KX G (c.d.fact 24 rfl)
theorem m_tuple (KX : K.In h) (G : h.Ns mainGlobals mg) (c : SaysU fa fn ex K) : mg "tuple" = none := He.free_ok KX G (c.d.fact 25 rfl)
theorem m_len (KX : K.In h) (G : h.Ns mainGlobals mg) (c : SaysU fa fn ex K) : mg "len" = none := He.free_ok KX G (c.d.fact 26 rfl)
theorem m_abs (KX : K.In h) (G : h.Ns mainGlobals mg) (c : SaysU fa fn ex K) : mg "abs" = none := He.free_ok KX G (c.d.fact 27 rfl)
theorem m_enumerate (KX : K.In h) (G : h.Ns mainGlobals mg) (c : SaysU fa fn ex K) : mg "enumerate" = none := He.free_ok KX G (c.d.fact 28 rfl)
theorem m_range (KX : K.In h) (G : h.Ns mainGlobals mg) (c : SaysU fa fn ex K) : mg "range" = none := He.free_ok KX G (c.d.fact 29 rfl)
theorem m_sum (KX : K.In h) (G : h.Ns mainGlobals mg) (c : SaysU fa fn ex K) : mg "sum" = none := He.free_ok KX G (c.d.fact 30 rfl)
theorem m_list (KX : K.In h) (G : h.Ns mainGlobals mg) (c : SaysU fa fn ex K) : mg "list" = none := He.free_ok KX G (c.d.fact 31 rfl)
theorem m_min (KX : K.In h) (G : h.Ns mainGlobals mg) (c : SaysU fa fn ex K) : mg "min" = none := He.free_ok KX G (c.d.fact 32 rfl)
theorem m_max (KX : K.In h) (G : h.Ns mainGlobals mg) (c : SaysU fa fn ex K) : mg "max" = none := He.free_ok KX G (c.d.fact 33 rfl)
theorem xd_DaysError (c : SaysU fa fn ex K) : ClX.CRead K (He.ga K "DaysError") (.type "type") ∧ PySem.W.findCls K (.ref (He.ga K "DaysError")) (.type "type") "__init__" = some (.val (.builtin "ValueError.__init__")) := xdB_ok (allB_ok c.more 0 rfl)
theorem xc_BadRatio (c : SaysU fa fn ex K) : XcF K (He.ga K "BadRatio") [] := xcB_ok (allB_ok c.more 1 rfl)
theorem cok_BadRatio (c : SaysU fa fn ex K) : ∀ q b, caught_BadRatio q = some b → PySem.W.exmOne K (.ref ((tab K).excA q)) (.ref (He.ga K "BadRatio")) = some b := fun q b e => match q, e with
  | 0, e => by cases e; exact exmB_ok (allB_ok c.more 2 rfl) 0 rfl
  | 1, e => by cases e; exact exmB_ok (allB_ok c.more 2 rfl) 1 rfl
  | _ + 2, e => by cases e
theorem m_gcd (KX : K.In h) (G : h.Ns mainGlobals mg) (c : SaysU fa fn ex K) : mg "gcd" = some (.builtin "math.gcd") := bltB_ok KX G (allB_ok c.more 3 rfl)
theorem okx_BadRatio (KX : K.In h) (G : h.Ns mainGlobals mg) (c : SaysU fa fn ex K) : ∃ fd, FnOk P w K mg base (L2.CX P w) 1 (He.ma K (He.ga K "BadRatio") "__init__") fd ["self"] (spX0 ((tab K).excA 1)) ∧ Binds K fd ["self"] [] := by
  obtain ⟨fd, F⟩ := c.d.def_ 0 (d := dx_BadRatio) rfl
  have Z : XF K mg "DaysError" (He.ga K "DaysError") ((tab K).excA 1) := ⟨m_DaysError KX G c, (xd_DaysError c).1, (xd_DaysError c).2, (xc_BadRatio c).o⟩
  exact ⟨fd, xinit0 F scx_BadRatio rfl rfl (by first | exact Or.inl rfl | exact Or.inr rfl) (fun env => ⟨_, rfl⟩) Z, F.bindsN fun _ _ _ _ _ _ us hl => match us, hl with | [_], _ => rfl⟩
theorem ok_is_whole (KX : K.In h) (G : h.Ns mainGlobals mg) (c : SaysU fa fn ex K) : ∃ fd, FnOk P w K mg base (L2.CX P w) 1 (He.ga K "is_whole") fd ["thing", "low", "high"] (spF (tab K) (kdOf false) 3 F_is_whole) ∧ Binds K fd ["thing", "low", "high"] [] ∧ PySem.W.keepIn K (.ref (He.ga K "is_whole")) = true := by
  obtain ⟨fd, F⟩ := c.d.def_ 1 (d := d_is_whole) rfl
  refine ⟨fd, fn_ok F sc_is_whole (by decide) fun cdv A outer s H E hr => ?_, F.bindsN fun _ _ _ _ _ _ us hl => match us, hl with | [_, _, _], _ => rfl, F.kp⟩
  have tk := L2.takes_of (X := cxOf (L2.CX P w) P w K mg base N_is_whole "is_whole" (defScope s_is_whole) (He.ga K "is_whole") cdv A outer s H E) rfl rfl rfl rfl
  have hp := L2.passes_of (X := cxOf (L2.CX P w) P w K mg base N_is_whole "is_whole" (defScope s_is_whole) (He.ga K "is_whole") cdv A outer s H E) rfl
  exact (dss_one (ds_ret (de_and (de_isi (n := "int") rfl rfl (m_isinstance KX G c) rfl (m_int KX G c) (by decide +kernel) (de_var (pv 0))) (de_and (de_notV (de_isi (n := "bool") rfl rfl (m_isinstance KX G c) rfl (m_bool KX G c) (by decide +kernel) (de_var (pv 0)))) (de_one (de_chain op_le cd_c2 op_le cd_c2 mono_rI0 mono_rI0 (de_var (pv 1)) (de_var (pv 0)) (de_var (pv 2))))))))
theorem ok_ratio (KX : K.In h) (G : h.Ns mainGlobals mg) (c : SaysU fa fn ex K) : ∃ fd, FnOk P w K mg base (L2.CX P w) 3 (He.ga K "ratio") fd ["top", "bottom"] (spF (tab K) (kdOf false) 2 F_ratio) ∧ Binds K fd ["top", "bottom"] [] ∧ PySem.W.keepIn K (.ref (He.ga K "ratio")) = true := by
  obtain ⟨fd, F⟩ := c.d.def_ 2 (d := d_ratio) rfl
  obtain ⟨fdx_BadRatio, G_BadRatio, B_BadRatio⟩ := okx_BadRatio (P := P) (w := w) (base := base) KX G c
  have O_BadRatio := (xc_BadRatio c).o; have I_BadRatio := (xc_BadRatio c).i; have Ty_BadRatio := (xc_BadRatio c).t
  refine ⟨fd, fn_ok F sc_ratio (by decide) fun cdv A outer s H E hr => ?_, F.bindsN fun _ _ _ _ _ _ us hl => match us, hl with | [_, _], _ => rfl, F.kp⟩
  have tk := L2.takes_of (X := cxOf (L2.CX P w) P w K mg base N_ratio "ratio" (defScope s_ratio) (He.ga K "ratio") cdv A outer s H E) rfl rfl rfl rfl
  have hp := L2.passes_of (X := cxOf (L2.CX P w) P w K mg base N_ratio "ratio" (defScope s_ratio) (He.ga K "ratio") cdv A outer s H E) rfl
  exact (dss_cons (ds_if (dt_cmp op_eq cd_eqS (de_var (pv 1)) de_int) (dss_one (ds_raise0 (c := 1) rfl tk O_BadRatio I_BadRatio Ty_BadRatio G_BadRatio (hr.mono (by decide)) B_BadRatio rfl (m_BadRatio KX G c))) dss_nil) (dss_cons (ds_set (i := 2) (de_callF cr_gcd cd_gcd rfl (m_gcd KX G c) (da_cons (de_var (pv 0)) (da_cons (de_var (pv 1)) da_nil))) sc_ratio.nd rfl (by first | exact Or.inl rfl | exact Or.inr rfl)) (dss_cons (ds_if (dt_cmp op_lt cd_c2 (de_var (pv 1)) de_int) (dss_one (ds_set (i := 2) (de_un un_neg ud_neg (de_var (pv 2))) sc_ratio.nd rfl (by first | exact Or.inl rfl | exact Or.inr rfl))) dss_nil) (dss_one (ds_ret (de_tup (da_cons (de_op2 op_fdivA od_fdiv (de_var (pv 0)) (de_var (pv 2))) (da_cons (de_op2 op_fdivA od_fdiv (de_var (pv 1)) (de_var (pv 2))) da_nil)) (pures_cons (pures_cons pures_nil))))))))
theorem ok_compare_ratios (KX : K.In h) (G : h.Ns mainGlobals mg) (c : SaysU fa fn ex K) : ∃ fd, FnOk P w K mg base (L2.CX P w) 1 (He.ga K "compare_ratios") fd ["one", "other"] (spF (tab K) (kdOf false) 2 F_compare_ratios) ∧ Binds K fd ["one", "other"] [] ∧ PySem.W.keepIn K (.ref (He.ga K "compare_ratios")) = true := by
  obtain ⟨fd, F⟩ := c.d.def_ 3 (d := d_compare_ratios) rfl
  refine ⟨fd, fn_ok F sc_compare_ratios (by decide) fun cdv A outer s H E hr => ?_, F.bindsN fun _ _ _ _ _ _ us hl => match us, hl with | [_, _], _ => rfl, F.kp⟩
  have tk := L2.takes_of (X := cxOf (L2.CX P w) P w K mg base N_compare_ratios "compare_ratios" (defScope s_compare_ratios) (He.ga K "compare_ratios") cdv A outer s H E) rfl rfl rfl rfl
  have hp := L2.passes_of (X := cxOf (L2.CX P w) P w K mg base N_compare_ratios "compare_ratios" (defScope s_compare_ratios) (He.ga K "compare_ratios") cdv A outer s H E) rfl
  exact (dss_cons (ds_set (i := 2) (de_op2 op_sub od_sub (de_op2 op_mulA od_mul (de_ix rfl (de_var (pv 0)) de_int (fun _ _ => rfl)) (de_ix rfl (de_var (pv 1)) de_int (fun _ _ => rfl))) (de_op2 op_mulA od_mul (de_ix rfl (de_var (pv 1)) de_int (fun _ _ => rfl)) (de_ix rfl (de_var (pv 0)) de_int (fun _ _ => rfl)))) sc_compare_ratios.nd rfl (by first | exact Or.inl rfl | exact Or.inr rfl)) (dss_cons (ds_if (dt_cmp op_lt cd_c2 (de_var (pv 2)) de_int) (dss_one (ds_ret (de_un un_neg ud_neg de_int))) dss_nil) (dss_one (ds_ret (de_ifExp (dt_cmp op_gt cd_c2 (de_var (pv 2)) de_int) de_int de_int)))))
theorem ok_ratio_sum (KX : K.In h) (G : h.Ns mainGlobals mg) (c : SaysU fa fn ex K) : ∃ fd, FnOk P w K mg base (L2.CX P w) 4 (He.ga K "ratio_sum") fd ["one", "other"] (spF (tab K) (kdOf false) 2 F_ratio_sum) ∧ Binds K fd ["one", "other"] [] ∧ PySem.W.keepIn K (.ref (He.ga K "ratio_sum")) = true := by
  obtain ⟨fd, F⟩ := c.d.def_ 4 (d := d_ratio_sum) rfl
  obtain ⟨fd_ratio, G_ratio, B_ratio, K_ratio⟩ := ok_ratio (P := P) (w := w) (base := base) KX G c
  refine ⟨fd, fn_ok F sc_ratio_sum (by decide) fun cdv A outer s H E hr => ?_, F.bindsN fun _ _ _ _ _ _ us hl => match us, hl with | [_, _], _ => rfl, F.kp⟩
  have tk := L2.takes_of (X := cxOf (L2.CX P w) P w K mg base N_ratio_sum "ratio_sum" (defScope s_ratio_sum) (He.ga K "ratio_sum") cdv A outer s H E) rfl rfl rfl rfl
  have hp := L2.passes_of (X := cxOf (L2.CX P w) P w K mg base N_ratio_sum "ratio_sum" (defScope s_ratio_sum) (He.ga K "ratio_sum") cdv A outer s H E) rfl
  exact (dss_one (ds_ret (de_call G_ratio (.inl rfl) (hr.mono (by decide)) rfl (m_ratio KX G c) K_ratio B_ratio .nil (fun _ => Reps.nil) tk (ga_p (de_op2 op_add od_add (de_op2 op_mulA od_mul (de_ix rfl (de_var (pv 0)) de_int (fun _ _ => rfl)) (de_ix rfl (de_var (pv 1)) de_int (fun _ _ => rfl))) (de_op2 op_mulA od_mul (de_ix rfl (de_var (pv 1)) de_int (fun _ _ => rfl)) (de_ix rfl (de_var (pv 0)) de_int (fun _ _ => rfl)))) (ga_p (de_op2 op_mulA od_mul (de_ix rfl (de_var (pv 0)) de_int (fun _ _ => rfl)) (de_ix rfl (de_var (pv 1)) de_int (fun _ _ => rfl))) ga_nil)))))
theorem ok_ratio_product (KX : K.In h) (G : h.Ns mainGlobals mg) (c : SaysU fa fn ex K) : ∃ fd, FnOk P w K mg base (L2.CX P w) 4 (He.ga K "ratio_product") fd ["one", "other"] (spF (tab K) (kdOf false) 2 F_ratio_product) ∧ Binds K fd ["one", "other"] [] ∧ PySem.W.keepIn K (.ref (He.ga K "ratio_product")) = true := by
  obtain ⟨fd, F⟩ := c.d.def_ 5 (d := d_ratio_product) rfl
  obtain ⟨fd_ratio, G_ratio, B_ratio, K_ratio⟩ := ok_ratio (P := P) (w := w) (base := base) KX G c
  refine ⟨fd, fn_ok F sc_ratio_product (by decide) fun cdv A outer s H E hr => ?_, F.bindsN fun _ _ _ _ _ _ us hl => match us, hl with | [_, _], _ => rfl, F.kp⟩
  have tk := L2.takes_of (X := cxOf (L2.CX P w) P w K mg base N_ratio_product "ratio_product" (defScope s_ratio_product) (He.ga K "ratio_product") cdv A outer s H E) rfl rfl rfl rfl
  have hp := L2.passes_of (X := cxOf (L2.CX P w) P w K mg base N_ratio_product "ratio_product" (defScope s_ratio_product) (He.ga K "ratio_product") cdv A outer s H E) rfl
  exact (dss_one (ds_ret (de_call G_ratio (.inl rfl) (hr.mono (by decide)) rfl (m_ratio KX G c) K_ratio B_ratio .nil (fun _ => Reps.nil) tk (ga_p (de_op2 op_mulA od_mul (de_ix rfl (de_var (pv 0)) de_int (fun _ _ => rfl)) (de_ix rfl (de_var (pv 1)) de_int (fun _ _ => rfl))) (ga_p (de_op2 op_mulA od_mul (de_ix rfl (de_var (pv 0)) de_int (fun _ _ => rfl)) (de_ix rfl (de_var (pv 1)) de_int (fun _ _ => rfl))) ga_nil)))))
theorem ok_days_in (KX : K.In h) (G : h.Ns mainGlobals mg) (c : SaysU fa fn ex K) : ∃ fd, FnOk P w K mg base (L2.CX P w) 1 (He.ga K "days_in") fd ["day_set"] (spF (tab K) (kdOf false) 1 F_days_in) ∧ Binds K fd ["day_set"] [] ∧ PySem.W.keepIn K (.ref (He.ga K "days_in")) = true := by
  obtain ⟨fd, F⟩ := c.d.def_ 6 (d := d_days_in) rfl
  refine ⟨fd, fn_ok F sc_days_in (by decide) fun cdv A outer s H E hr => ?_, F.bindsN fun _ _ _ _ _ _ us hl => match us, hl with | [_], _ => rfl, F.kp⟩
  have tk := L2.takes_of (X := cxOf (L2.CX P w) P w K mg base N_days_in "days_in" (defScope s_days_in) (He.ga K "days_in") cdv A outer s H E) rfl rfl rfl rfl
  have hp := L2.passes_of (X := cxOf (L2.CX P w) P w K mg base N_days_in "days_in" (defScope s_days_in) (He.ga K "days_in") cdv A outer s H E) rfl
  exact (dss_cons (ds_setO (i := 1) (de_lst da_nil pures_nil) sc_days_in.nd rfl (by first | exact Or.inl rfl | exact Or.inr rfl)) (dss_cons (ds_set (i := 2) de_int sc_days_in.nd rfl (by first | exact Or.inl rfl | exact Or.inr rfl)) (dss_cons (ds_while 40 hp (dt_tr rfl (de_op2 op_shr od_shr (de_var (pv 0)) (de_var (pv 2))) (by intro _; rfl)) (dss_cons (ds_if (dt_tr rfl (de_op2 op_and od_and (de_op2 op_shr od_shr (de_var (pv 0)) (de_var (pv 2))) de_int) (by intro _; rfl)) (dss_one (ds_expr (de_mt (i := 1) rfl PySem.F.plainAttrs_list PySem.F.slot_list_append PySem.F.type_list_append mt_append md_append (pv 1) (da_cons (de_var (pv 2)) da_nil) (pures_cons pures_nil)))) dss_nil) (dss_one (ds_aug (i := 2) sc_days_in.nd rfl (by first | exact Or.inl rfl | exact Or.inr rfl) de_int iop_add od_add)))) (dss_one (ds_ret (de_callTy call_tuple_of cd_tuple rfl (m_tuple KX G c) (by decide +kernel) (da_cons (de_ofrz (pv 1)) da_nil)))))))
theorem ok_set_of (KX : K.In h) (G : h.Ns mainGlobals mg) (c : SaysU fa fn ex K) : ∃ fd, FnOk P w K mg base (L2.CX P w) 1 (He.ga K "set_of") fd ["days"] (spF (tab K) (kdOf false) 1 F_set_of) ∧ Binds K fd ["days"] [] ∧ PySem.W.keepIn K (.ref (He.ga K "set_of")) = true := by
  obtain ⟨fd, F⟩ := c.d.def_ 7 (d := d_set_of) rfl
  refine ⟨fd, fn_ok F sc_set_of (by decide) fun cdv A outer s H E hr => ?_, F.bindsN fun _ _ _ _ _ _ us hl => match us, hl with | [_], _ => rfl, F.kp⟩
  have tk := L2.takes_of (X := cxOf (L2.CX P w) P w K mg base N_set_of "set_of" (defScope s_set_of) (He.ga K "set_of") cdv A outer s H E) rfl rfl rfl rfl
  have hp := L2.passes_of (X := cxOf (L2.CX P w) P w K mg base N_set_of "set_of" (defScope s_set_of) (He.ga K "set_of") cdv A outer s H E) rfl
  exact (dss_cons (ds_set (i := 1) de_int sc_set_of.nd rfl (by first | exact Or.inl rfl | exact Or.inr rfl)) (dss_cons (ds_for hp rfl (di_seq rfl (de_var (pv 0))) (dg_name (i := 2) sc_set_of.nd rfl (by first | exact Or.inl rfl | exact Or.inr rfl)) (dss_one (ds_set (i := 1) (de_op2 op_or od_or (de_var (pv 1)) (de_op2 op_shlW od_shl de_int (de_var (pv 2)))) sc_set_of.nd rfl (by first | exact Or.inl rfl | exact Or.inr rfl)))) (dss_one (ds_ret (de_var (pv 1))))))
theorem ok_size (KX : K.In h) (G : h.Ns mainGlobals mg) (c : SaysU fa fn ex K) : ∃ fd, FnOk P w K mg base (L2.CX P w) 2 (He.ga K "size") fd ["day_set"] (spF (tab K) (kdOf false) 1 F_size) ∧ Binds K fd ["day_set"] [] ∧ PySem.W.keepIn K (.ref (He.ga K "size")) = true := by
  obtain ⟨fd, F⟩ := c.d.def_ 8 (d := d_size) rfl
  obtain ⟨fd_days_in, G_days_in, B_days_in, K_days_in⟩ := ok_days_in (P := P) (w := w) (base := base) KX G c
  refine ⟨fd, fn_ok F sc_size (by decide) fun cdv A outer s H E hr => ?_, F.bindsN fun _ _ _ _ _ _ us hl => match us, hl with | [_], _ => rfl, F.kp⟩
  have tk := L2.takes_of (X := cxOf (L2.CX P w) P w K mg base N_size "size" (defScope s_size) (He.ga K "size") cdv A outer s H E) rfl rfl rfl rfl
  have hp := L2.passes_of (X := cxOf (L2.CX P w) P w K mg base N_size "size" (defScope s_size) (He.ga K "size") cdv A outer s H E) rfl
  exact (dss_one (ds_ret (de_callB call_len cd_len rfl (m_len KX G c) boot_len (da_cons (de_call G_days_in (.inl rfl) (hr.mono (by decide)) rfl (m_days_in KX G c) K_days_in B_days_in .nil (fun _ => Reps.nil) tk (ga_p (de_var (pv 0)) ga_nil)) da_nil))))
theorem ok_within (KX : K.In h) (G : h.Ns mainGlobals mg) (c : SaysU fa fn ex K) : ∃ fd, FnOk P w K mg base (L2.CX P w) 1 (He.ga K "within") fd ["one", "other"] (spF (tab K) (kdOf false) 2 F_within) ∧ Binds K fd ["one", "other"] [] ∧ PySem.W.keepIn K (.ref (He.ga K "within")) = true := by
  obtain ⟨fd, F⟩ := c.d.def_ 9 (d := d_within) rfl
  refine ⟨fd, fn_ok F sc_within (by decide) fun cdv A outer s H E hr => ?_, F.bindsN fun _ _ _ _ _ _ us hl => match us, hl with | [_, _], _ => rfl, F.kp⟩
  have tk := L2.takes_of (X := cxOf (L2.CX P w) P w K mg base N_within "within" (defScope s_within) (He.ga K "within") cdv A outer s H E) rfl rfl rfl rfl
  have hp := L2.passes_of (X := cxOf (L2.CX P w) P w K mg base N_within "within" (defScope s_within) (He.ga K "within") cdv A outer s H E) rfl
  exact (dss_one (ds_ret (de_cmp op_eq cd_eqS (de_op2 op_and od_and (de_var (pv 0)) (de_un un_inv ud_inv (de_var (pv 1)))) de_int)))
theorem ok_law_bag (KX : K.In h) (G : h.Ns mainGlobals mg) (c : SaysU fa fn ex K) : ∃ fd, FnOk P w K mg base (L2.CX P w) 1 (He.ga K "_law_bag") fd ["_law_script", "_law_at"] (spF (tab K) (kdOf true) 2 F_law_bag) ∧ Binds K fd ["_law_script", "_law_at"] [] ∧ PySem.W.keepIn K (.ref (He.ga K "_law_bag")) = true := by
  obtain ⟨fd, F⟩ := c.d.def_ 10 (d := d_law_bag) rfl
  refine ⟨fd, fn_ok F sc_law_bag (by decide) fun cdv A outer s H E hr => ?_, F.bindsN fun _ _ _ _ _ _ us hl => match us, hl with | [_, _], _ => rfl, F.kp⟩
  have tk := L2.takes_of (X := cxOf (L2.CX P w) P w K mg base N_law_bag "_law_bag" (defScope s_law_bag) (He.ga K "_law_bag") cdv A outer s H E) rfl rfl rfl rfl
  have hp := L2.passes_of (X := cxOf (L2.CX P w) P w K mg base N_law_bag "_law_bag" (defScope s_law_bag) (He.ga K "_law_bag") cdv A outer s H E) rfl
  exact (dss_cons (ds_set (i := 2) (de_ifExp (dt_cmp op_lt cd_c2 (de_var (pv 1)) (de_callB call_len cd_len rfl (m_len KX G c) boot_len (da_cons (de_var (pv 0)) da_nil))) (de_callB call_abs cd_abs rfl (m_abs KX G c) (by decide +kernel) (da_cons (de_callTy call_int1 cd_int rfl (m_int KX G c) (by decide +kernel) (da_cons (de_ix rfl (de_var (pv 0)) (de_var (pv 1)) (fun _ _ => rfl)) da_nil)) da_nil)) de_int) sc_law_bag.nd rfl (by first | exact Or.inl rfl | exact Or.inr rfl)) (dss_cons (ds_set (i := 3) (de_op2 op_add od_add de_int (de_op2 op_mulA od_mul de_int (de_var (pv 1)))) sc_law_bag.nd rfl (by first | exact Or.inl rfl | exact Or.inr rfl)) (dss_cons (ds_for hp rfl (di_enum rfl rfl (m_enumerate KX G c) (de_frz (de_slL rfl (de_var (pv 0)) do_none (do_some de_int)))) (dg_tup rfl rfl (dgs_cons (dg_name (i := 4) sc_law_bag.nd rfl (by first | exact Or.inl rfl | exact Or.inr rfl)) (dgs_cons (dg_name (i := 5) sc_law_bag.nd rfl (by first | exact Or.inl rfl | exact Or.inr rfl)) dgs_nil))) (dss_one (ds_set (i := 3) (de_op2 op_modN od_mod (de_callTy call_int1 cd_int rfl (m_int KX G c) (by decide +kernel) (da_cons (de_op2 op_add od_add (de_op2 op_add od_add (de_op2 op_mulA od_mul (de_var (pv 3)) de_int) (de_op2 op_modN od_mod (de_callTy call_int1 cd_int rfl (m_int KX G c) (by decide +kernel) (da_cons (de_var (pv 5)) da_nil)) de_int)) (de_op2 op_mulA od_mul de_int (de_var (pv 4)))) da_nil)) de_int) sc_law_bag.nd rfl (by first | exact Or.inl rfl | exact Or.inr rfl)))) (dss_one (ds_ret (de_lst (da_cons (de_ifExp (dt_cmp op_ge cd_c2 (de_var (pv 2)) (de_op2 op_pow od_pow de_int de_int)) (de_var (pv 2)) de_int) (da_cons (de_var (pv 3)) (da_cons de_int da_nil))) (pures_cons (pures_cons (pures_cons pures_nil)))))))))
theorem ok_law_take (KX : K.In h) (G : h.Ns mainGlobals mg) (c : SaysU fa fn ex K) : ∃ fd, FnOk P w K mg base (L2.CX P w) 1 (He.ga K "_law_take") fd ["_law_bag_here", "_law_many"] (spF (tab K) (kdOf false) 2 F_law_take) ∧ Binds K fd ["_law_bag_here", "_law_many"] [] ∧ PySem.W.keepIn K (.ref (He.ga K "_law_take")) = true := by
  obtain ⟨fd, F⟩ := c.d.def_ 11 (d := d_law_take) rfl
  refine ⟨fd, fn_ok F sc_law_take (by decide) fun cdv A outer s H E hr => ?_, F.bindsN fun _ _ _ _ _ _ us hl => match us, hl with | [_, _], _ => rfl, F.kp⟩
  have tk := L2.takes_of (X := cxOf (L2.CX P w) P w K mg base N_law_take "_law_take" (defScope s_law_take) (He.ga K "_law_take") cdv A outer s H E) rfl rfl rfl rfl
  have hp := L2.passes_of (X := cxOf (L2.CX P w) P w K mg base N_law_take "_law_take" (defScope s_law_take) (He.ga K "_law_take") cdv A outer s H E) rfl
  exact (dss_cons (ds_if (dt_cmp op_gt cd_c2 (de_ix rfl (de_ovar (pv 0)) de_int (fun _ _ => rfl) (hst := steady_c)) de_int) (dss_cons (ds_set (i := 2) (de_op2 op_modN od_mod (de_callTy call_int1 cd_int rfl (m_int KX G c) (by decide +kernel) (da_cons (de_ix rfl (de_ovar (pv 0)) de_int (fun _ _ => rfl) (hst := steady_c)) da_nil)) (de_var (pv 1))) sc_law_take.nd rfl (by first | exact Or.inl rfl | exact Or.inr rfl)) (dss_cons (ds_setI (pv 0) (de_op2 op_fdivA od_fdiv (de_ix rfl (de_ovar (pv 0)) de_int (fun _ _ => rfl) (hst := steady_c)) (de_var (pv 1))) de_int) (dss_one (ds_ret (de_var (pv 2)))))) dss_nil) (dss_cons (ds_setI (pv 0) (de_op2 op_add od_add (de_ix rfl (de_ovar (pv 0)) de_int (fun _ _ => rfl) (hst := steady_c)) de_int) de_int) (dss_cons (ds_setI (pv 0) (de_op2 op_modN od_mod (de_callTy call_int1 cd_int rfl (m_int KX G c) (by decide +kernel) (da_cons (de_op2 op_add od_add (de_op2 op_add od_add (de_op2 op_mulA od_mul (de_ix rfl (de_ovar (pv 0)) de_int (fun _ _ => rfl) (hst := steady_c)) de_int) (de_op2 op_mulA od_mul de_int (de_ix rfl (de_ovar (pv 0)) de_int (fun _ _ => rfl) (hst := steady_c)))) de_int) da_nil)) de_int) de_int) (dss_one (ds_ret (de_op2 op_modN od_mod (de_op2 op_fdivA od_fdiv (de_op2 op_modN od_mod (de_callTy call_int1 cd_int rfl (m_int KX G c) (by decide +kernel) (da_cons (de_op2 op_mulA od_mul (de_ix rfl (de_ovar (pv 0)) de_int (fun _ _ => rfl) (hst := steady_c)) de_int) da_nil)) de_int) de_int) (de_var (pv 1))))))))
theorem ok_law_of (KX : K.In h) (G : h.Ns mainGlobals mg) (c : SaysU fa fn ex K) : ∃ fd, FnOk P w K mg base (L2.CX P w) 2 (He.ga K "_law_of") fd ["_law_bag_here", "_law_some"] (spF (tab K) (kdOf false) 2 F_law_of) ∧ Binds K fd ["_law_bag_here", "_law_some"] [] ∧ PySem.W.keepIn K (.ref (He.ga K "_law_of")) = true := by
  obtain ⟨fd, F⟩ := c.d.def_ 12 (d := d_law_of) rfl
  obtain ⟨fd_law_take, G_law_take, B_law_take, K_law_take⟩ := ok_law_take (P := P) (w := w) (base := base) KX G c
  refine ⟨fd, fn_ok F sc_law_of (by decide) fun cdv A outer s H E hr => ?_, F.bindsN fun _ _ _ _ _ _ us hl => match us, hl with | [_, _], _ => rfl, F.kp⟩
  have tk := L2.takes_of (X := cxOf (L2.CX P w) P w K mg base N_law_of "_law_of" (defScope s_law_of) (He.ga K "_law_of") cdv A outer s H E) rfl rfl rfl rfl
  have hp := L2.passes_of (X := cxOf (L2.CX P w) P w K mg base N_law_of "_law_of" (defScope s_law_of) (He.ga K "_law_of") cdv A outer s H E) rfl
  exact (dss_one (ds_ret (de_ix rfl (de_var (pv 1)) (de_call G_law_take (.inl rfl) (hr.mono (by decide)) rfl (m__law_take KX G c) K_law_take B_law_take .nil (fun _ => Reps.nil) tk (ga_o (pv 0) (ga_p (de_callB call_len cd_len rfl (m_len KX G c) boot_len (da_cons (de_var (pv 1)) da_nil)) ga_nil))) (fun _ _ => rfl))))
theorem ok_law_number (KX : K.In h) (G : h.Ns mainGlobals mg) (c : SaysU fa fn ex K) : ∃ fd, FnOk P w K mg base (L2.CX P w) 3 (He.ga K "_law_number") fd ["_law_bag_here"] (spF (tab K) (kdOf false) 1 F_law_number) ∧ Binds K fd ["_law_bag_here"] [] ∧ PySem.W.keepIn K (.ref (He.ga K "_law_number")) = true := by
  obtain ⟨fd, F⟩ := c.d.def_ 13 (d := d_law_number) rfl
  obtain ⟨fd_law_of, G_law_of, B_law_of, K_law_of⟩ := ok_law_of (P := P) (w := w) (base := base) KX G c
  obtain ⟨fd_law_take, G_law_take, B_law_take, K_law_take⟩ := ok_law_take (P := P) (w := w) (base := base) KX G c
  refine ⟨fd, fn_ok F sc_law_number (by decide) fun cdv A outer s H E hr => ?_, F.bindsN fun _ _ _ _ _ _ us hl => match us, hl with | [_], _ => rfl, F.kp⟩
  have tk := L2.takes_of (X := cxOf (L2.CX P w) P w K mg base N_law_number "_law_number" (defScope s_law_number) (He.ga K "_law_number") cdv A outer s H E) rfl rfl rfl rfl
  have hp := L2.passes_of (X := cxOf (L2.CX P w) P w K mg base N_law_number "_law_number" (defScope s_law_number) (He.ga K "_law_number") cdv A outer s H E) rfl
  exact (dss_cons (ds_set (i := 1) (de_call G_law_of (.inl rfl) (hr.mono (by decide)) rfl (m__law_of KX G c) K_law_of B_law_of .nil (fun _ => Reps.nil) tk (ga_o (pv 0) (ga_p (de_frz (de_lst (da_cons de_int (da_cons de_int (da_cons de_int (da_cons de_int (da_cons (de_op2 op_pow od_pow de_int de_int) (da_cons (de_op2 op_pow od_pow de_int de_int) (da_cons (de_op2 op_pow od_pow de_int de_int) da_nil))))))) (pures_cons (pures_cons (pures_cons (pures_cons (pures_cons (pures_cons (pures_cons pures_nil))))))))) ga_nil))) sc_law_number.nd rfl (by first | exact Or.inl rfl | exact Or.inr rfl)) (dss_cons (ds_set (i := 2) (de_op2 op_sub od_sub (de_call G_law_take (.inl rfl) (hr.mono (by decide)) rfl (m__law_take KX G c) K_law_take B_law_take .nil (fun _ => Reps.nil) tk (ga_o (pv 0) (ga_p (de_op2 op_add od_add (de_op2 op_mulA od_mul de_int (de_var (pv 1))) de_int) ga_nil))) (de_var (pv 1))) sc_law_number.nd rfl (by first | exact Or.inl rfl | exact Or.inr rfl)) (dss_one (ds_ret (de_op2 op_mulA od_mul (de_var (pv 2)) (de_call G_law_of (.inl rfl) (hr.mono (by decide)) rfl (m__law_of KX G c) K_law_of B_law_of .nil (fun _ => Reps.nil) tk (ga_o (pv 0) (ga_p (de_frz (de_lst (da_cons de_int (da_cons de_int (da_cons de_int (da_cons de_int da_nil)))) (pures_cons (pures_cons (pures_cons (pures_cons pures_nil)))))) ga_nil))))))))
theorem ok_law_divisor (KX : K.In h) (G : h.Ns mainGlobals mg) (c : SaysU fa fn ex K) : ∃ fd, FnOk P w K mg base (L2.CX P w) 1 (He.ga K "_law_divisor") fd ["_law_one", "_law_other"] (spF (tab K) (kdOf false) 2 F_law_divisor) ∧ Binds K fd ["_law_one", "_law_other"] [] ∧ PySem.W.keepIn K (.ref (He.ga K "_law_divisor")) = true := by
  obtain ⟨fd, F⟩ := c.d.def_ 14 (d := d_law_divisor) rfl
  refine ⟨fd, fn_ok F sc_law_divisor (by decide) fun cdv A outer s H E hr => ?_, F.bindsN fun _ _ _ _ _ _ us hl => match us, hl with | [_, _], _ => rfl, F.kp⟩
  have tk := L2.takes_of (X := cxOf (L2.CX P w) P w K mg base N_law_divisor "_law_divisor" (defScope s_law_divisor) (He.ga K "_law_divisor") cdv A outer s H E) rfl rfl rfl rfl
  have hp := L2.passes_of (X := cxOf (L2.CX P w) P w K mg base N_law_divisor "_law_divisor" (defScope s_law_divisor) (He.ga K "_law_divisor") cdv A outer s H E) rfl
  exact (dss_cons (ds_par (i := 0) (j := 1) rfl sc_law_divisor.nd rfl rfl (by decide) rfl rfl (de_callB call_abs cd_abs rfl (m_abs KX G c) (by decide +kernel) (da_cons (de_var (pv 0)) da_nil)) (de_callB call_abs cd_abs rfl (m_abs KX G c) (by decide +kernel) (da_cons (de_var (pv 1)) da_nil))) (dss_cons (ds_for hp rfl (di_range1 rfl (m_range KX G c) de_int) (dg_name (i := 2) sc_law_divisor.nd rfl (by first | exact Or.inl rfl | exact Or.inr rfl)) (dss_cons (ds_if (dt_cmp op_eq cd_eqS (de_var (pv 1)) de_int) (dss_one (ds_ret (de_var (pv 0)))) dss_nil) (dss_one (ds_par (i := 0) (j := 1) rfl sc_law_divisor.nd rfl rfl (by decide) rfl rfl (de_var (pv 1)) (de_op2 op_modN od_mod (de_callTy call_int1 cd_int rfl (m_int KX G c) (by decide +kernel) (da_cons (de_var (pv 0)) da_nil)) (de_var (pv 1))))))) (dss_one (ds_ret (de_var (pv 0))))))
theorem ok_law_is_ratio (KX : K.In h) (G : h.Ns mainGlobals mg) (c : SaysU fa fn ex K) : ∃ fd, FnOk P w K mg base (L2.CX P w) 2 (He.ga K "_law_is_ratio") fd ["_law_told", "_law_top", "_law_bottom"] (spF (tab K) (kdOf false) 3 F_law_is_ratio) ∧ Binds K fd ["_law_told", "_law_top", "_law_bottom"] [] ∧ PySem.W.keepIn K (.ref (He.ga K "_law_is_ratio")) = true := by
  obtain ⟨fd, F⟩ := c.d.def_ 15 (d := d_law_is_ratio) rfl
  obtain ⟨fd_law_divisor, G_law_divisor, B_law_divisor, K_law_divisor⟩ := ok_law_divisor (P := P) (w := w) (base := base) KX G c
  refine ⟨fd, fn_ok F sc_law_is_ratio (by decide) fun cdv A outer s H E hr => ?_, F.bindsN fun _ _ _ _ _ _ us hl => match us, hl with | [_, _, _], _ => rfl, F.kp⟩
  have tk := L2.takes_of (X := cxOf (L2.CX P w) P w K mg base N_law_is_ratio "_law_is_ratio" (defScope s_law_is_ratio) (He.ga K "_law_is_ratio") cdv A outer s H E) rfl rfl rfl rfl
  have hp := L2.passes_of (X := cxOf (L2.CX P w) P w K mg base N_law_is_ratio "_law_is_ratio" (defScope s_law_is_ratio) (He.ga K "_law_is_ratio") cdv A outer s H E) rfl
  exact (dss_cons (ds_if (dt_w (dw_or (dt_not (dt_tr rfl (de_isi (n := "tuple") rfl rfl (m_isinstance KX G c) rfl (m_tuple KX G c) (by decide +kernel) (de_var (pv 0))) (by intro _; rfl))) (dw_or1 (dt_cmp op_ne cd_neS (de_callB call_len cd_len rfl (m_len KX G c) boot_len (da_cons (de_var (pv 0)) da_nil)) de_int)))) (dss_one (ds_ret de_bl)) dss_nil) (dss_cons (ds_for hp rfl (di_tup rfl (de_var (pv 0))) (dg_name (i := 3) sc_law_is_ratio.nd rfl (by first | exact Or.inl rfl | exact Or.inr rfl)) (dss_one (ds_if (dt_w (dw_or (dt_not (dt_tr rfl (de_isi (n := "int") rfl rfl (m_isinstance KX G c) rfl (m_int KX G c) (by decide +kernel) (de_var (pv 3))) (by intro _; rfl))) (dw_or1 (dt_tr rfl (de_isi (n := "bool") rfl rfl (m_isinstance KX G c) rfl (m_bool KX G c) (by decide +kernel) (de_var (pv 3))) (by intro _; rfl))))) (dss_one (ds_ret de_bl)) dss_nil))) (dss_cons (ds_if (dt_w (dw_or (dt_cmp op_lt cd_c2 (de_ix rfl (de_var (pv 0)) de_int (fun _ _ => rfl)) de_int) (dw_or1 (dt_cmp op_ne cd_neS (de_op2 op_mulA od_mul (de_ix rfl (de_var (pv 0)) de_int (fun _ _ => rfl)) (de_var (pv 2))) (de_op2 op_mulA od_mul (de_ix rfl (de_var (pv 0)) de_int (fun _ _ => rfl)) (de_var (pv 1))))))) (dss_one (ds_ret de_bl)) dss_nil) (dss_one (ds_ret (de_cmp op_eq cd_eqS (de_call G_law_divisor (.inl rfl) (hr.mono (by decide)) rfl (m__law_divisor KX G c) K_law_divisor B_law_divisor .nil (fun _ => Reps.nil) tk (ga_p (de_ix rfl (de_var (pv 0)) de_int (fun _ _ => rfl)) (ga_p (de_ix rfl (de_var (pv 0)) de_int (fun _ _ => rfl)) ga_nil))) de_int))))))
theorem ok_law_refused (KX : K.In h) (G : h.Ns mainGlobals mg) (c : SaysU fa fn ex K) : ∃ fd, FnOk P w K mg base (L2.CX P w) 4 (He.ga K "_law_refused") fd ["_law_top"] (spF (tab K) (kdOf false) 1 F_law_refused) ∧ Binds K fd ["_law_top"] [] ∧ PySem.W.keepIn K (.ref (He.ga K "_law_refused")) = true := by
  obtain ⟨fd, F⟩ := c.d.def_ 16 (d := d_law_refused) rfl
  obtain ⟨fd_ratio, G_ratio, B_ratio, K_ratio⟩ := ok_ratio (P := P) (w := w) (base := base) KX G c
  refine ⟨fd, fn_ok F sc_law_refused (by decide) fun cdv A outer s H E hr => ?_, F.bindsN fun _ _ _ _ _ _ us hl => match us, hl with | [_], _ => rfl, F.kp⟩
  have tk := L2.takes_of (X := cxOf (L2.CX P w) P w K mg base N_law_refused "_law_refused" (defScope s_law_refused) (He.ga K "_law_refused") cdv A outer s H E) rfl rfl rfl rfl
  have hp := L2.passes_of (X := cxOf (L2.CX P w) P w K mg base N_law_refused "_law_refused" (defScope s_law_refused) (He.ga K "_law_refused") cdv A outer s H E) rfl
  exact (dss_cons (ds_try rfl rfl ⟨rfl, by decide, .inl (m_BadRatio KX G c)⟩ tk (cok_BadRatio c) (fun W' pn xe tk' hp' => (dss_one (ds_expr (de_call G_ratio (.inl rfl) (hr.mono (by decide)) rfl (m_ratio KX G c) K_ratio B_ratio .nil (fun _ => Reps.nil) tk' (ga_p (de_var (pv 0)) (ga_p de_int ga_nil)))))) (fun a oe cls d pn hz hf => (dss_one (ds_ret de_bl)))) (dss_one (ds_ret de_bl)))
theorem ok_law_ratios (KX : K.In h) (G : h.Ns mainGlobals mg) (c : SaysU fa fn ex K) : ∃ fd, FnOk P w K mg base (L2.CX P w) 5 (He.ga K "_law_ratios") fd ["_law_bag_here"] (spF (tab K) (kdOf false) 1 F_law_ratios) ∧ Binds K fd ["_law_bag_here"] [] ∧ PySem.W.keepIn K (.ref (He.ga K "_law_ratios")) = true := by
  obtain ⟨fd, F⟩ := c.d.def_ 17 (d := d_law_ratios) rfl
  obtain ⟨fd_law_is_ratio, G_law_is_ratio, B_law_is_ratio, K_law_is_ratio⟩ := ok_law_is_ratio (P := P) (w := w) (base := base) KX G c
  obtain ⟨fd_law_number, G_law_number, B_law_number, K_law_number⟩ := ok_law_number (P := P) (w := w) (base := base) KX G c
  obtain ⟨fd_law_refused, G_law_refused, B_law_refused, K_law_refused⟩ := ok_law_refused (P := P) (w := w) (base := base) KX G c
  obtain ⟨fd_law_take, G_law_take, B_law_take, K_law_take⟩ := ok_law_take (P := P) (w := w) (base := base) KX G c
  obtain ⟨fd_compare_ratios, G_compare_ratios, B_compare_ratios, K_compare_ratios⟩ := ok_compare_ratios (P := P) (w := w) (base := base) KX G c
  obtain ⟨fd_ratio, G_ratio, B_ratio, K_ratio⟩ := ok_ratio (P := P) (w := w) (base := base) KX G c
  obtain ⟨fd_ratio_product, G_ratio_product, B_ratio_product, K_ratio_product⟩ := ok_ratio_product (P := P) (w := w) (base := base) KX G c
  obtain ⟨fd_ratio_sum, G_ratio_sum, B_ratio_sum, K_ratio_sum⟩ := ok_ratio_sum (P := P) (w := w) (base := base) KX G c
  refine ⟨fd, fn_ok F sc_law_ratios (by decide) fun cdv A outer s H E hr => ?_, F.bindsN fun _ _ _ _ _ _ us hl => match us, hl with | [_], _ => rfl, F.kp⟩
  have tk := L2.takes_of (X := cxOf (L2.CX P w) P w K mg base N_law_ratios "_law_ratios" (defScope s_law_ratios) (He.ga K "_law_ratios") cdv A outer s H E) rfl rfl rfl rfl
  have hp := L2.passes_of (X := cxOf (L2.CX P w) P w K mg base N_law_ratios "_law_ratios" (defScope s_law_ratios) (He.ga K "_law_ratios") cdv A outer s H E) rfl
  exact (dss_cons (ds_par (i := 1) (j := 2) rfl sc_law_ratios.nd rfl rfl (by decide) rfl rfl (de_call G_law_number (.inl rfl) (hr.mono (by decide)) rfl (m__law_number KX G c) K_law_number B_law_number .nil (fun _ => Reps.nil) tk (ga_o (pv 0) ga_nil)) (de_call G_law_number (.inl rfl) (hr.mono (by decide)) rfl (m__law_number KX G c) K_law_number B_law_number .nil (fun _ => Reps.nil) tk (ga_o (pv 0) ga_nil))) (dss_cons (ds_set (i := 3) (de_call G_law_number (.inl rfl) (hr.mono (by decide)) rfl (m__law_number KX G c) K_law_number B_law_number .nil (fun _ => Reps.nil) tk (ga_o (pv 0) ga_nil)) sc_law_ratios.nd rfl (by first | exact Or.inl rfl | exact Or.inr rfl)) (dss_cons (ds_set (i := 4) (de_call G_law_number (.inl rfl) (hr.mono (by decide)) rfl (m__law_number KX G c) K_law_number B_law_number .nil (fun _ => Reps.nil) tk (ga_o (pv 0) ga_nil)) sc_law_ratios.nd rfl (by first | exact Or.inl rfl | exact Or.inr rfl)) (dss_cons (ds_set (i := 3) (de_ifExp (dt_cmp op_ne cd_neS (de_var (pv 3)) de_int) (de_var (pv 3)) de_int) sc_law_ratios.nd rfl (by first | exact Or.inl rfl | exact Or.inr rfl)) (dss_cons (ds_set (i := 4) (de_ifExp (dt_cmp op_ne cd_neS (de_var (pv 4)) de_int) (de_var (pv 4)) (de_un un_neg ud_neg de_int)) sc_law_ratios.nd rfl (by first | exact Or.inl rfl | exact Or.inr rfl)) (dss_cons (ds_if (dt_cmp op_eq cd_eqS (de_call G_law_take (.inl rfl) (hr.mono (by decide)) rfl (m__law_take KX G c) K_law_take B_law_take .nil (fun _ => Reps.nil) tk (ga_o (pv 0) (ga_p de_int ga_nil))) de_int) (dss_one (ds_par (i := 2) (j := 4) rfl sc_law_ratios.nd rfl rfl (by decide) rfl rfl (de_op2 op_mulA od_mul (de_var (pv 1)) de_int) (de_op2 op_mulA od_mul (de_var (pv 3)) de_int))) dss_nil) (dss_cons (ds_par (i := 5) (j := 6) rfl sc_law_ratios.nd rfl rfl (by decide) rfl rfl (de_call G_ratio (.inl rfl) (hr.mono (by decide)) rfl (m_ratio KX G c) K_ratio B_ratio .nil (fun _ => Reps.nil) tk (ga_p (de_var (pv 1)) (ga_p (de_var (pv 3)) ga_nil))) (de_call G_ratio (.inl rfl) (hr.mono (by decide)) rfl (m_ratio KX G c) K_ratio B_ratio .nil (fun _ => Reps.nil) tk (ga_p (de_var (pv 2)) (ga_p (de_var (pv 4)) ga_nil)))) (dss_cons (ds_if (dt_w (dw_or (dt_not (dt_tr rfl (de_call G_law_is_ratio (.inl rfl) (hr.mono (by decide)) rfl (m__law_is_ratio KX G c) K_law_is_ratio B_law_is_ratio .nil (fun _ => Reps.nil) tk (ga_p (de_var (pv 5)) (ga_p (de_var (pv 1)) (ga_p (de_var (pv 3)) ga_nil)))) (by intro _; rfl))) (dw_or1 (dt_not (dt_tr rfl (de_call G_law_is_ratio (.inl rfl) (hr.mono (by decide)) rfl (m__law_is_ratio KX G c) K_law_is_ratio B_law_is_ratio .nil (fun _ => Reps.nil) tk (ga_p (de_var (pv 6)) (ga_p (de_var (pv 2)) (ga_p (de_var (pv 4)) ga_nil)))) (by intro _; rfl)))))) (dss_one (ds_ret de_bl)) dss_nil) (dss_cons (ds_if (dt_w (dw_or (dt_not (dt_tr rfl (de_call G_law_refused (.inl rfl) (hr.mono (by decide)) rfl (m__law_refused KX G c) K_law_refused B_law_refused .nil (fun _ => Reps.nil) tk (ga_p (de_var (pv 1)) ga_nil)) (by intro _; rfl))) (dw_or1 (dt_cmp (op_neD hr.units) cd_neD (de_call G_ratio (.inl rfl) (hr.mono (by decide)) rfl (m_ratio KX G c) K_ratio B_ratio .nil (fun _ => Reps.nil) tk (ga_p de_int (ga_p (de_var (pv 3)) ga_nil))) (de_tup (da_cons de_int (da_cons de_int da_nil)) (pures_cons (pures_cons pures_nil))))))) (dss_one (ds_ret de_bl)) dss_nil) (dss_cons (ds_if (dt_not (dt_tr rfl (de_call G_law_is_ratio (.inl rfl) (hr.mono (by decide)) rfl (m__law_is_ratio KX G c) K_law_is_ratio B_law_is_ratio .nil (fun _ => Reps.nil) tk (ga_p (de_call G_ratio_sum (.inl rfl) (hr.mono (by decide)) rfl (m_ratio_sum KX G c) K_ratio_sum B_ratio_sum .nil (fun _ => Reps.nil) tk (ga_p (de_var (pv 5)) (ga_p (de_var (pv 6)) ga_nil))) (ga_p (de_op2 op_add od_add (de_op2 op_mulA od_mul (de_var (pv 1)) (de_var (pv 4))) (de_op2 op_mulA od_mul (de_var (pv 2)) (de_var (pv 3)))) (ga_p (de_op2 op_mulA od_mul (de_var (pv 3)) (de_var (pv 4))) ga_nil)))) (by intro _; rfl))) (dss_one (ds_ret de_bl)) dss_nil) (dss_cons (ds_if (dt_not (dt_tr rfl (de_call G_law_is_ratio (.inl rfl) (hr.mono (by decide)) rfl (m__law_is_ratio KX G c) K_law_is_ratio B_law_is_ratio .nil (fun _ => Reps.nil) tk (ga_p (de_call G_ratio_product (.inl rfl) (hr.mono (by decide)) rfl (m_ratio_product KX G c) K_ratio_product B_ratio_product .nil (fun _ => Reps.nil) tk (ga_p (de_var (pv 5)) (ga_p (de_var (pv 6)) ga_nil))) (ga_p (de_op2 op_mulA od_mul (de_var (pv 1)) (de_var (pv 2))) (ga_p (de_op2 op_mulA od_mul (de_var (pv 3)) (de_var (pv 4))) ga_nil)))) (by intro _; rfl))) (dss_one (ds_ret de_bl)) dss_nil) (dss_cons (ds_set (i := 7) (de_op2 op_mulA od_mul (de_op2 op_sub od_sub (de_op2 op_mulA od_mul (de_var (pv 1)) (de_var (pv 4))) (de_op2 op_mulA od_mul (de_var (pv 2)) (de_var (pv 3)))) (de_ifExp (dt_cmp op_gt cd_c2 (de_op2 op_mulA od_mul (de_var (pv 3)) (de_var (pv 4))) de_int) de_int (de_un un_neg ud_neg de_int))) sc_law_ratios.nd rfl (by first | exact Or.inl rfl | exact Or.inr rfl)) (dss_cons (ds_set (i := 8) (de_ifExp (dt_cmp op_eq cd_eqS (de_var (pv 7)) de_int) de_int (de_ifExp (dt_cmp op_gt cd_c2 (de_var (pv 7)) de_int) de_int (de_un un_neg ud_neg de_int))) sc_law_ratios.nd rfl (by first | exact Or.inl rfl | exact Or.inr rfl)) (dss_one (ds_ret (de_and (de_cmp op_eq cd_eqS (de_call G_compare_ratios (.inl rfl) (hr.mono (by decide)) rfl (m_compare_ratios KX G c) K_compare_ratios B_compare_ratios .nil (fun _ => Reps.nil) tk (ga_p (de_var (pv 5)) (ga_p (de_var (pv 6)) ga_nil))) (de_var (pv 8))) (de_and (de_cmp op_eq cd_eqS (de_call G_compare_ratios (.inl rfl) (hr.mono (by decide)) rfl (m_compare_ratios KX G c) K_compare_ratios B_compare_ratios .nil (fun _ => Reps.nil) tk (ga_p (de_var (pv 6)) (ga_p (de_var (pv 5)) ga_nil))) (de_un un_neg ud_neg (de_var (pv 8)))) (de_one (de_cmp op_eq cd_eqS (de_call G_compare_ratios (.inl rfl) (hr.mono (by decide)) rfl (m_compare_ratios KX G c) K_compare_ratios B_compare_ratios .nil (fun _ => Reps.nil) tk (ga_p (de_var (pv 5)) (ga_p (de_var (pv 5)) ga_nil))) de_int)))))))))))))))))))
theorem ok_law_wholes (KX : K.In h) (G : h.Ns mainGlobals mg) (c : SaysU fa fn ex K) : ∃ fd, FnOk P w K mg base (L2.CX P w) 4 (He.ga K "_law_wholes") fd ["_law_bag_here"] (spF (tab K) (kdOf false) 1 F_law_wholes) ∧ Binds K fd ["_law_bag_here"] [] ∧ PySem.W.keepIn K (.ref (He.ga K "_law_wholes")) = true := by
  obtain ⟨fd, F⟩ := c.d.def_ 18 (d := d_law_wholes) rfl
  obtain ⟨fd_law_number, G_law_number, B_law_number, K_law_number⟩ := ok_law_number (P := P) (w := w) (base := base) KX G c
  obtain ⟨fd_law_of, G_law_of, B_law_of, K_law_of⟩ := ok_law_of (P := P) (w := w) (base := base) KX G c
  obtain ⟨fd_law_take, G_law_take, B_law_take, K_law_take⟩ := ok_law_take (P := P) (w := w) (base := base) KX G c
  obtain ⟨fd_is_whole, G_is_whole, B_is_whole, K_is_whole⟩ := ok_is_whole (P := P) (w := w) (base := base) KX G c
  refine ⟨fd, fn_ok F sc_law_wholes (by decide) fun cdv A outer s H E hr => ?_, F.bindsN fun _ _ _ _ _ _ us hl => match us, hl with | [_], _ => rfl, F.kp⟩
  have tk := L2.takes_of (X := cxOf (L2.CX P w) P w K mg base N_law_wholes "_law_wholes" (defScope s_law_wholes) (He.ga K "_law_wholes") cdv A outer s H E) rfl rfl rfl rfl
  have hp := L2.passes_of (X := cxOf (L2.CX P w) P w K mg base N_law_wholes "_law_wholes" (defScope s_law_wholes) (He.ga K "_law_wholes") cdv A outer s H E) rfl
  exact (dss_cons (ds_set (i := 1) (de_call G_law_number (.inl rfl) (hr.mono (by decide)) rfl (m__law_number KX G c) K_law_number B_law_number .nil (fun _ => Reps.nil) tk (ga_o (pv 0) ga_nil)) sc_law_wholes.nd rfl (by first | exact Or.inl rfl | exact Or.inr rfl)) (dss_cons (ds_set (i := 2) (de_op2 op_add od_add (de_var (pv 1)) (de_call G_law_of (.inl rfl) (hr.mono (by decide)) rfl (m__law_of KX G c) K_law_of B_law_of .nil (fun _ => Reps.nil) tk (ga_o (pv 0) (ga_p (de_frz (de_lst (da_cons de_int (da_cons de_int (da_cons de_int (da_cons (de_op2 op_pow od_pow de_int de_int) da_nil)))) (pures_cons (pures_cons (pures_cons (pures_cons pures_nil)))))) ga_nil)))) sc_law_wholes.nd rfl (by first | exact Or.inl rfl | exact Or.inr rfl)) (dss_cons (ds_set (i := 3) (de_op2 op_add od_add (de_var (pv 1)) (de_call G_law_take (.inl rfl) (hr.mono (by decide)) rfl (m__law_take KX G c) K_law_take B_law_take .nil (fun _ => Reps.nil) tk (ga_o (pv 0) (ga_p (de_op2 op_add od_add (de_op2 op_sub od_sub (de_var (pv 2)) (de_var (pv 1))) de_int) ga_nil)))) sc_law_wholes.nd rfl (by first | exact Or.inl rfl | exact Or.inr rfl)) (dss_cons (ds_setLc (i := 4) (own := [("_law_one", 6)]) rfl sc_law_wholes.nd rfl rfl (sw_true rfl rfl rfl (by decide +kernel)) (di_list rfl (de_frz (de_lst (da_cons (de_var (pv 1)) (da_cons (de_var (pv 2)) (da_cons (de_var (pv 3)) (da_cons (de_op2 op_sub od_sub (de_var (pv 1)) de_int) (da_cons (de_op2 op_add od_add (de_var (pv 2)) de_int) da_nil))))) (pures_cons (pures_cons (pures_cons (pures_cons (pures_cons pures_nil)))))))) (blkOk_by (by first | rfl | decide +kernel)) (fun _ _ _ _ _ => (dg_name (i := 6) sc_law_wholes.nd rfl (by first | exact Or.inl rfl | exact Or.inr rfl))) (fun _ _ _ _ _ => dts_nil) (fun _ _ _ _ _ => (de_call G_is_whole (.inl rfl) (hr.mono (by decide)) rfl (m_is_whole KX G c) K_is_whole B_is_whole .nil (fun _ => Reps.nil) tk0 (ga_p (de_var (pv 6)) (ga_p (de_var (pv 1)) (ga_p (de_var (pv 2)) ga_nil)))))) (dss_cons (ds_if (dt_cmp (op_neD hr.units) cd_neD (de_var (pv 4)) (de_lst (da_cons de_bl (da_cons de_bl (da_cons de_bl (da_cons de_bl (da_cons de_bl da_nil))))) (pures_cons (pures_cons (pures_cons (pures_cons (pures_cons pures_nil))))))) (dss_one (ds_ret de_bl)) dss_nil) (dss_cons (ds_set (i := 5) (de_frz (de_lst (da_cons de_non (da_cons de_str (da_cons (de_tup (da_cons de_int da_nil) (pures_cons pures_nil)) (da_cons (de_frz (de_lst (da_cons de_int da_nil) (pures_cons pures_nil))) (da_cons de_str (da_cons de_bl (da_cons de_bl da_nil))))))) (pures_cons (pures_cons (pures_cons (pures_cons (pures_cons (pures_cons (pures_cons pures_nil))))))))) sc_law_wholes.nd rfl (by first | exact Or.inl rfl | exact Or.inr rfl)) (dss_cons (ds_setLc (i := 4) (own := [("_law_one", 6)]) rfl sc_law_wholes.nd rfl rfl (sw_true rfl rfl rfl (by decide +kernel)) (di_list rfl (de_var (pv 5))) (blkOk_by (by first | rfl | decide +kernel)) (fun _ _ _ _ _ => (dg_name (i := 6) sc_law_wholes.nd rfl (by first | exact Or.inl rfl | exact Or.inr rfl))) (fun _ _ _ _ _ => dts_nil) (fun _ _ _ _ _ => (de_call G_is_whole (.inl rfl) (hr.mono (by decide)) rfl (m_is_whole KX G c) K_is_whole B_is_whole .nil (fun _ => Reps.nil) tk0 (ga_p (de_var (pv 6)) (ga_p (de_un un_neg ud_neg de_int) (ga_p de_int ga_nil)))))) (dss_one (ds_ret (de_and (de_cmp (op_eqD hr.units) cd_eqD (de_var (pv 4)) (de_repL (de_lst (da_cons de_bl da_nil) (pures_cons pures_nil)) de_int)) (de_and (de_cmp op_isBl cd_isB (de_call G_is_whole (.inl rfl) (hr.mono (by decide)) rfl (m_is_whole KX G c) K_is_whole B_is_whole .nil (fun _ => Reps.nil) tk (ga_p de_int (ga_p (de_un un_neg ud_neg de_int) (ga_p de_int ga_nil)))) de_bl) (de_one (de_cmp op_isBl cd_isB (de_call G_is_whole (.inl rfl) (hr.mono (by decide)) rfl (m_is_whole KX G c) K_is_whole B_is_whole .nil (fun _ => Reps.nil) tk (ga_p de_int (ga_p de_int (ga_p de_int ga_nil)))) de_bl)))))))))))))
theorem ok_law_day_sets (KX : K.In h) (G : h.Ns mainGlobals mg) (c : SaysU fa fn ex K) : ∃ fd, FnOk P w K mg base (L2.CX P w) 3 (He.ga K "_law_day_sets") fd ["_law_bag_here"] (spF (tab K) (kdOf false) 1 F_law_day_sets) ∧ Binds K fd ["_law_bag_here"] [] ∧ PySem.W.keepIn K (.ref (He.ga K "_law_day_sets")) = true := by
  obtain ⟨fd, F⟩ := c.d.def_ 19 (d := d_law_day_sets) rfl
  obtain ⟨fd_law_of, G_law_of, B_law_of, K_law_of⟩ := ok_law_of (P := P) (w := w) (base := base) KX G c
  obtain ⟨fd_law_take, G_law_take, B_law_take, K_law_take⟩ := ok_law_take (P := P) (w := w) (base := base) KX G c
  obtain ⟨fd_days_in, G_days_in, B_days_in, K_days_in⟩ := ok_days_in (P := P) (w := w) (base := base) KX G c
  obtain ⟨fd_set_of, G_set_of, B_set_of, K_set_of⟩ := ok_set_of (P := P) (w := w) (base := base) KX G c
  obtain ⟨fd_size, G_size, B_size, K_size⟩ := ok_size (P := P) (w := w) (base := base) KX G c
  obtain ⟨fd_within, G_within, B_within, K_within⟩ := ok_within (P := P) (w := w) (base := base) KX G c
  refine ⟨fd, fn_ok F sc_law_day_sets (by decide) fun cdv A outer s H E hr => ?_, F.bindsN fun _ _ _ _ _ _ us hl => match us, hl with | [_], _ => rfl, F.kp⟩
  have tk := L2.takes_of (X := cxOf (L2.CX P w) P w K mg base N_law_day_sets "_law_day_sets" (defScope s_law_day_sets) (He.ga K "_law_day_sets") cdv A outer s H E) rfl rfl rfl rfl
  have hp := L2.passes_of (X := cxOf (L2.CX P w) P w K mg base N_law_day_sets "_law_day_sets" (defScope s_law_day_sets) (He.ga K "_law_day_sets") cdv A outer s H E) rfl
  exact (dss_cons (ds_set (i := 1) (de_frz (de_lc (own := [("_law_day", 9)]) rfl sc_law_day_sets.nd (di_range1 rfl (m_range KX G c) (de_call G_law_of (.inl rfl) (hr.mono (by decide)) rfl (m__law_of KX G c) K_law_of B_law_of .nil (fun _ => Reps.nil) tk (ga_o (pv 0) (ga_p (de_frz (de_lst (da_cons de_int (da_cons de_int (da_cons de_int (da_cons de_int da_nil)))) (pures_cons (pures_cons (pures_cons (pures_cons pures_nil)))))) ga_nil)))) (blkOk_by (by first | rfl | decide +kernel)) (fun _ _ _ _ _ => (dg_name (i := 9) sc_law_day_sets.nd rfl (by first | exact Or.inl rfl | exact Or.inr rfl))) (fun _ _ _ _ _ => (dts_one (dt_cmp op_eq cd_eqS (de_call G_law_take (.inl rfl) (hr.mono (by decide)) rfl (m__law_take KX G c) K_law_take B_law_take .nil (fun _ => Reps.nil) tk0 (ga_o (pv 0) (ga_p de_int ga_nil))) de_int))) (fun _ _ _ _ _ => (de_var (pv 9))))) sc_law_day_sets.nd rfl (by first | exact Or.inl rfl | exact Or.inr rfl)) (dss_cons (ds_set (i := 2) (de_frz (de_lc (own := [("_law_day", 9)]) rfl sc_law_day_sets.nd (di_range1 rfl (m_range KX G c) de_int) (blkOk_by (by first | rfl | decide +kernel)) (fun _ _ _ _ _ => (dg_name (i := 9) sc_law_day_sets.nd rfl (by first | exact Or.inl rfl | exact Or.inr rfl))) (fun _ _ _ _ _ => (dts_one (dt_cmp op_gt cd_c2 (de_call G_law_take (.inl rfl) (hr.mono (by decide)) rfl (m__law_take KX G c) K_law_take B_law_take .nil (fun _ => Reps.nil) tk0 (ga_o (pv 0) (ga_p de_int ga_nil))) de_int))) (fun _ _ _ _ _ => (de_var (pv 9))))) sc_law_day_sets.nd rfl (by first | exact Or.inl rfl | exact Or.inr rfl)) (dss_cons (ds_if (dt_cmp op_eq cd_eqS (de_call G_law_take (.inl rfl) (hr.mono (by decide)) rfl (m__law_take KX G c) K_law_take B_law_take .nil (fun _ => Reps.nil) tk (ga_o (pv 0) (ga_p de_int ga_nil))) de_int) (dss_one (ds_set (i := 2) (de_frz (de_op2 op_catL od_catL (de_var (pv 2)) (de_lc (own := [("_law_day", 9)]) rfl sc_law_day_sets.nd (di_list rfl (de_var (pv 1))) (blkOk_by (by first | rfl | decide +kernel)) (fun _ _ _ _ _ => (dg_name (i := 9) sc_law_day_sets.nd rfl (by first | exact Or.inl rfl | exact Or.inr rfl))) (fun _ _ _ _ _ => (dts_one (dt_cmp (op_notInD (hu65 hr)) cd_notInD (de_var (pv 9)) (de_var (pv 2))))) (fun _ _ _ _ _ => (de_var (pv 9)))))) sc_law_day_sets.nd rfl (by first | exact Or.inl rfl | exact Or.inr rfl))) dss_nil) (dss_cons (ds_set (i := 3) (de_callB (cr_sum rfl) cd_sum rfl (m_sum KX G c) (by decide +kernel) (da_cons (de_lc (own := [("_law_day", 9)]) rfl sc_law_day_sets.nd (di_list rfl (de_var (pv 1))) (blkOk_by (by first | rfl | decide +kernel)) (fun _ _ _ _ _ => (dg_name (i := 9) sc_law_day_sets.nd rfl (by first | exact Or.inl rfl | exact Or.inr rfl))) (fun _ _ _ _ _ => dts_nil) (fun _ _ _ _ _ => (de_op2 op_shlW od_shl de_int (de_var (pv 9))))) da_nil)) sc_law_day_sets.nd rfl (by first | exact Or.inl rfl | exact Or.inr rfl)) (dss_cons (ds_set (i := 4) (de_callB (cr_sum rfl) cd_sum rfl (m_sum KX G c) (by decide +kernel) (da_cons (de_lc (own := [("_law_day", 9)]) rfl sc_law_day_sets.nd (di_list rfl (de_var (pv 2))) (blkOk_by (by first | rfl | decide +kernel)) (fun _ _ _ _ _ => (dg_name (i := 9) sc_law_day_sets.nd rfl (by first | exact Or.inl rfl | exact Or.inr rfl))) (fun _ _ _ _ _ => dts_nil) (fun _ _ _ _ _ => (de_op2 op_shlW od_shl de_int (de_var (pv 9))))) da_nil)) sc_law_day_sets.nd rfl (by first | exact Or.inl rfl | exact Or.inr rfl)) (dss_cons (ds_set (i := 5) (de_frz (de_op2 op_catL od_catL (de_lc (own := [("_law_k", 10)]) rfl sc_law_day_sets.nd (di_range1 rfl (m_range KX G c) (de_callB call_len cd_len rfl (m_len KX G c) boot_len (da_cons (de_var (pv 1)) da_nil))) (blkOk_by (by first | rfl | decide +kernel)) (fun _ _ _ _ _ => (dg_name (i := 10) sc_law_day_sets.nd rfl (by first | exact Or.inl rfl | exact Or.inr rfl))) (fun _ _ _ _ _ => dts_nil) (fun _ _ _ _ _ => (de_ix rfl (de_var (pv 1)) (de_op2 op_sub od_sub (de_op2 op_sub od_sub (de_callB call_len cd_len rfl (m_len KX G c) boot_len (da_cons (de_var (pv 1)) da_nil)) de_int) (de_var (pv 10))) (fun _ _ => rfl)))) (de_slL rfl (de_var (pv 1)) do_none (do_some de_int)))) sc_law_day_sets.nd rfl (by first | exact Or.inl rfl | exact Or.inr rfl)) (dss_cons (ds_set (i := 6) (de_frz (de_callTy call_list_of cd_list rfl (m_list KX G c) (by decide +kernel) (da_cons (de_var (pv 5)) da_nil))) sc_law_day_sets.nd rfl (by first | exact Or.inl rfl | exact Or.inr rfl)) (dss_cons (ds_set (i := 7) (de_call G_days_in (.inl rfl) (hr.mono (by decide)) rfl (m_days_in KX G c) K_days_in B_days_in .nil (fun _ => Reps.nil) tk (ga_p (de_var (pv 3)) ga_nil)) sc_law_day_sets.nd rfl (by first | exact Or.inl rfl | exact Or.inr rfl)) (dss_cons (ds_if (dt_w (dw_or (dt_not (dt_tr rfl (de_isi (n := "tuple") rfl rfl (m_isinstance KX G c) rfl (m_tuple KX G c) (by decide +kernel) (de_var (pv 7))) (by intro _; rfl))) (dw_or (dt_cmp (op_neD hr.units) cd_neD (de_callTy call_list_of cd_list rfl (m_list KX G c) (by decide +kernel) (da_cons (de_var (pv 7)) da_nil)) (de_var (pv 1))) (dw_or1 (dt_cmp (op_neD hr.units) cd_neD (de_call G_days_in (.inl rfl) (hr.mono (by decide)) rfl (m_days_in KX G c) K_days_in B_days_in .nil (fun _ => Reps.nil) tk (ga_p de_int ga_nil)) (de_tup da_nil pures_nil)))))) (dss_one (ds_ret de_bl)) dss_nil) (dss_cons (ds_if (dt_w (dw_or (dt_cmp op_ne cd_neS (de_call G_set_of (.inl rfl) (hr.mono (by decide)) rfl (m_set_of KX G c) K_set_of B_set_of .nil (fun _ => Reps.nil) tk (ga_p (de_var (pv 5)) ga_nil)) (de_var (pv 3))) (dw_or (dt_cmp op_ne cd_neS (de_call G_set_of (.inl rfl) (hr.mono (by decide)) rfl (m_set_of KX G c) K_set_of B_set_of .nil (fun _ => Reps.nil) tk (ga_p (de_callTy call_tuple_of cd_tuple rfl (m_tuple KX G c) (by decide +kernel) (da_cons (de_var (pv 1)) da_nil)) ga_nil)) (de_var (pv 3))) (dw_or (dt_cmp op_ne cd_neS (de_call G_set_of (.inl rfl) (hr.mono (by decide)) rfl (m_set_of KX G c) K_set_of B_set_of .nil (fun _ => Reps.nil) tk (ga_p (de_frz (de_lst da_nil pures_nil)) ga_nil)) de_int) (dw_or1 (dt_cmp (op_neD hr.units) cd_neD (de_var (pv 5)) (de_var (pv 6)))))))) (dss_one (ds_ret de_bl)) dss_nil) (dss_cons (ds_if (dt_w (dw_or (dt_cmp op_ne cd_neS (de_call G_size (.inl rfl) (hr.mono (by decide)) rfl (m_size KX G c) K_size B_size .nil (fun _ => Reps.nil) tk (ga_p (de_var (pv 3)) ga_nil)) (de_callB call_len cd_len rfl (m_len KX G c) boot_len (da_cons (de_var (pv 1)) da_nil))) (dw_or1 (dt_cmp op_ne cd_neS (de_call G_size (.inl rfl) (hr.mono (by decide)) rfl (m_size KX G c) K_size B_size .nil (fun _ => Reps.nil) tk (ga_p (de_var (pv 4)) ga_nil)) (de_callB call_len cd_len rfl (m_len KX G c) boot_len (da_cons (de_var (pv 2)) da_nil)))))) (dss_one (ds_ret de_bl)) dss_nil) (dss_cons (ds_set (i := 8) (de_cmp (op_eqD hr.units) cd_eqD (de_lc (own := [("_law_day", 9)]) rfl sc_law_day_sets.nd (di_list rfl (de_var (pv 1))) (blkOk_by (by first | rfl | decide +kernel)) (fun _ _ _ _ _ => (dg_name (i := 9) sc_law_day_sets.nd rfl (by first | exact Or.inl rfl | exact Or.inr rfl))) (fun _ _ _ _ _ => (dts_one (dt_cmp (op_notInD (hu65 hr)) cd_notInD (de_var (pv 9)) (de_var (pv 2))))) (fun _ _ _ _ _ => (de_var (pv 9)))) (de_lst da_nil pures_nil)) sc_law_day_sets.nd rfl (by first | exact Or.inl rfl | exact Or.inr rfl)) (dss_cons (ds_if (dt_w (dw_or (dt_cmp op_ne cd_neS (de_call G_within (.inl rfl) (hr.mono (by decide)) rfl (m_within KX G c) K_within B_within .nil (fun _ => Reps.nil) tk (ga_p (de_var (pv 3)) (ga_p (de_var (pv 4)) ga_nil))) (de_var (pv 8))) (dw_or (dt_cmp op_notBl cd_notB (de_call G_within (.inl rfl) (hr.mono (by decide)) rfl (m_within KX G c) K_within B_within .nil (fun _ => Reps.nil) tk (ga_p (de_var (pv 3)) (ga_p (de_var (pv 3)) ga_nil))) de_bl) (dw_or1 (dt_cmp op_notBl cd_notB (de_call G_within (.inl rfl) (hr.mono (by decide)) rfl (m_within KX G c) K_within B_within .nil (fun _ => Reps.nil) tk (ga_p de_int (ga_p (de_var (pv 4)) ga_nil))) de_bl))))) (dss_one (ds_ret de_bl)) dss_nil) (dss_one (ds_ret (de_cmp op_eq cd_eqS (de_call G_within (.inl rfl) (hr.mono (by decide)) rfl (m_within KX G c) K_within B_within .nil (fun _ => Reps.nil) tk (ga_p (de_var (pv 4)) (ga_p (de_var (pv 3)) ga_nil))) (de_cmp (op_eqD hr.units) cd_eqD (de_lc (own := [("_law_day", 9)]) rfl sc_law_day_sets.nd (di_list rfl (de_var (pv 2))) (blkOk_by (by first | rfl | decide +kernel)) (fun _ _ _ _ _ => (dg_name (i := 9) sc_law_day_sets.nd rfl (by first | exact Or.inl rfl | exact Or.inr rfl))) (fun _ _ _ _ _ => (dts_one (dt_cmp (op_notInD (hu65 hr)) cd_notInD (de_var (pv 9)) (de_var (pv 1))))) (fun _ _ _ _ _ => (de_var (pv 9)))) (de_lst da_nil pures_nil))))))))))))))))))
theorem ok_law (KX : K.In h) (G : h.Ns mainGlobals mg) (c : SaysU fa fn ex K) : ∃ fd, (∀ (s : Shared) (v : Value), PySem.BindsTo s fd ⟨[v], []⟩ [("_law_script", v)]) ∧ ∀ base : Heap, FnOk P w K mg base (L2.CX P w) 6 (He.ga K "law") fd ["_law_script"] (spF (tab K) .pure 1 F_law) := by
  obtain ⟨fd, F⟩ := c.d.def_ 20 (d := d_law) rfl
  have b := FunD.bindsA (ps := ["_law_script"]) F fun _ _ _ _ _ _ us hl => match us, hl with | [_], _ => rfl
  refine ⟨fd, fun s v => b s [v] rfl, fun base => ?_⟩
  obtain ⟨fd_law_bag, G_law_bag, B_law_bag, K_law_bag⟩ := ok_law_bag (P := P) (w := w) (base := base) KX G c
  obtain ⟨fd_law_day_sets, G_law_day_sets, B_law_day_sets, K_law_day_sets⟩ := ok_law_day_sets (P := P) (w := w) (base := base) KX G c
  obtain ⟨fd_law_ratios, G_law_ratios, B_law_ratios, K_law_ratios⟩ := ok_law_ratios (P := P) (w := w) (base := base) KX G c
  obtain ⟨fd_law_wholes, G_law_wholes, B_law_wholes, K_law_wholes⟩ := ok_law_wholes (P := P) (w := w) (base := base) KX G c
  refine fn_ok F sc_law (by decide) fun cdv A outer s H E hr => ?_
  have tk := L2.takes_of (X := cxOf (L2.CX P w) P w K mg base N_law "law" (defScope s_law) (He.ga K "law") cdv A outer s H E) rfl rfl rfl rfl
  have hp := L2.passes_of (X := cxOf (L2.CX P w) P w K mg base N_law "law" (defScope s_law) (He.ga K "law") cdv A outer s H E) rfl
  exact (dss_cons (ds_for hp rfl (di_range1 rfl (m_range KX G c) (de_callB (call_max2 rfl) cd_ii rfl (m_max KX G c) (by decide +kernel) (da_cons de_int (da_cons (de_callB (call_min2 rfl) cd_ii rfl (m_min KX G c) (by decide +kernel) (da_cons de_int (da_cons (de_callB call_len cd_len rfl (m_len KX G c) boot_len (da_cons (de_var (pv 0)) da_nil)) da_nil))) da_nil)))) (dg_name (i := 1) sc_law.nd rfl (by first | exact Or.inl rfl | exact Or.inr rfl)) (dss_cons (ds_setO (i := 2) (de_call G_law_bag (.inr rfl) (hr.mono (by decide)) rfl (m__law_bag KX G c) K_law_bag B_law_bag .nil (fun _ => Reps.nil) tk (ga_p (de_var (pv 0)) (ga_p (de_var (pv 1)) ga_nil))) sc_law.nd rfl (by first | exact Or.inl rfl | exact Or.inr rfl)) (dss_one (ds_for hp rfl (di_range1 rfl (m_range KX G c) de_int) (dg_name (i := 3) sc_law.nd rfl (by first | exact Or.inl rfl | exact Or.inr rfl)) (dss_one (ds_if (dt_w (dw_or (dt_not (dt_tr rfl (de_call G_law_ratios (.inl rfl) (hr.mono (by decide)) rfl (m__law_ratios KX G c) K_law_ratios B_law_ratios .nil (fun _ => Reps.nil) tk (ga_o (pv 2) ga_nil)) (by intro _; rfl))) (dw_or (dt_not (dt_tr rfl (de_call G_law_wholes (.inl rfl) (hr.mono (by decide)) rfl (m__law_wholes KX G c) K_law_wholes B_law_wholes .nil (fun _ => Reps.nil) tk (ga_o (pv 2) ga_nil)) (by intro _; rfl))) (dw_or1 (dt_not (dt_tr rfl (de_call G_law_day_sets (.inl rfl) (hr.mono (by decide)) rfl (m__law_day_sets KX G c) K_law_day_sets B_law_day_sets .nil (fun _ => Reps.nil) tk (ga_o (pv 2) ga_nil)) (by intro _; rfl))))))) (dss_one (ds_ret de_bl)) dss_nil)))))) (dss_one (ds_ret de_bl)))
end
end Lw

set_option linter.all false
set_option Elab.async false
set_option maxRecDepth 100000
set_option maxHeartbeats 4000000
namespace Lw
open PySem PySem.Spec L2 Ue
abbrev R : PySem.W.OpenRow := PySem.W.OpenLaw.row PySem.Challenge.rw_usualdays_k01_ratios_and_day_sets
abbrev hk : PySem.W.Hook := hookU 4 fa fn ex
def ob (s : PySem.W.SharedT) : AlU := obsU 4 fa fn ex (HandSHeadRun.getT s)
theorem ob_eq (s : PySem.W.SharedT) : ob s = hk.obs s.abs := obsU_eq (HandSHeadRun.getT_eq s)
theorem run (w : World) : HandSHeadRun.RunEqI R (PySem.W.view R.prog [0, 26]) hk ob 3000 ((["DaysError", "BadRatio", "is_whole", "ratio", "compare_ratios", "ratio_sum", "ratio_product", "days_in", "set_of", "size", "within", "_law_bag", "_law_take", "_law_of", "_law_number", "_law_divisor", "_law_is_ratio", "_law_refused", "_law_ratios", "_law_wholes", "_law_day_sets"] : List PySem.Str)) w := by
  unfold HandSHeadRun.RunEqI
  kernel_rfl
end Lw

set_option linter.all false
set_option Elab.async false
set_option maxRecDepth 100000
set_option maxHeartbeats 4000000
set_option exponentiation.threshold 5000
namespace Lw
open PySem Ue
theorem take_ok {c m k n : Int} (h0 : 0 < n) (hn : Mid n) : ∃ d c' m' k', F_law_take [.own [.int c, .int m, .int k], .v (.int n)] = .ok (.int d) [.own [.int c', .int m', .int k'], .v (.int n)] ∧ 0 ≤ d ∧ d < n := by
  have e1 : n ≠ 0 := by omega
  have e2 := divOk_mid (i := c) e1 hn
  by_cases hc : 0 < c
  · refine ⟨c.fmod n, c.fdiv n, m, k, ?_, Int.fmod_nonneg_of_pos _ h0, Int.fmod_lt_of_pos _ h0⟩
    simp [u_law_take, L2.atI, L2.ixN, hc, e1, e2]
  · refine ⟨((((m * 48271 + 11 * (k + 1) + 7).fmod 2147483647 * 16807).fmod 2147483629).fdiv 64).fmod n, c, (m * 48271 + 11 * (k + 1) + 7).fmod 2147483647, k + 1, ?_, Int.fmod_nonneg_of_pos _ h0, Int.fmod_lt_of_pos _ h0⟩
    simp [u_law_take, L2.atI, L2.ixN, hc, e1, e2, mulOk_r, mulOk_l, divOk, small64]
theorem of_ok {c m k : Int} {ns : List Int} (h0 : ns ≠ []) (hn : ns.length < 1000) : ∃ d c' m' k', F_law_of [.own [.int c, .int m, .int k], .v (.lst (ns.map D.int))] = .ok (.int d) [.own [.int c', .int m', .int k'], .v (.lst (ns.map D.int))] ∧ d ∈ ns := by
  have hl : 0 < ns.length := List.length_pos_iff.mpr h0
  obtain ⟨d, c', m', k', e, h1, h2⟩ := take_ok (c := c) (m := m) (k := k) (n := (ns.length : Int)) (by omega) (by unfold Mid; exact Nat.lt_of_lt_of_le (by omega : (ns.length : Int).natAbs < 2 ^ 10) (Nat.pow_le_pow_right (by decide) (by decide)))
  obtain ⟨j, rfl⟩ := Int.eq_ofNat_of_zero_le h1
  have hj : j < ns.length := by omega
  refine ⟨ns[j], c', m', k', ?_, List.getElem_mem hj⟩
  have e3 : L2.atI (ns.map D.int) (j : Int) = some (.int ns[j]) := atI_nat (by rw [List.getElem?_map, List.getElem?_eq_getElem hj]; rfl)
  simp [u_law_of, e, e3]
theorem mid_of {i : Int} (h1 : -2 ^ 800 < i) (h2 : i < 2 ^ 800) : Mid i := by
  unfold Mid
  have : i.natAbs < 2 ^ 800 := by omega
  exact Nat.lt_of_lt_of_le this (Nat.pow_le_pow_right (by decide) (by decide))
theorem number_ok {c m k : Int} : ∃ d c' m' k', F_law_number [.own [.int c, .int m, .int k]] = .ok (.int d) [.own [.int c', .int m', .int k']] ∧ d.natAbs ≤ 6 * 10 ^ 60 := by
  obtain ⟨f, c1, m1, k1, e1, h1⟩ := of_ok (c := c) (m := m) (k := k) (ns := [2, 6, 6, 60, 10 ^ 9, 10 ^ 30, 10 ^ 60]) (by simp) (by simp)
  have hf : 0 ≤ f ∧ f ≤ 10 ^ 60 := by
    simp only [List.mem_cons, List.not_mem_nil, or_false] at h1
    rcases h1 with h | h | h | h | h | h | h <;> subst h <;> decide
  obtain ⟨d, c2, m2, k2, e2, h2, h3⟩ := take_ok (c := c1) (m := m1) (k := k1) (n := 2 * f + 1) (by omega) (mid_of (by omega) (by omega))
  obtain ⟨f2, c3, m3, k3, e3, h4⟩ := of_ok (c := c2) (m := m2) (k := k2) (ns := [1, 1, 1, 6]) (by simp) (by simp)
  have hf2 : f2 = 1 ∨ f2 = 6 := by simpa using h4
  refine ⟨(d - f) * f2, c3, m3, k3, ?_, ?_⟩
  · have q : f2.natAbs < 18446744073709551616 := by rcases hf2 with h | h <;> subst h <;> decide
    simp only [List.map_cons, List.map_nil] at e1 e3
    have w1 : powOk 10 9 = true := by decide
    have w2 : powOk 10 30 = true := by decide
    have w3 : powOk 10 60 = true := by decide
    have z : (7 : Nat) ≤ sizeLine := by rw [show sizeLine = _ from sizeLine_eq]; decide
    have z4 : (4 : Nat) ≤ sizeLine := by rw [show sizeLine = _ from sizeLine_eq]; decide
    have w4 : mulOk 2 f = true := mulOk_l (by decide)
    simp only [show (10 : Int) ^ 9 = 1000000000 by decide, show (10 : Int) ^ 30 = 1000000000000000000000000000000 by decide, show (10 : Int) ^ 60 = 1000000000000000000000000000000000000000000000000000000000000 by decide] at e1
    simp [u_law_number, w1, w2, w3, w4, mulOk_r q, z, z4, e1, e2, e3]
  · rcases hf2 with h | h <;> subst h <;> omega
theorem bag_ok {ns : List Int} {i : Nat} (hl : ns.length ≤ 63) (hi : i < ns.length ∨ i = 0) (hi2 : i < 4) : ∃ c m, F_law_bag [.v (.scr ns), .v (.int (i : Int))] = .ok (.lst [.int c, .int m, .int 0]) [.v (.scr ns), .v (.int (i : Int))] := by
  have z : (3 : Nat) ≤ sizeLine := by rw [show sizeLine = _ from sizeLine_eq]; decide
  have key : ∀ (c0 m0 : Int) (x4 x5 : Option EV), ∃ m e4 e5, forM (tgT [tgN 4, tgN 5]) L_law_bag_0 (enumL (cutD (ns.map D.int) none (some 63))) [some (.v (.scr ns)), some (.v (.int (i : Int))), some (.v (.int c0)), some (.v (.int m0)), x4, x5] = .nx [some (.v (.scr ns)), some (.v (.int (i : Int))), some (.v (.int c0)), some (.v (.int m)), e4, e5] := by
    intro c0 m0 x4 x5
    have step : ∀ d ∈ enumL (cutD (ns.map D.int) none (some 63)), ∀ e, (∃ (m : Int) (y4 y5 : Option EV), e = [some (.v (.scr ns)), some (.v (.int (i : Int))), some (.v (.int c0)), some (.v (.int m)), y4, y5]) → ∃ e1 e2, (tgT [tgN 4, tgN 5]) d e = some e1 ∧ (L_law_bag_0 e1 = .nx e2 ∨ L_law_bag_0 e1 = .cnt e2) ∧ (∃ (m : Int) (y4 y5 : Option EV), e2 = [some (.v (.scr ns)), some (.v (.int (i : Int))), some (.v (.int c0)), some (.v (.int m)), y4, y5]) := by
      rintro d hd e ⟨m, y4, y5, rfl⟩
      unfold enumL at hd
      obtain ⟨j, hj, rfl⟩ := List.mem_map.mp hd
      have hm : ∀ x ∈ cutD (ns.map D.int) none (some 63), ∃ n : Int, x = .int n := fun x hx => by
        unfold cutD at hx
        obtain ⟨n, _, rfl⟩ := List.mem_map.mp (List.mem_of_mem_drop (List.mem_of_mem_take hx))
        exact ⟨n, rfl⟩
      have hj : j < (cutD (ns.map D.int) none (some 63)).length := by simpa using hj
      obtain ⟨n, hn⟩ := hm _ (List.getElem_mem hj)
      have e : (cutD (ns.map D.int) none (some 63)).getD j .non = .int n := by rw [List.getD_eq_getElem?_getD, List.getElem?_eq_getElem hj, hn]; rfl
      rw [e]
      have w1 : mulOk m 40014 = true := mulOk_r (by decide)
      have w2 : mulOk 101 (j : Int) = true := mulOk_l (by decide)
      exact ⟨[some (.v (.scr ns)), some (.v (.int (i : Int))), some (.v (.int c0)), some (.v (.int m)), some (.v (.int j)), some (.v (.int n))], [some (.v (.scr ns)), some (.v (.int (i : Int))), some (.v (.int c0)), some (.v (.int ((m * 40014 + n.fmod 2147483543 + 101 * j).fmod 2147483563))), some (.v (.int j)), some (.v (.int n))], rfl, .inl (by simp [L_law_bag_0, w1, w2]), _, _, _, rfl⟩
    obtain ⟨e2, h1, m, y4, y5, rfl⟩ := forM_inv (g := tgT [tgN 4, tgN 5]) (s := L_law_bag_0) (fun e => ∃ (m : Int) (y4 y5 : Option EV), e = [some (.v (.scr ns)), some (.v (.int (i : Int))), some (.v (.int c0)), some (.v (.int m)), y4, y5]) (enumL (cutD (ns.map D.int) none (some 63))) _ step ⟨m0, x4, x5, rfl⟩
    exact ⟨m, y4, y5, h1⟩
  have w1 : mulOk 6997 (i : Int) = true := mulOk_l (by decide)
  have w2 : powOk 10 18 = true := by decide
  by_cases h : i < ns.length
  · have e3 : L2.atI ns (i : Int) = some ns[i] := atI_nat (List.getElem?_eq_getElem h)
    have h' : ((i : Int) < (ns.length : Int)) = True := eq_true (by omega)
    obtain ⟨m, e4, e5, e⟩ := key (if ns[i] < 0 then -ns[i] else ns[i]) (70003 + 6997 * (i : Int)) none none
    by_cases g : (1000000000000000000 : Int) ≤ (if ns[i] < 0 then -ns[i] else ns[i])
    · refine ⟨(if ns[i] < 0 then -ns[i] else ns[i]), m, ?_⟩
      simp [u_law_bag, e3, h', w1, w2, e, z, g]
    · refine ⟨0, m, ?_⟩
      simp [u_law_bag, e3, h', w1, w2, e, z, g]
  · have h0 : i = 0 := by omega
    subst h0
    have h' : ((0 : Int) < (ns.length : Int)) = False := eq_false (by omega)
    obtain ⟨m, e4, e5, e⟩ := key 0 70003 none none
    refine ⟨0, m, ?_⟩
    simp at e
    simp [u_law_bag, h, show mulOk 6997 0 = true by decide, w2, e, z]
end Lw

set_option linter.all false
set_option Elab.async false
set_option maxRecDepth 100000
set_option maxHeartbeats 4000000
set_option exponentiation.threshold 5000
namespace Lw
open PySem Ue
/-! ratios -/
structure Rt (top bottom p q : Int) : Prop where
  pos : 1 ≤ q
  eq : p * bottom = q * top
  one : Int.gcd p q = 1
  lp : p.natAbs ≤ top.natAbs
  lq : q.natAbs ≤ bottom.natAbs
theorem fdiv_exact {a g : Int} (hg : g ≠ 0) (h : g ∣ a) : a.fdiv g * g = a := by
  obtain ⟨c, rfl⟩ := h
  rw [Int.mul_comm g c, Int.mul_fdiv_cancel _ hg]
theorem ratio_ok {a b : Int} (hb : b ≠ 0) (hm : Mid b) : ∃ p q, F_ratio [.v (.int a), .v (.int b)] = .ok (.tup [.int p, .int q]) [.v (.int a), .v (.int b)] ∧ Rt a b p q := by
  have z : (2 : Nat) ≤ sizeLine := by rw [show sizeLine = _ from sizeLine_eq]; decide
  have hg0 : 0 < Nat.gcd a.natAbs b.natAbs := Nat.gcd_pos_of_pos_right _ (by omega)
  have hgb : Nat.gcd a.natAbs b.natAbs ≤ b.natAbs := Nat.le_of_dvd (by omega) (Nat.gcd_dvd_right _ _)
  generalize hG : Nat.gcd a.natAbs b.natAbs = G at hg0 hgb
  have mg : Mid (G : Int) := by unfold Mid at hm ⊢; omega
  have mg' : Mid (-(G : Int)) := by unfold Mid at hm ⊢; omega
  have hne : (G : Int) ≠ 0 := by omega
  have hne' : -(G : Int) ≠ 0 := by omega
  have da : (G : Int) ∣ a := by rw [← hG]; exact Int.natAbs_dvd_natAbs.mp (by simpa using Nat.gcd_dvd_left a.natAbs b.natAbs)
  have db : (G : Int) ∣ b := by rw [← hG]; exact Int.natAbs_dvd_natAbs.mp (by simpa using Nat.gcd_dvd_right a.natAbs b.natAbs)
  have cop : ∀ p q g : Int, g.natAbs = G → p * g = a → q * g = b → Int.gcd p q = 1 := by
    intro p q g hg hp hq
    have h1 : a.natAbs = p.natAbs * G := by rw [← hp, Int.natAbs_mul, hg]
    have h2 : b.natAbs = q.natAbs * G := by rw [← hq, Int.natAbs_mul, hg]
    have h3 : Nat.gcd p.natAbs q.natAbs * G = G := by rw [← Nat.gcd_mul_right, ← h1, ← h2, hG]
    have h4 : Nat.gcd p.natAbs q.natAbs * G = 1 * G := by omega
    exact Nat.eq_of_mul_eq_mul_right hg0 h4
  have fin : ∀ p q g : Int, g.natAbs = G → p * g = a → q * g = b → 0 < q → Rt a b p q := by
    intro p q g hg hp hq h0
    refine ⟨by omega, by rw [← hp, ← hq]; simp only [Int.mul_comm, Int.mul_left_comm], cop p q g hg hp hq, ?_, ?_⟩
    · rw [← hp, Int.natAbs_mul]; exact Nat.le_mul_of_pos_right _ (by omega)
    · rw [← hq, Int.natAbs_mul]; exact Nat.le_mul_of_pos_right _ (by omega)
  by_cases hneg : b < 0
  · have ea : a.fdiv (-(G : Int)) * (-(G : Int)) = a := fdiv_exact hne' (Int.neg_dvd.mpr da)
    have eb : b.fdiv (-(G : Int)) * (-(G : Int)) = b := fdiv_exact hne' (Int.neg_dvd.mpr db)
    refine ⟨a.fdiv (-(G : Int)), b.fdiv (-(G : Int)), ?_, fin _ _ (-(G : Int)) (by omega) ea eb ?_⟩
    · simp [u_ratio, hb, hneg, gcdI, hG, divOk_mid hne' mg', z]
    · rcases Int.lt_trichotomy (b.fdiv (-(G : Int))) 0 with h | h | h
      · have := Int.mul_pos_of_neg_of_neg h (show -(G : Int) < 0 by omega); omega
      · rw [h] at eb; omega
      · exact h
  · have ea : a.fdiv (G : Int) * (G : Int) = a := fdiv_exact hne da
    have eb : b.fdiv (G : Int) * (G : Int) = b := fdiv_exact hne db
    refine ⟨a.fdiv (G : Int), b.fdiv (G : Int), ?_, fin _ _ (G : Int) (by omega) ea eb ?_⟩
    · simp [u_ratio, hb, hneg, gcdI, hG, divOk_mid hne mg, z]
    · rcases Int.lt_trichotomy (b.fdiv (G : Int)) 0 with h | h | h
      · have := Int.mul_neg_of_neg_of_pos h (show 0 < (G : Int) by omega); omega
      · rw [h] at eb; omega
      · exact h
theorem ratio_bad {a : Int} : F_ratio [.v (.int a), .v (.int 0)] = .exc 1 [] [.v (.int a), .v (.int 0)] := by
  simp [u_ratio]
theorem refused_ok {a : Int} : F_law_refused [.v (.int a)] = .ok (.bl true) [.v (.int a)] := by
  simp [u_law_refused, ratio_bad, caught_BadRatio]
theorem dv_end {a : Nat} {x : Option EV} {d : D} {ds : List D} : forM (tgN 2) L_law_divisor_0 (d :: ds) [some (.v (.int (a : Int))), some (.v (.int 0)), x] = .ret (.int a) [some (.v (.int a)), some (.v (.int 0)), some (.v d)] := by
  simp [forM_c, L_law_divisor_0]
theorem dv_step {a b : Nat} {x : Option EV} {d : D} {ds : List D} (h : b ≠ 0) : forM (tgN 2) L_law_divisor_0 (d :: ds) [some (.v (.int (a : Int))), some (.v (.int (b : Int))), x] = forM (tgN 2) L_law_divisor_0 ds [some (.v (.int (b : Int))), some (.v (.int ((a % b : Nat) : Int))), some (.v d)] := by
  have hne : ((b : Int) ≠ 0) := by omega
  have e1 : (a : Int).fmod (b : Int) = ((a % b : Nat) : Int) := by
    rw [Int.fmod_eq_emod_of_nonneg _ (by omega)]; simp
  simp [forM_c, L_law_divisor_0, h, e1]
theorem dv_loop : ∀ (k a b : Nat) (x : Option EV) (ds : List D), b < 2 ^ k → 2 * k + 1 ≤ ds.length → ∃ e, forM (tgN 2) L_law_divisor_0 ds [some (.v (.int (a : Int))), some (.v (.int (b : Int))), x] = .ret (.int (Nat.gcd a b : Nat)) e
  | k, a, 0, x, [], _, hl => by simp at hl
  | k, a, 0, x, d :: ds, _, hl => ⟨_, by rw [Nat.gcd_zero_right]; exact dv_end⟩
  | 0, a, b + 1, x, ds, hb, _ => by simp at hb
  | k + 1, a, b + 1, x, [], hb, hl => by simp at hl
  | k + 1, a, b + 1, x, [_], hb, hl => by simp at hl
  | k + 1, a, b + 1, x, d1 :: d2 :: ds, hb, hl => by
    rw [dv_step (by omega)]
    have hg : Nat.gcd a (b + 1) = Nat.gcd (b + 1) (a % (b + 1)) := by rw [Nat.gcd_comm, Nat.gcd_rec, Nat.gcd_comm]
    have hlt : a % (b + 1) < b + 1 := Nat.mod_lt _ (by omega)
    generalize a % (b + 1) = r at hg hlt
    rw [hg]
    by_cases h2 : r = 0
    · subst h2
      exact ⟨_, by rw [Nat.gcd_zero_right]; exact dv_end⟩
    · rw [dv_step h2]
      have hg2 : Nat.gcd (b + 1) r = Nat.gcd r ((b + 1) % r) := by rw [Nat.gcd_comm, Nat.gcd_rec, Nat.gcd_comm]
      rw [hg2]
      have hlt2 : (b + 1) % r < r := Nat.mod_lt _ (by omega)
      have hdm : r * ((b + 1) / r) + (b + 1) % r = b + 1 := Nat.div_add_mod _ _
      have hq : 1 ≤ (b + 1) / r := (Nat.one_le_div_iff (by omega)).mpr (by omega)
      have hr1 : r * 1 ≤ r * ((b + 1) / r) := Nat.mul_le_mul_left _ hq
      have hp : 2 ^ (k + 1) = 2 ^ k * 2 := Nat.pow_succ ..
      exact dv_loop k r ((b + 1) % r) (some (.v d2)) ds (by omega) (by simp at hl; omega)
theorem divisor_ok {a b : Int} (hb : b.natAbs < 2 ^ 900) : F_law_divisor [.v (.int a), .v (.int b)] = .ok (.int (Int.gcd a b : Nat)) [.v (.int a), .v (.int b)] := by
  obtain ⟨e, h⟩ := dv_loop 900 a.natAbs b.natAbs none (rngL 0 2000) hb (by simp [rngL])
  have ea : (if a < 0 then -a else a) = (a.natAbs : Int) := by split <;> omega
  have eb : (if b < 0 then -b else b) = (b.natAbs : Int) := by split <;> omega
  simp [u_law_divisor, ea, eb]
  simp only [h]
  simp [Int.gcd]
theorem is_ratio_ok {a b p q : Int} (h0 : 1 ≤ q) (he : p * b = q * a) (h2 : Int.gcd p q = 1) (hp : Mid p) (hq : Mid q) (ha : Mid a) (hb : Mid b) : F_law_is_ratio [.v (.tup [.int p, .int q]), .v (.int a), .v (.int b)] = .ok (.bl true) [.v (.tup [.int p, .int q]), .v (.int a), .v (.int b)] := by
  have w1 : mulOk p b = true := mulOk_mid hp hb
  have w2 : mulOk q a = true := mulOk_mid hq ha
  have t1 : isiTy "tuple" (.tup [.int p, .int q]) = some true := (show L2.kitB "tuple" "tuple" = some true by decide +kernel)
  have t2 : ∀ i, isiTy "int" (.int i) = some true := fun i => (show L2.kitB "int" "int" = some true by decide +kernel)
  have t3 : ∀ i, isiTy "bool" (.int i) = some false := fun i => (show L2.kitB "int" "bool" = some false by decide +kernel)
  have h1 : ¬ q < 1 := by omega
  simp [u_law_is_ratio, t1, t2, t3, forM_c, L_law_is_ratio_0, L2.atI, L2.ixN, w1, w2, h1, he, divisor_ok hq, h2]
end Lw

set_option linter.all false
set_option Elab.async false
set_option maxRecDepth 100000
set_option maxHeartbeats 4000000
set_option exponentiation.threshold 5000
namespace Lw
open PySem Ue
def sgn (x : Int) : Int := if x < 0 then -1 else if 0 < x then 1 else 0
theorem two_le : (2 : Nat) ≤ sizeLine := by rw [show sizeLine = _ from sizeLine_eq]; decide
theorem compare_ok {p q r s : Int} (h1 : mulOk p s = true) (h2 : mulOk r q = true) : F_compare_ratios [.v (.tup [.int p, .int q]), .v (.tup [.int r, .int s])] = .ok (.int (sgn (p * s - r * q))) [.v (.tup [.int p, .int q]), .v (.tup [.int r, .int s])] := by
  unfold sgn
  by_cases g1 : p * s - r * q < 0
  · simp [u_compare_ratios, L2.atI, L2.ixN, h1, h2, g1]
  · by_cases g2 : 0 < p * s - r * q
    · have g3 : r * q < p * s := by omega
      simp [u_compare_ratios, L2.atI, L2.ixN, h1, h2, g1, g3]
    · have g3 : ¬ r * q < p * s := by omega
      simp [u_compare_ratios, L2.atI, L2.ixN, h1, h2, g1, g3]
theorem abs_mul_lt {a b : Int} {k l : Nat} (ha : a.natAbs < 2 ^ k) (hb : b.natAbs < 2 ^ l) : (a * b).natAbs < 2 ^ (k + l) := by
  rw [Int.natAbs_mul, Nat.pow_add]
  exact Nat.mul_lt_mul'' ha hb
theorem mid_k {a : Int} {k : Nat} (ha : a.natAbs < 2 ^ k) (hk : k ≤ 900) : Mid a := Nat.lt_of_lt_of_le ha (Nat.pow_le_pow_right (by decide) hk)
theorem abs_add_lt {a b : Int} {k : Nat} (ha : a.natAbs < 2 ^ k) (hb : b.natAbs < 2 ^ k) : (a + b).natAbs < 2 ^ (k + 1) := by
  have : 2 ^ (k + 1) = 2 ^ k * 2 := Nat.pow_succ ..
  omega
theorem sgn_key {X Y Z c : Int} (hc : 0 < c) (hz : Z ≠ 0) (h : X * Z = c * Y) : sgn X = sgn (Y * (if 0 < Z then 1 else -1)) := by
  have pos : 0 < c * Y → 0 < Y := fun g => Int.not_le.mp fun z => by have := Int.mul_nonpos_of_nonneg_of_nonpos (Int.le_of_lt hc) z; omega
  have neg : c * Y < 0 → Y < 0 := fun g => Int.not_le.mp fun z => by have := Int.mul_nonneg (Int.le_of_lt hc) z; omega
  have zer : c * Y = 0 → Y = 0 := fun g => by
    rcases Int.mul_eq_zero.mp g with z | z
    · omega
    · exact z
  unfold sgn
  rcases Int.lt_trichotomy X 0 with hx | hx | hx
  · rcases Int.lt_or_gt_of_ne hz with hz' | hz'
    · have := pos (h ▸ Int.mul_pos_of_neg_of_neg hx hz')
      rw [if_pos hx, if_neg (by omega : ¬ 0 < Z), if_pos (by omega)]
    · have := neg (h ▸ Int.mul_neg_of_neg_of_pos hx hz')
      rw [if_pos hx, if_pos hz', if_pos (by omega)]
  · subst hx
    have := zer (by rw [← h, Int.zero_mul])
    subst this
    simp
  · rcases Int.lt_or_gt_of_ne hz with hz' | hz'
    · have := neg (h ▸ Int.mul_neg_of_pos_of_neg hx hz')
      rw [if_neg (by omega), if_pos hx, if_neg (by omega : ¬ 0 < Z), if_neg (by omega), if_pos (by omega)]
    · have := pos (h ▸ Int.mul_pos hx hz')
      rw [if_neg (by omega), if_pos hx, if_pos hz', if_neg (by omega), if_pos (by omega)]
theorem sgn_neg (x : Int) : sgn (-x) = -sgn x := by unfold sgn; split <;> split <;> (try split) <;> omega
theorem sum_ok {p q r s : Int} (h0 : q * s ≠ 0) (m1 : Mid (q * s)) (h1 : mulOk p s = true) (h2 : mulOk r q = true) (h3 : mulOk q s = true) :
    ∃ x y, F_ratio_sum [.v (.tup [.int p, .int q]), .v (.tup [.int r, .int s])] = .ok (.tup [.int x, .int y]) [.v (.tup [.int p, .int q]), .v (.tup [.int r, .int s])] ∧ Rt (p * s + r * q) (q * s) x y := by
  obtain ⟨x, y, e, h⟩ := ratio_ok (a := p * s + r * q) h0 m1
  exact ⟨x, y, by simp [u_ratio_sum, L2.atI, L2.ixN, h1, h2, h3, e], h⟩
theorem product_ok {p q r s : Int} (h0 : q * s ≠ 0) (m1 : Mid (q * s)) (h1 : mulOk p r = true) (h3 : mulOk q s = true) :
    ∃ x y, F_ratio_product [.v (.tup [.int p, .int q]), .v (.tup [.int r, .int s])] = .ok (.tup [.int x, .int y]) [.v (.tup [.int p, .int q]), .v (.tup [.int r, .int s])] ∧ Rt (p * r) (q * s) x y := by
  obtain ⟨x, y, e, h⟩ := ratio_ok (a := p * r) h0 m1
  exact ⟨x, y, by simp [u_ratio_product, L2.atI, L2.ixN, h1, h3, e], h⟩
/-- a ratio of what is equal -/
theorem Rt.of {a b a' b' p q : Int} (h : Rt a b p q) (hb : b ≠ 0) (e : a * b' = a' * b) : p * b' = q * a' := by
  have h1 : (p * b') * b = (q * a') * b := by
    rw [Int.mul_right_comm, h.eq, Int.mul_assoc, e, Int.mul_assoc]
  exact Int.eq_of_mul_eq_mul_right hb h1
theorem tail12 {ds : List D} {t f b w p q r s G : Int} (c1 : F_compare_ratios [.v (.tup [.int p, .int q]), .v (.tup [.int r, .int s])] = .ok (.int (sgn G)) [.v (.tup [.int p, .int q]), .v (.tup [.int r, .int s])])
    (c2 : F_compare_ratios [.v (.tup [.int r, .int s]), .v (.tup [.int p, .int q])] = .ok (.int (-sgn G)) [.v (.tup [.int r, .int s]), .v (.tup [.int p, .int q])])
    (c3 : F_compare_ratios [.v (.tup [.int p, .int q]), .v (.tup [.int p, .int q])] = .ok (.int 0) [.v (.tup [.int p, .int q]), .v (.tup [.int p, .int q])]) :
    ∃ e, T_law_ratios_12 [some (.own ds), some (.v (.int t)), some (.v (.int f)), some (.v (.int b)), some (.v (.int w)), some (.v (.tup [.int p, .int q])), some (.v (.tup [.int r, .int s])), some (.v (.int G)), none] = .ret (.bl true) (some (.own ds) :: e) := by
  rcases Int.lt_trichotomy G 0 with g | g | g
  · have g1 : G ≠ 0 := by omega
    have g2 : ¬ 0 < G := by omega
    simp only [sgn, g, if_true] at c1 c2
    exact ⟨_, by simp [T_law_ratios_12, T_law_ratios_13, g1, g2, c1, c2, c3]; rfl⟩
  · subst g
    simp only [sgn, Int.lt_irrefl, if_false, Int.neg_zero] at c1 c2
    exact ⟨_, by simp [T_law_ratios_12, T_law_ratios_13, c1, c2, c3]; rfl⟩
  · have g1 : G ≠ 0 := by omega
    have g2 : ¬ G < 0 := by omega
    simp only [sgn, g, g2, if_true, if_false] at c1 c2
    exact ⟨_, by simp [T_law_ratios_12, T_law_ratios_13, g, g1, c1, c2, c3]; rfl⟩
theorem ratios_tail {ds : List D} {t f b w : Int} (hb : b ≠ 0) (hw : w ≠ 0) (bt : t.natAbs < 2 ^ 220) (bf : f.natAbs < 2 ^ 220) (bb : b.natAbs < 2 ^ 220) (bw : w.natAbs < 2 ^ 220) :
    ∃ e, T_law_ratios_6 [some (.own ds), some (.v (.int t)), some (.v (.int f)), some (.v (.int b)), some (.v (.int w)), none, none, none, none] = .ret (.bl true) (some (.own ds) :: e) := by
  obtain ⟨p, q, e1, R1⟩ := ratio_ok (a := t) hb (mid_k bb (by decide))
  obtain ⟨r, s, e2, R2⟩ := ratio_ok (a := f) hw (mid_k bw (by decide))
  obtain ⟨p0, q0, e3, R3⟩ := ratio_ok (a := 0) hb (mid_k bb (by decide))
  have hp0 : p0 = 0 := by
    have := R3.eq
    rw [Int.mul_zero] at this
    rcases Int.mul_eq_zero.mp this with z | z
    · exact z
    · exact absurd z hb
  have hq0 : q0 = 1 := by
    have h1 := R3.one
    have h2 := R3.pos
    rw [hp0] at h1
    have h3 : q0.natAbs = 1 := by simpa [Int.gcd] using h1
    omega
  subst hp0 hq0
  have bp : p.natAbs < 2 ^ 220 := Nat.lt_of_le_of_lt R1.lp bt
  have bq : q.natAbs < 2 ^ 220 := Nat.lt_of_le_of_lt R1.lq bb
  have br : r.natAbs < 2 ^ 220 := Nat.lt_of_le_of_lt R2.lp bf
  have bs : s.natAbs < 2 ^ 220 := Nat.lt_of_le_of_lt R2.lq bw
  have mp := mid_k bp (by decide)
  have mq := mid_k bq (by decide)
  have mr := mid_k br (by decide)
  have ms := mid_k bs (by decide)
  have mt := mid_k bt (by decide)
  have mf := mid_k bf (by decide)
  have mb := mid_k bb (by decide)
  have mw := mid_k bw (by decide)
  have q1 := R1.pos
  have s1 := R2.pos
  have hqs : q * s ≠ 0 := Int.mul_ne_zero (by omega) (by omega)
  have hbw : b * w ≠ 0 := Int.mul_ne_zero hb hw
  have mqs : Mid (q * s) := mid_k (abs_mul_lt bq bs) (by decide)
  have mbw : Mid (b * w) := mid_k (abs_mul_lt bb bw) (by decide)
  have mtf : Mid (t * f) := mid_k (abs_mul_lt bt bf) (by decide)
  have mpr : Mid (p * r) := mid_k (abs_mul_lt bp br) (by decide)
  have msum : Mid (p * s + r * q) := mid_k (abs_add_lt (abs_mul_lt bp bs) (abs_mul_lt br bq)) (by decide)
  have mtw : Mid (t * w + f * b) := mid_k (abs_add_lt (abs_mul_lt bt bw) (abs_mul_lt bf bb)) (by decide)
  obtain ⟨x, y, e4, R4⟩ := sum_ok hqs mqs (mulOk_mid mp ms) (mulOk_mid mr mq) (mulOk_mid mq ms)
  obtain ⟨x2, y2, e5, R5⟩ := product_ok hqs mqs (mulOk_mid mp mr) (mulOk_mid mq ms)
  have ir1 := is_ratio_ok R1.pos R1.eq R1.one mp mq mt mb
  have ir2 := is_ratio_ok R2.pos R2.eq R2.one mr ms mf mw
  have es : (p * s + r * q) * (b * w) = (t * w + f * b) * (q * s) := by
    have h1 : (p * b) * (s * w) = (q * t) * (s * w) := by rw [R1.eq]
    have h2 : (r * w) * (q * b) = (s * f) * (q * b) := by rw [R2.eq]
    calc (p * s + r * q) * (b * w) = (p * b) * (s * w) + (r * w) * (q * b) := by rw [Int.add_mul]; congr 1 <;> ac_rfl
      _ = (q * t) * (s * w) + (s * f) * (q * b) := by rw [h1, h2]
      _ = (t * w + f * b) * (q * s) := by rw [Int.add_mul]; congr 1 <;> ac_rfl
  have ep : (p * r) * (b * w) = (t * f) * (q * s) := by
    calc (p * r) * (b * w) = (p * b) * (r * w) := by ac_rfl
      _ = (q * t) * (s * f) := by rw [R1.eq, R2.eq]
      _ = (t * f) * (q * s) := by ac_rfl
  have ir3 := is_ratio_ok (a := t * w + f * b) (b := b * w) R4.pos (R4.of hqs es) R4.one (Nat.lt_of_le_of_lt R4.lp msum) (Nat.lt_of_le_of_lt R4.lq mqs) mtw mbw
  have ir4 := is_ratio_ok (a := t * f) (b := b * w) R5.pos (R5.of hqs ep) R5.one (Nat.lt_of_le_of_lt R5.lp mpr) (Nat.lt_of_le_of_lt R5.lq mqs) mtf mbw
  have c1 := compare_ok (p := p) (q := q) (r := r) (s := s) (mulOk_mid mp ms) (mulOk_mid mr mq)
  have c2 := compare_ok (p := r) (q := s) (r := p) (s := q) (mulOk_mid mr mq) (mulOk_mid mp ms)
  have c3 := compare_ok (p := p) (q := q) (r := p) (s := q) (mulOk_mid mp mq) (mulOk_mid mp mq)
  have hX : (p * s - r * q) * (b * w) = (q * s) * (t * w - f * b) := by
    have h1 : (p * b) * (s * w) = (q * t) * (s * w) := by rw [R1.eq]
    have h2 : (r * w) * (q * b) = (s * f) * (q * b) := by rw [R2.eq]
    calc (p * s - r * q) * (b * w) = (p * b) * (s * w) - (r * w) * (q * b) := by rw [Int.sub_mul]; congr 1 <;> ac_rfl
      _ = (q * t) * (s * w) - (s * f) * (q * b) := by rw [h1, h2]
      _ = (q * s) * (t * w - f * b) := by rw [Int.mul_sub]; congr 1 <;> ac_rfl
  have key := sgn_key (Int.mul_pos (by omega : 0 < q) (by omega : 0 < s)) hbw hX
  have c2' : sgn (r * q - p * s) = -sgn (p * s - r * q) := by rw [← sgn_neg]; congr 1; omega
  have c3' : sgn (p * q - p * q) = 0 := by rw [Int.sub_self]; rfl
  rw [c2'] at c2
  rw [c3'] at c3
  rw [key] at c1 c2
  have m1 : mulOk t w = true := mulOk_mid mt mw
  have m2 : mulOk f b = true := mulOk_mid mf mb
  have m3 : mulOk b w = true := mulOk_mid mb mw
  have m4 : mulOk t f = true := mulOk_mid mt mf
  have z2 := two_le
  have n1 : eqD (.tup [.int 0, .int 1]) (.tup [.int 0, .int 1]) = some true := by
    have := eqD_tup (a := [0, 1]) (b := [0, 1])
    simpa using this
  by_cases hz : 0 < b * w
  · rw [if_pos hz, Int.mul_one] at c1 c2
    obtain ⟨e, h⟩ := tail12 (ds := ds) (t := t) (f := f) (b := b) (w := w) c1 c2 c3
    exact ⟨e, by
      simp [T_law_ratios_6, T_law_ratios_7, T_law_ratios_8, T_law_ratios_9, T_law_ratios_10, T_law_ratios_11, e1, e2, e3, e4, e5, ir1, ir2, ir3, ir4, refused_ok, n1, m1, m2, m3, m4, z2, hz, show mulOk (t * w - f * b) 1 = true from mulOk_r (by decide)]
      exact h⟩
  · rw [if_neg hz] at c1 c2
    obtain ⟨e, h⟩ := tail12 (ds := ds) (t := t) (f := f) (b := b) (w := w) c1 c2 c3
    exact ⟨e, by
      simp [T_law_ratios_6, T_law_ratios_7, T_law_ratios_8, T_law_ratios_9, T_law_ratios_10, T_law_ratios_11, e1, e2, e3, e4, e5, ir1, ir2, ir3, ir4, refused_ok, n1, m1, m2, m3, m4, z2, hz, show mulOk (t * w - f * b) (-1) = true from mulOk_r (by decide)]
      rw [Int.mul_neg, Int.mul_one] at h
      exact h⟩
theorem ratios_ok {c m k : Int} : ∃ c' m' k', F_law_ratios [.own [.int c, .int m, .int k]] = .ok (.bl true) [.own [.int c', .int m', .int k']] := by
  obtain ⟨t, c1, m1, k1, e1, h1⟩ := number_ok (c := c) (m := m) (k := k)
  obtain ⟨f, c2, m2, k2, e2, h2⟩ := number_ok (c := c1) (m := m1) (k := k1)
  obtain ⟨b0, c3, m3, k3, e3, h3⟩ := number_ok (c := c2) (m := m2) (k := k2)
  obtain ⟨w0, c4, m4, k4, e4, h4⟩ := number_ok (c := c3) (m := m3) (k := k3)
  obtain ⟨d, c5, m5, k5, e5, h5, h6⟩ := take_ok (c := c4) (m := m4) (k := k4) (n := 4) (by decide) (mid_of (by decide) (by decide))
  have bound : ∀ x : Int, x.natAbs ≤ 6 * 10 ^ 60 → x.natAbs < 2 ^ 220 ∧ (x * 3).natAbs < 2 ^ 220 := fun x hx => by constructor <;> omega
  have mid5 : ∀ b w : Int, b ≠ 0 → w ≠ 0 → b.natAbs ≤ 6 * 10 ^ 60 → w.natAbs ≤ 6 * 10 ^ 60 → ∃ e, T_law_ratios_5 [some (.own [.int c4, .int m4, .int k4]), some (.v (.int t)), some (.v (.int f)), some (.v (.int b)), some (.v (.int w)), none, none, none, none] = .ret (.bl true) (some (.own [.int c5, .int m5, .int k5]) :: e) := by
    intro b w hb hw bb bw
    by_cases hd : d = 0
    · subst hd
      obtain ⟨e, h⟩ := ratios_tail (ds := [.int c5, .int m5, .int k5]) (t := t) (f := t * 3) (b := b) (w := b * 3) hb (by omega) (bound t h1).1 (bound t h1).2 (bound b bb).1 (bound b bb).2
      exact ⟨e, by simp [T_law_ratios_5, e5, h, show mulOk t 3 = true from mulOk_r (by decide), show mulOk b 3 = true from mulOk_r (by decide)]⟩
    · obtain ⟨e, h⟩ := ratios_tail (ds := [.int c5, .int m5, .int k5]) (t := t) (f := f) (b := b) (w := w) hb hw (bound t h1).1 (bound f h2).1 (bound b bb).1 (bound w bw).1
      exact ⟨e, by simp [T_law_ratios_5, e5, hd, h]⟩
  refine ⟨c5, m5, k5, ?_⟩
  show runF _ _ _ B_law_ratios' _ = _
  by_cases hb : b0 = 0 <;> by_cases hw : w0 = 0
  · obtain ⟨e, h⟩ := mid5 1 (-1) (by decide) (by decide) (by decide) (by decide)
    subst hb hw
    simp [B_law_ratios', T_law_ratios_1, T_law_ratios_2, T_law_ratios_3, T_law_ratios_4, e1, e2, e3, e4, h]
  · obtain ⟨e, h⟩ := mid5 1 w0 (by decide) hw (by decide) h4
    subst hb
    simp [B_law_ratios', T_law_ratios_1, T_law_ratios_2, T_law_ratios_3, T_law_ratios_4, e1, e2, e3, e4, h, hw]
  · obtain ⟨e, h⟩ := mid5 b0 (-1) hb (by decide) h3 (by decide)
    subst hw
    simp [B_law_ratios', T_law_ratios_1, T_law_ratios_2, T_law_ratios_3, T_law_ratios_4, e1, e2, e3, e4, h, hb]
  · obtain ⟨e, h⟩ := mid5 b0 w0 hb hw h3 h4
    simp [B_law_ratios', T_law_ratios_1, T_law_ratios_2, T_law_ratios_3, T_law_ratios_4, e1, e2, e3, e4, h, hb, hw]
end Lw

set_option linter.all false
set_option Elab.async false
set_option maxRecDepth 100000
set_option maxHeartbeats 4000000
set_option exponentiation.threshold 5000
namespace Lw
open PySem Ue
theorem whole_int {x lo hi : Int} : F_is_whole [.v (.int x), .v (.int lo), .v (.int hi)] = .ok (.bl (decide (lo ≤ x) && decide (x ≤ hi))) [.v (.int x), .v (.int lo), .v (.int hi)] := by
  by_cases h : lo ≤ x <;> simp [u_is_whole, h]
theorem whole_no {d : D} {lo hi : Int} (h : isiTy "int" d = some false ∨ (isiTy "int" d = some true ∧ isiTy "bool" d = some true)) : F_is_whole [.v d, .v (.int lo), .v (.int hi)] = .ok (.bl false) [.v d, .v (.int lo), .v (.int hi)] := by
  rcases h with h | ⟨h, h'⟩
  · simp [u_is_whole, h]
  · simp [u_is_whole, h, h']
theorem wholes_ok {c m k : Int} : ∃ c' m' k', F_law_wholes [.own [.int c, .int m, .int k]] = .ok (.bl true) [.own [.int c', .int m', .int k']] := by
  obtain ⟨lo, c1, m1, k1, e1, h1⟩ := number_ok (c := c) (m := m) (k := k)
  obtain ⟨f, c2, m2, k2, e2, h2⟩ := of_ok (c := c1) (m := m1) (k := k1) (ns := [0, 1, 5, 10 ^ 30]) (by simp) (by simp)
  have hf : 0 ≤ f ∧ f ≤ 10 ^ 30 := by
    simp only [List.mem_cons, List.not_mem_nil, or_false] at h2
    rcases h2 with h | h | h | h <;> subst h <;> decide
  obtain ⟨d, c3, m3, k3, e3, h3, h4⟩ := take_ok (c := c2) (m := m2) (k := k2) (n := f + 1) (by omega) (mid_of (by omega) (by omega))
  simp only [List.map_cons, List.map_nil, show (10 : Int) ^ 30 = 1000000000000000000000000000000 by decide] at e2
  have w2 : powOk 10 30 = true := by decide
  have ef : lo + f - lo + 1 = f + 1 := by omega
  have n1 : eqD (.lst [.bl true, .bl true, .bl true, .bl false, .bl false]) (.lst [.bl true, .bl true, .bl true, .bl false, .bl false]) = some true := by decide +kernel
  have n2 : eqD (.lst [.bl false, .bl false, .bl false, .bl false, .bl false, .bl false, .bl false]) (.lst [.bl false, .bl false, .bl false, .bl false, .bl false, .bl false, .bl false]) = some true := by decide +kernel
  have z2 : (2 : Nat) ≤ sizeLine := z_le (by decide)
  have z1 : (1 : Nat) ≤ sizeLine := z_le (by decide)
  have z4 : (4 : Nat) ≤ sizeLine := z_le (by decide)
  have z5 : (5 : Nat) ≤ sizeLine := z_le (by decide)
  have z7 : (7 : Nat) ≤ sizeLine := z_le (by decide)
  have t1 : lo ≤ lo + f := by omega
  have t2 : lo ≤ lo + d := by omega
  have t3 : lo + d ≤ lo + f := by omega
  have t4 : ¬ lo ≤ lo - 1 := by omega
  have t5 : ¬ lo + f + 1 ≤ lo + f := by omega
  have r7 : repL (.lst [.bl false]) (.int 7) = some (.lst [.bl false, .bl false, .bl false, .bl false, .bl false, .bl false, .bl false]) := by
    rw [repL_s, if_pos ⟨by decide, by decide, z_le (by decide)⟩]
    rfl
  refine ⟨c3, m3, k3, ?_⟩
  show runF _ _ _ B_law_wholes' _ = _
  simp [B_law_wholes', T_law_wholes_1, T_law_wholes_2, T_law_wholes_3, T_law_wholes_4, T_law_wholes_5, e1, e2, e3, ef, w2, z4, z5, compL_c, rest_one, EV.isOwn, whole_int, t1, t2, t3, t4, t5, n1, z1, z7]
  have y1 := whole_no (d := .non) (lo := -1) (hi := 1) (.inl (by simp))
  have y2 := whole_no (d := .str "1") (lo := -1) (hi := 1) (.inl (by simp))
  have y3 := whole_no (d := .tup [.int 1]) (lo := -1) (hi := 1) (.inl (by simp))
  have y4 := whole_no (d := .lst [.int 1]) (lo := -1) (hi := 1) (.inl (by simp))
  have y5 := whole_no (d := .str "") (lo := -1) (hi := 1) (.inl (by simp))
  have y6 := whole_no (d := .bl true) (lo := -1) (hi := 1) (.inr (by simp))
  have y7 := whole_no (d := .bl false) (lo := -1) (hi := 1) (.inr (by simp))
  simp [T_law_wholes_6, T_law_wholes_7, compL_c, rest_one, EV.isOwn, y1, y2, y3, y4, y5, y6, y7, z7, z1, r7, n2, whole_int]
end Lw

set_option linter.all false
set_option Elab.async false
set_option maxRecDepth 100000
set_option maxHeartbeats 4000000
set_option exponentiation.threshold 5000
namespace Lw
open PySem Ue
/-! day sets -/
def nd (l : List Nat) : List D := l.map fun i : Nat => D.int (i : Int)
@[simp] theorem nd_len (l : List Nat) : (nd l).length = l.length := by simp [nd]
theorem nd_eq (l : List Nat) : nd l = (l.map fun i : Nat => (i : Int)).map D.int := by simp [nd]
def bitsN (m : Nat) : List Nat := (List.range 16).filter m.testBit
theorem div_int (m d : Nat) : (m : Int) / 2 ^ d = ((m / 2 ^ d : Nat) : Int) := by simp
theorem day_cond {m day : Nat} {x : Option EV} : (trM (op2M shrI (varM 0) (varM 2))) [some (.v (.int (m : Int))), x, some (.v (.int (day : Int)))] = .ok (decide (m / 2 ^ day ≠ 0)) [some (.v (.int (m : Int))), x, some (.v (.int (day : Int)))] := by
  have e : (m : Int) / 2 ^ day = ((m / 2 ^ day : Nat) : Int) := by simp
  have q : ((m : Int) / 2 ^ day != 0) = decide (m / 2 ^ day ≠ 0) := by
    rw [e]
    by_cases h : m / 2 ^ day = 0
    · rw [h]; rfl
    · have h' : ((m / 2 ^ day : Nat) : Int) ≠ 0 := by omega
      rw [decide_eq_true h, bne_iff_ne]; exact h'
  simp only [trM_s, op2M_s, varM_s, List.getElem?_cons_zero, List.getElem?_cons_succ, bind_ok, i2c_s, Int.toNat_natCast, show decide (0 ≤ (day : Int)) = true from decide_eq_true (by omega), if_true, liftO_s, truth_i, liftB_s, q]
theorem day_body {m day : Nat} {ds : List D} (hl : ds.length < sizeLine) : L_days_in_0 [some (.v (.int (m : Int))), some (.own ds), some (.v (.int (day : Int)))] = .nx [some (.v (.int (m : Int))), some (.own (if m.testBit day then ds ++ [.int (day : Int)] else ds)), some (.v (.int ((day + 1 : Nat) : Int)))] := by
  have hbit : m.testBit day = decide (m / 2 ^ day % 2 = 1) := Nat.testBit_eq_decide_div_mod_eq ..
  have e : ((m / 2 ^ day : Nat) : Int) = (m : Int) / 2 ^ day := by simp
  have hand : Builtin.bitAnd ((m : Int) / 2 ^ day) 1 = ((m / 2 ^ day % 2 : Nat) : Int) := by
    rw [← e]
    have := bitAnd_nat (m / 2 ^ day) 1
    rw [Nat.and_one_is_mod] at this
    exact this
  rcases Nat.mod_two_eq_zero_or_one (m / 2 ^ day) with h | h
  · have hb : m.testBit day = false := by rw [hbit, h]; rfl
    rw [h] at hand
    simp [L_days_in_0, hand, hb]
  · have hb : m.testBit day = true := by rw [hbit, h]; rfl
    rw [h] at hand
    simp [L_days_in_0, hand, hb, appG, hl]
theorem days_loop (m : Nat) (hm : m < 2 ^ 16) : ∀ (n day : Nat) (found : List Nat), 16 - day ≤ n → day ≤ 16 → found.length ≤ day →
    ∃ day' : Nat, whileM (trM (op2M shrI (varM 0) (varM 2))) L_days_in_0 (n + 1) [some (.v (.int (m : Int))), some (.own (nd found)), some (.v (.int (day : Int)))] = .nx [some (.v (.int (m : Int))), some (.own (nd (found ++ ((List.range 16).drop day).filter m.testBit))), some (.v (.int (day' : Int)))] := by
  intro n
  induction n with
  | zero =>
    intro day found h1 h2 h3
    have : day = 16 := by omega
    subst this
    refine ⟨16, ?_⟩
    have h0 : m / 2 ^ 16 = 0 := Nat.div_eq_of_lt hm
    have hd : (List.range 16).drop 16 = [] := rfl
    rw [whileM_s, day_cond, toS_ok, decide_eq_false (by omega), hd, List.filter_nil, List.append_nil]
    rfl
  | succ n ih =>
    intro day found h1 h2 h3
    rw [whileM_s, day_cond, toS_ok]
    by_cases h0 : m / 2 ^ day = 0
    · refine ⟨day, ?_⟩
      have hz : ((List.range 16).drop day).filter m.testBit = [] := by
        rw [List.filter_eq_nil_iff]
        intro i hi
        have hi' : day ≤ i := by
          rw [List.mem_drop_iff_getElem] at hi
          obtain ⟨j, hj, e⟩ := hi
          simp at e
          omega
        have hlt : m < 2 ^ i := Nat.lt_of_lt_of_le ((Nat.div_eq_zero_iff_lt (Nat.two_pow_pos day)).mp h0) (Nat.pow_le_pow_right (by decide) hi')
        simp [Nat.testBit_lt_two_pow hlt]
      rw [decide_eq_false (by omega), hz, List.append_nil]
      rfl
    · have hd : day < 16 := by
        rcases Nat.lt_or_ge day 16 with q | q
        · exact q
        · exfalso; exact h0 (Nat.div_eq_of_lt (Nat.lt_of_lt_of_le hm (Nat.pow_le_pow_right (by decide) q)))
      have hdr : (List.range 16).drop day = day :: (List.range 16).drop (day + 1) := by
        rw [List.drop_eq_getElem_cons (by simpa using hd)]; simp
      have hl : (nd found).length < sizeLine := by
        have : (nd found).length = found.length := by simp [nd]
        have z := z_le (n := 1000) (by omega)
        omega
      rw [decide_eq_true h0, if_pos rfl, day_body hl, loopS_nx, hdr]
      cases hb : m.testBit day with
      | true =>
        obtain ⟨day', e⟩ := ih (day + 1) (found ++ [day]) (by omega) (by omega) (by simp; omega)
        refine ⟨day', ?_⟩
        rw [List.filter_cons_of_pos (by simpa using hb), if_pos rfl]
        have e1 : nd found ++ [D.int (day : Int)] = nd (found ++ [day]) := by simp [nd]
        rw [e1, e, List.append_assoc]; rfl
      | false =>
        obtain ⟨day', e⟩ := ih (day + 1) found (by omega) (by omega) (by omega)
        refine ⟨day', ?_⟩
        rw [List.filter_cons_of_neg (by simp [hb])]
        exact e
theorem days_in_ok {m : Nat} (hm : m < 2 ^ 16) : F_days_in [.v (.int (m : Int))] = .ok (.tup (nd (bitsN m))) [.v (.int (m : Int))] := by
  obtain ⟨d', e⟩ := days_loop m hm 39 0 [] (by omega) (by omega) (by simp)
  rw [List.nil_append, List.drop_zero] at e
  have e' : whileM (trM (op2M shrI (varM 0) (varM 2))) L_days_in_0 40 [some (.v (.int (m : Int))), some (.own []), some (.v (.int 0))] = .nx [some (.v (.int (m : Int))), some (.own (nd (bitsN m))), some (.v (.int (d' : Int)))] := e
  simp [u_days_in, e', bitsN]
theorem size_ok {m : Nat} (hm : m < 2 ^ 16) : F_size [.v (.int (m : Int))] = .ok (.int ((bitsN m).length : Nat)) [.v (.int (m : Int))] := by
  simp [u_size, days_in_ok hm]
theorem set_loop {x : Option EV} : ∀ (l : List Nat) (t : Nat) (y : Option EV), (∀ d ∈ l, d < 1000) → ∃ y', forM (tgN 2) L_set_of_0 (nd l) [x, some (.v (.int (t : Int))), y] = .nx [x, some (.v (.int ((l.foldl (fun t d => t ||| 2 ^ d) t : Nat) : Int))), y']
  | [], t, y, _ => ⟨y, rfl⟩
  | d :: l, t, y, h => by
    obtain ⟨y', e⟩ := set_loop (x := x) l (t ||| 2 ^ d) (some (.v (.int (d : Int)))) fun d hd => h d (by simp [hd])
    refine ⟨y', ?_⟩
    have w : shlOk 1 (d : Int) = true := by
      have := h d (by simp)
      unfold shlOk
      rw [show Builtin.Int.intBits 1 = 1 by decide]
      simp
      omega
    have o : Builtin.bitOr (t : Int) (2 ^ d) = ((t ||| 2 ^ d : Nat) : Int) := by
      have := bitOr_nat t (2 ^ d)
      rw [← this]; simp
    rw [show nd (d :: l) = D.int (d : Int) :: nd l from rfl, forM_c]
    simp [L_set_of_0, w, o]
    simpa [L_set_of_0] using e
theorem set_of_l {l : List Nat} (h : ∀ d ∈ l, d < 1000) : F_set_of [.v (.lst (nd l))] = .ok (.int (maskN l : Nat)) [.v (.lst (nd l))] := by
  obtain ⟨y, e⟩ := set_loop (x := some (.v (.lst (nd l)))) l 0 none h
  have e' : forM (tgN 2) L_set_of_0 (nd l) [some (.v (.lst (nd l))), some (.v (.int 0)), none] = _ := e
  simp [u_set_of, e', maskN]
theorem set_of_t {l : List Nat} (h : ∀ d ∈ l, d < 1000) : F_set_of [.v (.tup (nd l))] = .ok (.int (maskN l : Nat)) [.v (.tup (nd l))] := by
  obtain ⟨y, e⟩ := set_loop (x := some (.v (.tup (nd l)))) l 0 none h
  have e' : forM (tgN 2) L_set_of_0 (nd l) [some (.v (.tup (nd l))), some (.v (.int 0)), none] = _ := e
  simp [u_set_of, e', maskN]
theorem within_ok {a b : Nat} : F_within [.v (.int (a : Int)), .v (.int (b : Int))] = .ok (.bl (decide (a - (a &&& b) = 0))) [.v (.int (a : Int)), .v (.int (b : Int))] := by
  have e := bitAndNot_nat a b
  have hle : a &&& b ≤ a := Nat.and_le_left
  have q : (((a : Int) - ((a &&& b : Nat) : Int) = 0) ↔ a - (a &&& b) = 0) := by omega
  simp only [u_within, runF_s, retM_s, bV_s, cmpM_s, op2M_s, op1M_s, varM_s, cM_s, List.map_cons, List.map_nil, List.length_cons, List.length_nil]
  simp [e, q]
end Lw

set_option linter.all false
set_option Elab.async false
set_option maxRecDepth 100000
set_option maxHeartbeats 4000000
set_option exponentiation.threshold 5000
namespace Lw
open PySem Ue
theorem rng_nd (n : Nat) : rngL 0 n = nd (List.range n) := by simp [rngL, nd]
theorem take_comp {tt : MT} (h : ∀ (c m k : Int) (r : Ue.Env), ∃ b c' m' k', tt (some (.own [.int c, .int m, .int k]) :: r) = .ok b (some (.own [.int c', .int m', .int k']) :: r)) (n : Nat) (c m k : Int) (x1 x2 x3 x4 x5 x6 x7 x8 x10 : Option EV) :
    ∃ l c' m' k', l.Sublist (List.range n) ∧ compL [9] (tgN 9) tt (varM 9) (rngL 0 n) [some (.own [.int c, .int m, .int k]), x1, x2, x3, x4, x5, x6, x7, x8, none, x10] = .ok (nd l) [some (.own [.int c', .int m', .int k']), x1, x2, x3, x4, x5, x6, x7, x8, none, x10] := by
  obtain ⟨zs, e', h1, ⟨c', m', k', rfl⟩, h2⟩ := compL_sub (vs := [9]) (g := tgN 9) (tt := tt) (te := varM 9) (fun e => ∃ c m k : Int, e = [some (.own [.int c, .int m, .int k]), x1, x2, x3, x4, x5, x6, x7, x8, none, x10]) id (rngL 0 n) [some (.own [.int c, .int m, .int k]), x1, x2, x3, x4, x5, x6, x7, x8, none, x10] (by
    rintro d _ _ ⟨c, m, k, rfl⟩
    refine ⟨rfl, ?_⟩
    obtain ⟨b, c', m', k', e⟩ := h c m k [x1, x2, x3, x4, x5, x6, x7, x8, some (.v d), x10]
    cases b with
    | false => exact ⟨[some (.own [.int c, .int m, .int k]), x1, x2, x3, x4, x5, x6, x7, x8, some (.v d), x10], _, rfl, .inl ⟨e, c', m', k', by simp [rest_one]⟩⟩
    | true => exact ⟨[some (.own [.int c, .int m, .int k]), x1, x2, x3, x4, x5, x6, x7, x8, some (.v d), x10], _, rfl, .inr ⟨e, [some (.own [.int c', .int m', .int k']), x1, x2, x3, x4, x5, x6, x7, x8, some (.v d), x10], rfl, c', m', k', by simp [rest_one]⟩⟩) ⟨c, m, k, rfl⟩
  rw [rng_nd] at h2
  obtain ⟨l, hl, rfl⟩ := List.sublist_map_iff.mp h2
  exact ⟨l, c', m', k', hl, by rw [h1, List.map_id]; rfl⟩
theorem notin_comp (a b : List Nat) (x0 x1 x3 x4 x5 x6 x7 x8 x10 : Option EV) (ha : x1 = some (.v (.lst (nd a)))) :
    compL [9] (tgN 9) (cmpM notInD (varM 9) (varM 2)) (varM 9) (nd a) [x0, x1, some (.v (.lst (nd b))), x3, x4, x5, x6, x7, x8, none, x10] = .ok (nd (a.filter fun i => decide (i ∉ b))) [x0, x1, some (.v (.lst (nd b))), x3, x4, x5, x6, x7, x8, none, x10] := by
  have := compL_det (vs := [9]) (g := tgN 9) (tt := cmpM notInD (varM 9) (varM 2)) (te := varM 9) (env := [x0, x1, some (.v (.lst (nd b))), x3, x4, x5, x6, x7, x8, none, x10]) (fun d => match d with | .int i => decide (i ∉ b.map fun j : Nat => (j : Int)) | _ => false) id rfl (nd a) (by
    intro d hd
    obtain ⟨i, hi, rfl⟩ := List.mem_map.mp hd
    refine ⟨[x0, x1, some (.v (.lst (nd b))), x3, x4, x5, x6, x7, x8, some (.v (.int (i : Int))), x10], [x0, x1, some (.v (.lst (nd b))), x3, x4, x5, x6, x7, x8, some (.v (.int (i : Int))), x10], rfl, ?_, fun _ => ?_, fun _ => ⟨[x0, x1, some (.v (.lst (nd b))), x3, x4, x5, x6, x7, x8, some (.v (.int (i : Int))), x10], rfl, ?_⟩⟩
    · simp only [cmpM_s, varM_s, List.getElem?_cons_zero, List.getElem?_cons_succ, bind_ok, notInD_s, nd_eq, inD_ints, Option.map_some, liftB_s, decide_not]
    · simp [rest_one]
    · simp [rest_one])
  rw [this, List.map_id]
  congr 1
  simp only [nd, List.filter_map]
  congr 1
  apply List.filter_congr
  intro i _
  have q : (∀ x, x ∈ b → ¬ (x : Int) = (i : Int)) ↔ i ∉ b := ⟨fun h z => h i z rfl, fun h x hx e => h ((by omega : x = i) ▸ hx)⟩
  simp [q]
theorem notin_comp2 (a b : List Nat) (x0 x2 x3 x4 x5 x6 x7 x8 x10 : Option EV) :
    compL [9] (tgN 9) (cmpM notInD (varM 9) (varM 1)) (varM 9) (nd a) [x0, some (.v (.lst (nd b))), x2, x3, x4, x5, x6, x7, x8, none, x10] = .ok (nd (a.filter fun i => decide (i ∉ b))) [x0, some (.v (.lst (nd b))), x2, x3, x4, x5, x6, x7, x8, none, x10] := by
  have := compL_det (vs := [9]) (g := tgN 9) (tt := cmpM notInD (varM 9) (varM 1)) (te := varM 9) (env := [x0, some (.v (.lst (nd b))), x2, x3, x4, x5, x6, x7, x8, none, x10]) (fun d => match d with | .int i => decide (i ∉ b.map fun j : Nat => (j : Int)) | _ => false) id rfl (nd a) (by
    intro d hd
    obtain ⟨i, hi, rfl⟩ := List.mem_map.mp hd
    refine ⟨[x0, some (.v (.lst (nd b))), x2, x3, x4, x5, x6, x7, x8, some (.v (.int (i : Int))), x10], [x0, some (.v (.lst (nd b))), x2, x3, x4, x5, x6, x7, x8, some (.v (.int (i : Int))), x10], rfl, ?_, fun _ => ?_, fun _ => ⟨[x0, some (.v (.lst (nd b))), x2, x3, x4, x5, x6, x7, x8, some (.v (.int (i : Int))), x10], rfl, ?_⟩⟩
    · simp only [cmpM_s, varM_s, List.getElem?_cons_zero, List.getElem?_cons_succ, bind_ok, notInD_s, nd_eq, inD_ints, Option.map_some, liftB_s, decide_not]
    · simp [rest_one]
    · simp [rest_one])
  rw [this, List.map_id]
  congr 1
  simp only [nd, List.filter_map]
  congr 1
  apply List.filter_congr
  intro i _
  have q : (∀ x, x ∈ b → ¬ (x : Int) = (i : Int)) ↔ i ∉ b := ⟨fun h z => h i z rfl, fun h x hx e => h ((by omega : x = i) ▸ hx)⟩
  simp [q]
theorem sum_comp (l : List Nat) (hl : ∀ d ∈ l, d < 1000) (x0 x1 x2 x3 x4 x5 x6 x7 x8 x10 : Option EV) :
    compL [9] (tgN 9) yesT (op2M shlI (cM (.int 1)) (varM 9)) (nd l) [x0, x1, x2, x3, x4, x5, x6, x7, x8, none, x10] = .ok ((l.map fun d => ((2 ^ d : Nat) : Int)).map D.int) [x0, x1, x2, x3, x4, x5, x6, x7, x8, none, x10] := by
  have := compL_det (vs := [9]) (g := tgN 9) (tt := yesT) (te := op2M shlI (cM (.int 1)) (varM 9)) (env := [x0, x1, x2, x3, x4, x5, x6, x7, x8, none, x10]) (fun _ => true) (fun d => match d with | .int i => .int ((2 ^ i.toNat : Nat) : Int) | d => d) rfl (nd l) (by
    intro d hd
    obtain ⟨i, hi, rfl⟩ := List.mem_map.mp hd
    have w : shlOk 1 (i : Int) = true := by
      have := hl i hi
      unfold shlOk
      rw [show Builtin.Int.intBits 1 = 1 by decide]
      simp
      omega
    refine ⟨[x0, x1, x2, x3, x4, x5, x6, x7, x8, some (.v (.int (i : Int))), x10], [x0, x1, x2, x3, x4, x5, x6, x7, x8, some (.v (.int (i : Int))), x10], rfl, rfl, fun z => by simp at z, fun _ => ⟨[x0, x1, x2, x3, x4, x5, x6, x7, x8, some (.v (.int (i : Int))), x10], ?_, ?_⟩⟩
    · simp [w]
    · simp [rest_one])
  rw [this, List.filter_eq_self.mpr (fun _ _ => rfl)]
  simp [nd]
theorem turned_comp (l : List Nat) (x0 x2 x3 x4 x5 x6 x7 x8 x9 : Option EV) :
    compL [10] (tgN 10) yesT (op2M ixD (varM 1) (op2M subI (op2M subI (callM lenD [(varM 1)]) (cM (.int 1))) (varM 10))) (rngL 0 l.length) [x0, some (.v (.lst (nd l))), x2, x3, x4, x5, x6, x7, x8, x9, none] = .ok (nd l.reverse) [x0, some (.v (.lst (nd l))), x2, x3, x4, x5, x6, x7, x8, x9, none] := by
  have := compL_det (vs := [10]) (g := tgN 10) (tt := yesT) (te := op2M ixD (varM 1) (op2M subI (op2M subI (callM lenD [(varM 1)]) (cM (.int 1))) (varM 10))) (env := [x0, some (.v (.lst (nd l))), x2, x3, x4, x5, x6, x7, x8, x9, none]) (fun _ => true) (fun d => match d with | .int i => .int ((l.getD (l.length - 1 - i.toNat) 0 : Nat) : Int) | d => d) rfl (rngL 0 l.length) (by
    intro d hd
    rw [rng_nd] at hd
    obtain ⟨i, hi, rfl⟩ := List.mem_map.mp hd
    rw [List.mem_range] at hi
    have hj : l.length - 1 - i < l.length := by omega
    have e1 : ((l.length : Int) - 1 - (i : Int)) = ((l.length - 1 - i : Nat) : Int) := by omega
    have e2 : L2.atI (nd l) ((l.length - 1 - i : Nat) : Int) = some (.int ((l[l.length - 1 - i] : Nat) : Int)) := atI_nat (by simp only [nd, List.getElem?_map, List.getElem?_eq_getElem hj, Option.map_some])
    have e3 : l.getD (l.length - 1 - i) 0 = l[l.length - 1 - i] := by rw [List.getD_eq_getElem?_getD, List.getElem?_eq_getElem hj]; rfl
    have e4 : (nd l).length = l.length := by simp [nd]
    refine ⟨[x0, some (.v (.lst (nd l))), x2, x3, x4, x5, x6, x7, x8, x9, some (.v (.int (i : Int)))], [x0, some (.v (.lst (nd l))), x2, x3, x4, x5, x6, x7, x8, x9, some (.v (.int (i : Int)))], rfl, rfl, fun z => by simp at z, fun _ => ⟨[x0, some (.v (.lst (nd l))), x2, x3, x4, x5, x6, x7, x8, x9, some (.v (.int (i : Int)))], ?_, ?_⟩⟩
    · simp only [op2M_s, callM_s, argsM_c, argsM_n, varM_s, cM_s, List.getElem?_cons_zero, List.getElem?_cons_succ, bind_ok, lenD_l, liftO_s, i2_s, ixD_l, e4, e1, e2, Int.toNat_natCast, e3]
    · simp [rest_one])
  rw [this, List.filter_eq_self.mpr (fun _ _ => rfl)]
  congr 1
  rw [rng_nd]
  apply List.ext_getElem
  · simp [nd]
  · intro j h1 h2
    have hj : j < l.length := by simpa [nd] using h2
    simp only [nd, List.getElem_map, List.getElem_range, List.getElem_reverse, Int.toNat_natCast]
    rw [List.getD_eq_getElem?_getD, List.getElem?_eq_getElem (by omega)]
    rfl
theorem eqD_nd (a b : List Nat) : eqD (.lst (nd a)) (.lst (nd b)) = some (decide (a = b)) := by
  rw [nd_eq, nd_eq, eqD_lst]
  congr 1
  apply decide_eq_decide.mpr
  constructor
  · intro h
    exact (List.map_inj_right (fun x y h => by have h : (x : Int) = y := h; omega)).mp h
  · rintro rfl; rfl
theorem bits_mask {l : List Nat} (h : l.Sublist (List.range 16)) : bitsN (maskN l) = l := by
  unfold bitsN
  rw [sub_filter h List.nodup_range]
  apply List.filter_congr
  intro i hi
  rw [mask_bit, ← sub_filter h List.nodup_range]
theorem bits_len {o : List Nat} (hn : o.Nodup) (h : ∀ i ∈ o, i < 16) : (bitsN (maskN o)).length = o.length := by
  apply List.Perm.length_eq
  apply (List.perm_ext_iff_of_nodup (List.nodup_range.sublist (List.filter_sublist)) hn).mpr
  intro i
  rw [List.mem_filter, mask_bit, List.mem_range]
  simp only [decide_eq_true_eq]
  exact ⟨fun z => z.2, fun z => ⟨h i z, z⟩⟩
theorem within_mask (a b : List Nat) : decide (maskN a - (maskN a &&& maskN b) = 0) = decide (a.filter (fun i => decide (i ∉ b)) = []) := by
  apply decide_eq_decide.mpr
  rw [sub_mask, List.filter_eq_nil_iff]
  constructor
  · intro h i hi
    have := h i
    rw [mask_bit, mask_bit] at this
    simpa using this (by simpa using hi)
  · intro h i hi
    rw [mask_bit] at hi ⊢
    have := h i (by simpa using hi)
    simpa using this
theorem sum_pow {l : List Nat} (hn : l.Nodup) : (l.map fun d => ((2 ^ d : Nat) : Int)).sum = ((maskN l : Nat) : Int) := by
  rw [← mask_sum hn]
  clear hn
  induction l with
  | nil => rfl
  | cons d l ih => simp only [List.map_cons, List.sum_cons, ih, Int.natCast_add]
theorem sets_tail {ds : List D} {l o : List Nat} (hl : l.Sublist (List.range 16)) (hn : o.Nodup) (ho : ∀ i ∈ o, i < 16) :
    ∃ e, T_law_day_sets_3 [some (.own ds), some (.v (.lst (nd l))), some (.v (.lst (nd o))), none, none, none, none, none, none, none, none] = .ret (.bl true) (some (.own ds) :: e) := by
  have hl16 : ∀ i ∈ l, i < 16 := fun i hi => List.mem_range.mp (hl.subset hi)
  have hln : l.Nodup := List.nodup_range.sublist hl
  have m1 : maskN l < 2 ^ 16 := mask_lt hl16
  have m2 : maskN o < 2 ^ 16 := mask_lt ho
  have s1 := fun x0 x1 x2 x3 x4 x5 x6 x7 x8 x10 => sum_comp l (fun d hd => by have := hl16 d hd; omega) x0 x1 x2 x3 x4 x5 x6 x7 x8 x10
  have s2 := fun x0 x1 x2 x3 x4 x5 x6 x7 x8 x10 => sum_comp o (fun d hd => by have := ho d hd; omega) x0 x1 x2 x3 x4 x5 x6 x7 x8 x10
  have len1 : l.length ≤ 16 := by have := hl.length_le; simpa using this
  have len2 : o.length ≤ 16 := by rw [← bits_len hn ho]; unfold bitsN; exact Nat.le_trans (List.length_filter_le _ _) (by simp)
  have nl : ∀ a : List Nat, (nd a).length = a.length := fun a => by simp [nd]
  have cut1 : cutD (nd l) none (some 1) = nd (l.take 1) := by
    cases l with
    | nil => rfl
    | cons d l => simp [cutD, HT.sIx, nd]
  have cat1 : catL (.lst (nd l.reverse)) (.lst (nd (l.take 1))) = some (.lst (nd (l.reverse ++ l.take 1))) := by
    have h : (nd l.reverse).length + (nd (l.take 1)).length ≤ sizeLine := by
      rw [nl, nl]
      have h1 : (l.take 1).length ≤ l.length := List.length_take_le' ..
      exact z_le (by simp; omega)
    show (if (nd l.reverse).length + (nd (l.take 1)).length ≤ sizeLine then some (D.lst (nd l.reverse ++ nd (l.take 1))) else none) = _
    rw [if_pos h]; simp [nd]
  have memu : ∀ i, i ∈ l.reverse ++ l.take 1 ↔ i ∈ l := fun i => by
    rw [List.mem_append, List.mem_reverse]
    exact ⟨fun h => h.elim id List.mem_of_mem_take, .inl⟩
  have hu : ∀ d ∈ l.reverse ++ l.take 1, d < 1000 := fun d hd => by have := hl16 d ((memu d).mp hd); omega
  have mu : maskN (l.reverse ++ l.take 1) = maskN l := mask_eq memu
  have su := set_of_l hu
  have st := set_of_t (l := l) (fun d hd => by have := hl16 d hd; omega)
  have s0 := set_of_l (l := []) (by simp)
  have d0 := days_in_ok (m := 0) (by decide)
  have d1 := days_in_ok m1
  rw [bits_mask hl] at d1
  have z1 := size_ok m1
  have z2 := size_ok m2
  rw [bits_mask hl] at z1
  rw [bits_len hn ho] at z2
  have w1 := within_ok (a := maskN l) (b := maskN o)
  have w2 := within_ok (a := maskN l) (b := maskN l)
  have w3 := within_ok (a := 0) (b := maskN o)
  have w4 := within_ok (a := maskN o) (b := maskN l)
  rw [within_mask] at w1 w2 w4
  have w2' : decide (l.filter (fun i => decide (i ∉ l)) = []) = true := by
    apply decide_eq_true; rw [List.filter_eq_nil_iff]; intro i hi; simpa using hi
  rw [w2'] at w2
  rw [mu] at su
  have rl : -(2 : Int) ^ 62 ≤ (l.length : Int) ∧ (l.length : Int) < 2 ^ 62 := by omega
  have b0 : bitsN 0 = [] := by decide
  have e0 : eqD (.tup []) (.tup []) = some true := by decide +kernel
  have ll : (l.length : Int).toNat = l.length := by omega
  have zl : l.length ≤ sizeLine := z_le (by omega)
  have zo : o.length ≤ sizeLine := z_le (by omega)
  have z0 : 0 ≤ sizeLine := by omega
  have eqn := fun a b => eqD_nd a b
  have en : ∀ a : List Nat, eqD (.lst (nd a)) (.lst []) = some (decide (a = [])) := fun a => eqD_nd a []
  have rlen : (rngL 0 l.length).length = l.length := by simp [rngL]
  have c1 := fun x0 x3 x4 x5 x6 x7 x8 x10 => notin_comp l o x0 (some (.v (.lst (nd l)))) x3 x4 x5 x6 x7 x8 x10 rfl
  have c2 := fun x0 x2 x3 x4 x5 x6 x7 x8 x10 => notin_comp2 o l x0 x2 x3 x4 x5 x6 x7 x8 x10
  have sm1 : sumD [.lst ((l.map fun d => ((2 ^ d : Nat) : Int)).map D.int)] = some (.int ((maskN l : Nat) : Int)) := by rw [sumD_ints, sum_pow hln]
  have sm2 : sumD [.lst ((o.map fun d => ((2 ^ d : Nat) : Int)).map D.int)] = some (.int ((maskN o : Nat) : Int)) := by rw [sumD_ints, sum_pow hn]
  simp only [T_law_day_sets_3, T_law_day_sets_4, T_law_day_sets_5, T_law_day_sets_6, T_law_day_sets_7, seqM_s, setM_s, callM_s, argsM_c, argsM_n, compM_s, asL_s, varM_s, List.getElem?_cons_zero, List.getElem?_cons_succ, bind_ok, toS_ok, nl, zl, zo, if_true, s1, s2, sm1, sm2, liftO_s, th_nx, List.set_cons_zero, List.set_cons_succ, op2M_s, rng1M_s, lenD_l, rl, and_self, ll, turned_comp, rlen, slLM_s, optM_c, optM_n, cM_s, cut1, cat1, listD_l, fnM_s, argG_p, argG_n, resA_d, resA_n, Option.map_some, fewO_d, fewO_n, List.nil_append, List.append_nil, List.map_nil, d1, go_ok, putA_s, ownIx_d, ownIx_n]
  have w3' : decide (0 - (0 &&& maskN o) = 0) = true := decide_eq_true (by simp)
  rw [w3'] at w3
  have w3 : F_within [.v (.int 0), .v (.int (maskN o : Nat))] = .ok (.bl true) [.v (.int 0), .v (.int (maskN o : Nat))] := w3
  have d0' : F_days_in [.v (.int 0)] = .ok (.tup []) [.v (.int 0)] := by rw [b0] at d0; exact d0
  have s0' : F_set_of [.v (.lst [])] = .ok (.int 0) [.v (.lst [])] := s0
  have t8 : T_law_day_sets_8 [some (.own ds), some (.v (.lst (nd l))), some (.v (.lst (nd o))), some (.v (.int (maskN l : Nat))), some (.v (.int (maskN o : Nat))), some (.v (.lst (nd (l.reverse ++ l.take 1)))), some (.v (.lst (nd (l.reverse ++ l.take 1)))), some (.v (.tup (nd l))), none, none, none]
      = T_law_day_sets_11 [some (.own ds), some (.v (.lst (nd l))), some (.v (.lst (nd o))), some (.v (.int (maskN l : Nat))), some (.v (.int (maskN o : Nat))), some (.v (.lst (nd (l.reverse ++ l.take 1)))), some (.v (.lst (nd (l.reverse ++ l.take 1)))), some (.v (.tup (nd l))), none, none, none] := by
    simp [T_law_day_sets_8, T_law_day_sets_9, T_law_day_sets_10, d0', s0', su, st, z1, z2, eqn, e0, nl]
  have cc2 := fun x => c2 (some (.own ds)) (some (.v (.lst (nd o)))) (some (.v (.int (maskN l : Nat)))) (some (.v (.int (maskN o : Nat)))) (some (.v (.lst (nd (l.reverse ++ l.take 1))))) (some (.v (.lst (nd (l.reverse ++ l.take 1))))) (some (.v (.tup (nd l)))) x none
  have cc1 := c1 (some (.own ds)) (some (.v (.int (maskN l : Nat)))) (some (.v (.int (maskN o : Nat)))) (some (.v (.lst (nd (l.reverse ++ l.take 1))))) (some (.v (.lst (nd (l.reverse ++ l.take 1))))) (some (.v (.tup (nd l)))) none none
  rw [t8]
  have en1 := en (l.filter fun i => decide (i ∉ o))
  have en2 := en (o.filter fun i => decide (i ∉ l))
  generalize decide (l.filter (fun i => decide (i ∉ o)) = []) = p at w1 en1
  generalize decide (o.filter (fun i => decide (i ∉ l)) = []) = r at w4 en2
  generalize nd (l.filter fun i => decide (i ∉ o)) = L at cc1 en1
  generalize nd (o.filter fun i => decide (i ∉ l)) = O at cc2 en2
  generalize nd (l.reverse ++ l.take 1) = X at cc1 cc2 ⊢
  generalize maskN l = ml at *
  generalize maskN o = mo at *
  simp only [T_law_day_sets_11, seqM_s, setM_s, bV_s, cmpM_s, compM_s, asL_s, varM_s, List.getElem?_cons_zero, List.getElem?_cons_succ, bind_ok, toS_ok, nl, zl, zo, if_true, cc1, lstM_s, argsM_n, List.length_nil, z0, en1, liftB_s, List.set_cons_succ, List.set_cons_zero, th_nx]
  simp only [T_law_day_sets_12, T_law_day_sets_13, seqM_s, iffM_s, orT_s, cmpM_s, fnM_s, argG_p, argG_n, varM_s, cM_s, List.getElem?_cons_zero, List.getElem?_cons_succ, bind_ok, toS_ok, resA_d, resA_n, Option.map_some, fewO_d, fewO_n, if_true, List.nil_append, List.map_nil, List.append_nil, w1, w2, w3, w4, go_ok, putA_s, ownIx_d, ownIx_n, neS_s, eqS_bb, notB_s, isB_s, decide_true, Bool.not_true, liftB_s, Bool.false_eq_true, if_false, nilM_s, th_nx, retM_s, bV_s, compM_s, asL_s, nl, zo, cc2, lstM_s, argsM_n, List.length_nil, z0, en2]
  exact ⟨_, rfl⟩
theorem day_sets_ok {c m k : Int} : ∃ c' m' k', F_law_day_sets [.own [.int c, .int m, .int k]] = .ok (.bl true) [.own [.int c', .int m', .int k']] := by
  obtain ⟨n, c1, m1, k1, e1, h1⟩ := of_ok (c := c) (m := m) (k := k) (ns := [2, 4, 8, 16]) (by simp) (by simp)
  have tk : ∀ (n : Int), 0 < n → n < 100 → ∀ (c m k : Int) (r : Ue.Env), ∃ d c' m' k', fnM F_law_take [.o 0, .p (cM (.int n))] [] (some (.own [.int c, .int m, .int k]) :: r) = .ok (.int d) (some (.own [.int c', .int m', .int k']) :: r) := by
    intro n h0 h1 c m k r
    obtain ⟨d, c', m', k', e, _, _⟩ := take_ok (c := c) (m := m) (k := k) (n := n) h0 (mid_of (by omega) (by omega))
    exact ⟨d, c', m', k', by simp [e]⟩
  have hn : ∃ N : Nat, n = (N : Int) ∧ N ≤ 16 := by
    simp only [List.mem_cons, List.not_mem_nil, or_false] at h1
    rcases h1 with h | h | h | h
    · exact ⟨2, h, by decide⟩
    · exact ⟨4, h, by decide⟩
    · exact ⟨8, h, by decide⟩
    · exact ⟨16, h, by decide⟩
  obtain ⟨N, rfl, hN⟩ := hn
  obtain ⟨l, c2, m2, k2, hl, e2⟩ := take_comp (tt := cmpM eqS (fnM F_law_take [.o 0, .p (cM (.int 2))] []) (cM (.int 0))) (fun c m k r => by
    obtain ⟨d, c', m', k', e⟩ := tk 2 (by decide) (by decide) c m k r
    exact ⟨decide (d = 0), c', m', k', by rw [cmpM_s, e]; rfl⟩) N c1 m1 k1 none none none none none none none none none
  obtain ⟨o, c3, m3, k3, ho, e3⟩ := take_comp (tt := cmpM gtI (fnM F_law_take [.o 0, .p (cM (.int 3))] []) (cM (.int 0))) (fun c m k r => by
    obtain ⟨d, c', m', k', e⟩ := tk 3 (by decide) (by decide) c m k r
    exact ⟨decide (0 < d), c', m', k', by rw [cmpM_s, e]; rfl⟩) 16 c2 m2 k2 (some (.v (.lst (nd l)))) none none none none none none none none
  have hl16 : l.Sublist (List.range 16) := hl.trans (List.range_sublist.mpr hN)
  have h16 : ∀ i ∈ l, i < 16 := fun i hi => List.mem_range.mp (hl16.subset hi)
  have o16 : ∀ i ∈ o, i < 16 := fun i hi => List.mem_range.mp (ho.subset hi)
  have on : o.Nodup := List.nodup_range.sublist ho
  have ln : l.Nodup := List.nodup_range.sublist hl16
  have ll : l.length ≤ 16 := by have := hl16.length_le; simpa using this
  have ol : o.length ≤ 16 := by have := ho.length_le; simpa using this
  obtain ⟨d, c4, m4, k4, e4⟩ := tk 2 (by decide) (by decide) c3 m3 k3 [some (.v (.lst (nd l))), some (.v (.lst (nd o))), none, none, none, none, none, none, none, none]
  have z4 : (4 : Nat) ≤ sizeLine := z_le (by decide)
  have rl : -(2 : Int) ^ 62 ≤ (N : Int) ∧ (N : Int) < 2 ^ 62 := by omega
  have rN : (rngL 0 N).length ≤ sizeLine := by simp [rngL]; exact z_le (by omega)
  have r16 : (rngL 0 16).length ≤ sizeLine := by simp [rngL]; exact z_le (by omega)
  have nl : ∀ a : List Nat, (nd a).length = a.length := fun a => by simp [nd]
  have zl : l.length ≤ sizeLine := z_le (by omega)
  have fin : ∀ o' : List Nat, o'.Nodup → (∀ i ∈ o', i < 16) → ∃ e, T_law_day_sets_3 [some (.own [.int c4, .int m4, .int k4]), some (.v (.lst (nd l))), some (.v (.lst (nd o'))), none, none, none, none, none, none, none, none] = .ret (.bl true) (some (.own [.int c4, .int m4, .int k4]) :: e) := fun o' h1 h2 => sets_tail hl16 h1 h2
  refine ⟨c4, m4, k4, ?_⟩
  show runF _ _ _ B_law_day_sets' _ = _
  simp only [List.map_cons, List.map_nil] at e1
  have e1' : fnM F_law_of [.o 0, .p (lstM [(cM (.int 2)), (cM (.int 4)), (cM (.int 8)), (cM (.int 16))])] [] [some (.own [.int c, .int m, .int k]), none, none, none, none, none, none, none, none, none, none] = .ok (.int (N : Int)) [some (.own [.int c1, .int m1, .int k1]), none, none, none, none, none, none, none, none, none, none] := by
    simp [e1, z4]
  have r62 : (-(2 : Int) ^ 62 ≤ 16 ∧ (16 : Int) < 2 ^ 62) = True := eq_true (by decide)
  have r16' : (16 : Int).toNat = 16 := rfl
  by_cases hd : d = 0
  · subst hd
    have hc : catL (.lst (nd o)) (.lst (nd (l.filter fun i => decide (i ∉ o)))) = some (.lst (nd (o ++ l.filter fun i => decide (i ∉ o)))) := by
      have h : (nd o).length + (nd (l.filter fun i => decide (i ∉ o))).length ≤ sizeLine := by
        rw [nl, nl]
        have := List.length_filter_le (fun i => decide (i ∉ o)) l
        exact z_le (by omega)
      show (if _ then some (D.lst (nd o ++ nd (l.filter fun i => decide (i ∉ o)))) else none) = _
      rw [if_pos h]; simp [nd]
    obtain ⟨e, h⟩ := fin (o ++ l.filter fun i => decide (i ∉ o)) (by
      rw [List.nodup_append]
      refine ⟨on, ln.sublist List.filter_sublist, fun a ha b hb => ?_⟩
      have := (List.mem_filter.mp hb).2
      intro z; subst z; simp [ha] at this) (fun i hi => by
      rcases List.mem_append.mp hi with h | h
      · exact o16 i h
      · exact h16 i (List.mem_filter.mp h).1)
    have nc := fun x0 x3 x4 x5 x6 x7 x8 x10 => notin_comp l o x0 (some (.v (.lst (nd l)))) x3 x4 x5 x6 x7 x8 x10 rfl
    simp only [B_law_day_sets', T_law_day_sets_1, T_law_day_sets_2, runF_s, List.map_cons, List.map_nil, List.length_cons, List.length_nil, List.cons_append, List.nil_append, Nat.reduceAdd, Nat.reduceSub, List.replicate_succ, List.replicate_zero, seqM_s, setM_s, compM_s, rng1M_s, e1', bind_ok, rl, and_self, if_true, Int.toNat_natCast, rN, e2, toS_ok, List.set_cons_succ, List.set_cons_zero, th_nx, cM_s, r62, r16', e3, r16, iffM_s, cmpM_s, e4, eqS_ii, liftB_s, decide_true, op2M_s, varM_s, List.getElem?_cons_zero, List.getElem?_cons_succ, asL_s, nl, zl, nc, hc, liftO_s]
    rw [h]; simp
  · obtain ⟨e, h⟩ := fin o on o16
    simp only [B_law_day_sets', T_law_day_sets_1, T_law_day_sets_2, runF_s, List.map_cons, List.map_nil, List.length_cons, List.length_nil, List.cons_append, List.nil_append, Nat.reduceAdd, Nat.reduceSub, List.replicate_succ, List.replicate_zero, seqM_s, setM_s, compM_s, rng1M_s, e1', bind_ok, rl, and_self, if_true, Int.toNat_natCast, rN, e2, toS_ok, List.set_cons_succ, List.set_cons_zero, th_nx, cM_s, r62, r16', e3, r16, iffM_s, cmpM_s, e4, eqS_ii, liftB_s, decide_true, op2M_s, varM_s, List.getElem?_cons_zero, List.getElem?_cons_succ, asL_s, nl, zl, hd, decide_false, Bool.false_eq_true, if_false, nilM_s]
    rw [h]; simp
end Lw

set_option linter.all false
set_option Elab.async false
set_option maxRecDepth 100000
set_option maxHeartbeats 4000000
set_option exponentiation.threshold 5000
namespace Lw
open PySem Ue
theorem inner {s : D} {x1 : Option EV} : ∀ (ds : List D) (x3 : Option EV) (c m k : Int), ∃ c' m' k' y3, forM (tgN 3) L_law_0 ds [some (.v s), x1, some (.own [.int c, .int m, .int k]), x3] = .nx [some (.v s), x1, some (.own [.int c', .int m', .int k']), y3]
  | [], x3, c, m, k => ⟨c, m, k, x3, rfl⟩
  | d :: ds, x3, c, m, k => by
    obtain ⟨c1, m1, k1, e1⟩ := ratios_ok (c := c) (m := m) (k := k)
    obtain ⟨c2, m2, k2, e2⟩ := wholes_ok (c := c1) (m := m1) (k := k1)
    obtain ⟨c3, m3, k3, e3⟩ := day_sets_ok (c := c2) (m := m2) (k := k2)
    obtain ⟨c4, m4, k4, y3, e⟩ := inner (s := s) (x1 := x1) ds (some (.v d)) c3 m3 k3
    have b : L_law_0 [some (.v s), x1, some (.own [.int c, .int m, .int k]), some (.v d)] = .nx [some (.v s), x1, some (.own [.int c3, .int m3, .int k3]), some (.v d)] := by
      simp [L_law_0, e1, e2, e3]
    refine ⟨c4, m4, k4, y3, ?_⟩
    rw [forM_c, tgN_s]
    simp only [List.set_cons_succ, List.set_cons_zero, b, loopS_nx, e]
theorem outer {ns : List Int} (hl : ns.length ≤ 63) : ∀ (ds : List D) (x1 x2 x3 : Option EV), (∀ d ∈ ds, ∃ i : Nat, d = .int (i : Int) ∧ i < 4 ∧ (i < ns.length ∨ i = 0)) → ∃ y1 y2 y3, forM (tgN 1) L_law_1 ds [some (.v (.scr ns)), x1, x2, x3] = .nx [some (.v (.scr ns)), y1, y2, y3]
  | [], x1, x2, x3, _ => ⟨x1, x2, x3, rfl⟩
  | d :: ds, x1, x2, x3, h => by
    obtain ⟨i, rfl, h4, hi⟩ := h d (by simp)
    obtain ⟨c, m, e1⟩ := bag_ok (ns := ns) (i := i) hl hi h4
    obtain ⟨c2, m2, k2, z3, e2⟩ := inner (s := .scr ns) (x1 := some (.v (.int (i : Int)))) (rngL 0 3) x3 c m 0
    obtain ⟨y1, y2, y3, e⟩ := outer hl ds (some (.v (.int (i : Int)))) (some (.own [.int c2, .int m2, .int k2])) z3 fun d hd => h d (by simp [hd])
    have b : L_law_1 [some (.v (.scr ns)), some (.v (.int (i : Int))), x2, x3] = .nx [some (.v (.scr ns)), some (.v (.int (i : Int))), some (.own [.int c2, .int m2, .int k2]), z3] := by
      simp [L_law_1, e1, e2]
    refine ⟨y1, y2, y3, ?_⟩
    rw [forM_c, tgN_s]
    simp only [List.set_cons_succ, List.set_cons_zero, b, loopS_nx, e]
theorem law_true : ∀ ns : List Int, ns.length ≤ 63 → ∃ as, F_law [.v (.scr ns)] = .ok (.bl true) as := by
  intro ns hl
  have hn : ∃ N : Nat, (if (if (ns.length : Int) < 4 then (ns.length : Int) else 4) > 1 then (if (ns.length : Int) < 4 then (ns.length : Int) else 4) else 1) = (N : Int) ∧ N ≤ 4 ∧ (N ≤ ns.length ∨ N = 1) := by
    rcases Nat.lt_or_ge ns.length 4 with h | h
    · rcases Nat.lt_or_ge 1 ns.length with g | g
      · exact ⟨ns.length, by rw [if_pos (show (ns.length : Int) < 4 by omega), if_pos (by omega)], by omega, .inl (Nat.le_refl _)⟩
      · exact ⟨1, by rw [if_pos (show (ns.length : Int) < 4 by omega), if_neg (by omega)]; rfl, by omega, .inr rfl⟩
    · exact ⟨4, by rw [if_neg (show ¬ (ns.length : Int) < 4 by omega), if_pos (by omega)]; rfl, by omega, .inl h⟩
  obtain ⟨N, hN, h4, h5⟩ := hn
  obtain ⟨y1, y2, y3, e⟩ := outer hl (rngL 0 N) none none none (by
    intro d hd
    rw [rng_nd] at hd
    obtain ⟨i, hi, rfl⟩ := List.mem_map.mp hd
    rw [List.mem_range] at hi
    exact ⟨i, rfl, by omega, by omega⟩)
  have r : -(2 : Int) ^ 62 ≤ (N : Int) ∧ (N : Int) < 2 ^ 62 := by omega
  refine ⟨[.v (.scr ns)], ?_⟩
  simp only [u_law, runF_s, List.map_cons, List.map_nil, List.length_cons, List.length_nil, List.cons_append, List.nil_append, Nat.reduceAdd, Nat.reduceSub, List.replicate_succ, List.replicate_zero, seqM_s, forS_s, rng1M_s, callM_s, argsM_c, argsM_n, cM_s, varM_s, List.getElem?_cons_zero, bind_ok, lenD_s, liftO_s, ii_s, hN, r, and_self, if_true, Int.toNat_natCast, toS_ok, e, th_nx, retM_s, endF_ret, finA_v, finA_n, Option.map_some]
end Lw

open PySem PySem.W PySem.Calls PyProof.Rows
theorem PySem.Challenge.cw_usualdays_k01_ratios_and_day_sets_holds : PySem.Challenge.rw_usualdays_k01_ratios_and_day_sets.Holds := by
  w_on; o_law
  refine HandSHeadRun.head_imp (r := OpenLaw.row PySem.Challenge.rw_usualdays_k01_ratios_and_day_sets) (q := view (OpenLaw.row PySem.Challenge.rw_usualdays_k01_ratios_and_day_sets).prog [0, 26]) (H := Lw.hk) (ob := Lw.ob) (M := 3000) (loose := (["DaysError", "BadRatio", "is_whole", "ratio", "compare_ratios", "ratio_sum", "ratio_product", "days_in", "set_of", "size", "within", "_law_bag", "_law_take", "_law_of", "_law_number", "_law_divisor", "_law_is_ratio", "_law_refused", "_law_ratios", "_law_wholes", "_law_day_sets"] : List PySem.Str)) (d := HandSHeadRun.topDef (OpenLaw.row PySem.Challenge.rw_usualdays_k01_ratios_and_day_sets).prog 26) (kwd := []) Lw.ob_eq Lw.run
    (by kernel_rfl) (by kernel_rfl) (by kernel_rfl) (by rfl) (by first | assumption | decide +kernel)
    (by decide +kernel) ⟨rfl, rfl, rfl, rfl, rfl, by decide +kernel⟩ ?hw ?hc
  case hw => w_witness2
  case hc =>
    refine Ue.walk_ofU (lw := PySem.Challenge.rw_usualdays_k01_ratios_and_day_sets) (mx := 63) (lv := 6) (x := "_law_script") rfl (by decide) (by kernel_rfl) ⟨rfl, by decide, by decide⟩ ?Z
    intro w mg f0 hp Y G hmg0
    obtain ⟨K, KX, c⟩ := Y
    have e1 : (HandSHeadRun.topDef (OpenLaw.row PySem.Challenge.rw_usualdays_k01_ratios_and_day_sets).prog 26).name = ("law" : PySem.Str) := by kernel_rfl
    rw [e1] at hmg0
    have e2 := hmg0.symm.trans (Lw.m_law KX G c)
    cases e2
    obtain ⟨fd, hb, hF⟩ := Lw.ok_law (P := (PySem.Challenge.rw_usualdays_k01_ratios_and_day_sets).prog) (w := w) KX G c
    exact ⟨Lw.tab K, fd, Lw.F_law, KX, hb, Lw.law_true, fun base _ _ => hF base⟩

